import PyProof.Rows.All
import Wide.All
import OpenK.AllK
import Wide.FinOn
import HandS.ForMost
import HandS.IsInst
import HandS.Evl
import HandS.Walk
import HandS.Star
import HandS.Style
import HandS.TupAny
import HandS.DictComp
import KE.GoesMore
import KE.GoesEnum
import HandS.ForExc
import HandS.OwnEq
import HandS.ClsMeth
import HandS.Property
import OpenK.KOps
import OpenK.KMeth
import HandS.More
import HandS.Deep
import HandS.Codes
import HandS.Zip
import HandS.TryOnly
import HandS.WordsExc
import HandS.RaiseMore
import HandS.Dict
import HandS.Conv
import HandS.ListItems
import HandS.Exc
import HandS.TryMany
import HandS.ExcField
import HandS.ExcInit
import KE.RegKIsAll
import PySem.Challenge.RW_firstneed_k06_whole_terms_and_their_text
set_option Elab.async false
set_option maxRecDepth 100000
/-! Own layer: dice that hide their numbers, heaps that only grow, repr of plain values. -/
namespace Ly
open PySem PySem.Spec PyProof.Rows L2

/-! ### heaps that only grow -/
def Gx (H H' : Hp) : Prop := ∀ a o, H a = some o → H' a = some o
theorem Gx.refl (H : Hp) : Gx H H := fun _ _ h => h
theorem Gx.trans {H H1 H2 : Hp} (a : Gx H H1) (b : Gx H1 H2) : Gx H H2 := fun x o h => b x o (a x o h)
theorem Gx.new {H : Hp} {p : Addr} {o : HO} (h : H p = none) : Gx H (upd H p o) := fun a u e => by
  rw [upd_ne (ne_of_none e h)]
  exact e
theorem Gx.mut {H H' : Hp} {p : Addr} {o : HO} (e : Gx H H') (h : H p = none) : Gx H (upd H' p o) := fun a u ha => by
  rw [upd_ne (ne_of_none ha h)]
  exact e a u ha
theorem Gx.free {H H' : Hp} {p : Addr} (e : Gx H H') (h : H' p = none) : H p = none := by
  cases q : H p with
  | none => rfl
  | some o =>
    rw [e p o q] at h
    cases h
theorem Gx.rd {H H' : Hp} {a : Addr} {u : HO} (e : Gx H H') (h : Rd H a u) : Rd H' a u := by
  rcases h with h | ⟨o, h⟩
  · exact Or.inl (e a _ h)
  · exact Or.inr ⟨o, e a _ h⟩
theorem Gx.l {K : PySem.W.Frag} {H H' : Hp} {a : Addr} {xs : List V} (e : Gx H H') (h : SqL K H a xs) : SqL K H' a xs := by
  rcases h with h | h
  · exact Or.inl (e.rd h)
  · exact Or.inr h
theorem Gx.t {K : PySem.W.Frag} {H H' : Hp} {a : Addr} {xs : List V} (e : Gx H H') (h : SqT K H a xs) : SqT K H' a xs := by
  rcases h with h | h
  · exact Or.inl (e.rd h)
  · exact Or.inr h

/-! ### dice: a list of three ints whose numbers nobody asks for -/
def diceP (p : Addr) : Heap → Prop := fun h => ∃ (a b c : Int) (t u v : Tok) (n : Nat), h.get? p = some { cls := .type "list", data := .seq #[.int a t, .int b u, .int c v] n }
def diceO (p : Addr) : HO := .ext (diceP p)
abbrev three (a b c : Int) : HO := .lst [.int a, .int b, .int c]
section
variable {P : Program} {w : World} {H H1 : Hp} {h h1 : Heap} {p : Addr} {fs ex : List Addr}
theorem hok_hide {a b c : Int} (x : HOk P w H h) (e : H p = some (three a b c)) : HOk P w (upd H p (diceO p)) h := by
  intro q o eq
  by_cases hq : q = p
  · subst hq
    rw [upd_same] at eq
    cases eq
    obtain ⟨_, its, n, r, g⟩ := x q _ e
    cases r with
    | cons ra r =>
      cases r with
      | cons rb r =>
        cases r with
        | cons rc r =>
          cases r
          obtain ⟨t, rfl⟩ := ra
          obtain ⟨u, rfl⟩ := rb
          obtain ⟨v, rfl⟩ := rc
          refine ⟨⟨a, b, c, t, u, v, n, g⟩, ⟨_, g⟩, ?_⟩
          rintro h1 h2 ⟨a, b, c, t, u, v, n, g⟩ k
          exact ⟨a, b, c, t, u, v, n, k _ g⟩
  · rw [upd_ne hq] at eq
    refine (x q o eq).stay (fun _ _ _ z => z) (fun b z => ?_) fun b xs z => ?_
    · rw [upd_ne]
      · exact z
      · intro z2
        subst z2
        rw [e] at z
        cases z
    · rw [upd_ne]
      · exact z
      · intro z2
        subst z2
        rw [e] at z
        cases z
theorem hok_show (x : HOk P w H h) (e : H p = some (diceO p)) : ∃ a b c, HOk P w (upd H p (three a b c)) h := by
  obtain ⟨⟨a, b, c, t, u, v, n, g⟩, _, _⟩ := x p _ e
  refine ⟨a, b, c, fun q o eq => ?_⟩
  by_cases hq : q = p
  · subst hq
    rw [upd_same] at eq
    cases eq
    refine ⟨by show 3 ≤ sizeLine; decide, [.int a t, .int b u, .int c v], n, .cons ⟨t, rfl⟩ (.cons ⟨u, rfl⟩ (.cons ⟨v, rfl⟩ .nil)), g⟩
  · rw [upd_ne hq] at eq
    refine (x q o eq).stay (fun _ _ _ z => z) (fun b z => ?_) fun b xs z => ?_
    · rw [upd_ne]
      · exact z
      · intro z2
        subst z2
        rw [e] at z
        cases z
    · rw [upd_ne]
      · exact z
      · intro z2
        subst z2
        rw [e] at z
        cases z
theorem un_hide {xs : List V} (u : Un fs ex H H1 h h1) (e : H1 p = some (.lst xs)) : Un fs ex H (upd H1 p (diceO p)) h h1 where
  keep := u.keep
  slot := u.slot
  free := fun b o g n hx => by
    have z := u.free b o g n hx
    rw [upd_ne (fun q => by subst q; rw [e] at z; cases z)]
    exact z
  there := u.there
  tups := fun b ys g => by
    have z := u.tups b ys g
    rw [upd_ne (fun q => by subst q; rw [e] at z; cases z)]
    exact z
  frzs := fun b o v g => by
    have z := u.frzs b o v g
    rw [upd_ne (fun q => by subst q; rw [e] at z; cases z)]
    exact z
  tbls := fun b ps g => by
    obtain ⟨m, z⟩ := u.tbls b ps g
    refine ⟨m, ?_⟩
    rw [upd_ne (fun q => by subst q; rw [e] at z; cases z)]
    exact z
theorem un_show {o : HO} (u : Un fs ex (upd H p o) H1 h h1) (e : H p = some (diceO p)) : Un fs ex H H1 h h1 where
  keep := fun b o g n => u.keep b o g (by rw [upd_ne (fun q => by subst q; rw [e] at n; cases n)]; exact n)
  slot := fun b o g n => u.slot b o g (by rw [upd_ne (fun q => by subst q; rw [e] at n; cases n)]; exact n)
  free := fun b o g n => u.free b o g (by rw [upd_ne (fun q => by subst q; rw [e] at n; cases n)]; exact n)
  there := u.there
  tups := fun b ys g => u.tups b ys (by rw [upd_ne (fun q => by subst q; rw [e] at g; cases g)]; exact g)
  frzs := fun b o v g => u.frzs b o v (by rw [upd_ne (fun q => by subst q; rw [e] at g; cases g)]; exact g)
  tbls := fun b ps g => u.tbls b ps (by rw [upd_ne (fun q => by subst q; rw [e] at g; cases g)]; exact g)
end
section
variable {P : Program} {w : World} {K : PySem.W.Frag} {mg : Str → Option Value} {base : Heap} {k : Nat} {f : Addr} {fd : FuncData} {ps : List Str} {sp : Sp} {CX : CXT}
/-- a def that reads and writes dice, seen from without -/
theorem fn_dice (F : FnOk P w K mg base CX0 k f fd ps sp) : FnOk P w K mg base CX0 k f fd ps (fun vs H Q E => vs.length = ps.length ∧ ∃ p, H p = some (diceO p) ∧
    ∀ a b c, sp vs (upd H p (three a b c)) (fun v H' => (∃ a' b' c', H' p = some (three a' b' c')) ∧ Q v (upd H' p (diceO p))) E) := by
  refine ⟨fun vs H Q E h => h.1, fun A outer s H args us vs Q E hr he hb hv hs => ?_⟩
  obtain ⟨_, p, hp, hs⟩ := hs
  obtain ⟨a, b, c, hok⟩ := hok_show he.hok hp
  have he' : Env0 P w K mg base A outer s (upd H p (three a b c)) := ⟨he.frames, he.mod, fun q o g => by
    obtain ⟨z1, z2⟩ := he.bs q o g
    refine ⟨z1, ?_⟩
    rw [upd_ne (fun y => by subst y; rw [hp] at z2; cases z2)]
    exact z2, he.bsz, he.funs, fun q g => by
    have z2 := he.frf q g
    rw [upd_ne (fun y => by subst y; rw [hp] at z2; cases z2)]
    exact z2, hok, he.bare⟩
  refine codeAny_mono (F.run A outer s _ args us vs _ E hr he' hb hv (hs a b c)) fun r s' h => ?_
  match r, h with
  | .ok (.ret u), h =>
    obtain ⟨v, H', os, bare, un, hok', rv, ⟨a', b', c', e'⟩, q⟩ := h
    exact ⟨v, upd H' p (diceO p), os, bare, un_hide (un_show un hp) e', hok_hide hok' e', rv, q⟩
/-- a def that makes dice -/
theorem fn_mkdice (F : FnOk P w K mg base CX0 k f fd ps sp) : FnOk P w K mg base CX0 k f fd ps (fun vs H Q E => sp vs H (fun v H' => ∃ p a b c, v = .ref p ∧ H' p = some (three a b c) ∧ Q (.ref p) (upd H' p (diceO p))) E) := by
  refine ⟨fun vs H Q E h => F.len _ _ _ _ h, fun A outer s H args us vs Q E hr he hb hv hs => ?_⟩
  refine codeAny_mono (F.run A outer s _ args us vs _ E hr he hb hv hs) fun r s' h => ?_
  match r, h with
  | .ok (.ret u), h =>
    obtain ⟨v, H', os, bare, un, hok', rv, p, a, b, c, rfl, e, q⟩ := h
    exact ⟨.ref p, upd H' p (diceO p), os, bare, un_hide un e, hok_hide hok' e, rv, q⟩
end
theorem upd_id {H : Hp} {p : Addr} {o : HO} (h : H p = some o) : upd H p o = H := by
  funext q
  by_cases e : q = p
  · subst e
    rw [upd_same, h]
  · rw [upd_ne e]

/-! ### a def of the text, for its callers -/
structure Cal (P : Program) (w : World) (K : PySem.W.Frag) (mg : Str → Option Value) (base : Heap) (x : Str) (k : Nat) (ps : List Str) (sp : Sp) : Prop where
  ex : ∃ (f : Addr) (fd : FuncData), FnOk P w K mg base CX0 k f fd ps sp ∧ mg x = some (.ref f) ∧ PySem.W.keepIn K (.ref f) = true ∧ Binds K fd ps []
section
variable {X : Cx} {k : Nat} {ps : List Str} {sp : Sp} {x : Str} {p pos : Pos} {e : Expr} {es : List Expr} {t : TA}
theorem pe_cal (C : Cal X.prog X.w X.K X.mg X.base x k ps sp) (hr : Room k X.A) (hg : Gl X x) (ha : PA X (e :: es) t) (hdb : (x == ("__debug__" : Str)) = false := by decide)
    (he : starEach (e :: es) X.env = (false, eval e X.env) :: starEach es X.env := by rfl) (hpl : (backTo pos (starEach es X.env)).any (·.1) = false := by rfl) :
    PE X (.Call (.Name x p) (e :: es) [] pos) (tCall sp [] E0 t) := by
  obtain ⟨f, fd, F, hm, hk, hb⟩ := C.ex
  exact pe_call F hr hg hm hk hb .nil pass0 ha hdb he hpl
theorem pe_cal0 (C : Cal X.prog X.w X.K X.mg X.base x k ps sp) (hr : Room k X.A) (hg : Gl X x) (hdb : (x == ("__debug__" : Str)) = false := by decide) :
    PE X (.Call (.Name x p) [] [] pos) (tCall sp [] E0 tNil) := by
  obtain ⟨f, fd, F, hm, hk, hb⟩ := C.ex
  exact pe_call0 F hr hg hm hk hb .nil pass0 hdb
end

/-! ### operators -/
section
variable {X : Cx}
def CPowW (i j : Int) : Prop := 0 ≤ j ∧ (Builtin.Int.intBits i : Int) * j ≤ 2 ^ 27
theorem op_powW : OpR X (binaryOp .Pow) (rI CPowW fun i j => .int (i ^ j.toNat)) := opI fun _ _ _ _ _ _ _ hc q => pow_int hc.1 hc.2 q
theorem call_reprB : CallR X (.builtin "repr") (fun xs H Q => ∃ b, xs = [.bl b] ∧ Q (.str (if b then "True" else "False")) H) := by
  intro pins s σ H xs us Q I r h
  obtain ⟨b, rfl, q⟩ := h
  obtain ⟨u, rfl, ru⟩ := vals1 r
  obtain rfl : u = Value.bool b := ru
  exact PySem.P.repr_of_bool ⟨.str _, H, I.tok _, ⟨_, rfl⟩, q⟩
end

/-! ### what is evaluated, by what is true of it, on heaps that grow -/
abbrev Ty := V → Hp → Prop
def Mono (Φ : Ty) : Prop := ∀ v H H', Gx H H' → Φ v H → Φ v H'
def EvG (te : TE) (σ : L2.St) (H : Hp) (Φ : Ty) : Prop := ∀ H1, Gx H H1 → ∀ Q : VK, (∀ v H2, Gx H1 H2 → Φ v H2 → Q v H2) → te σ H1 Q
def EvGs (ta : TA) (σ : L2.St) (H : Hp) (Ψ : List V → Hp → Prop) : Prop := ∀ H1, Gx H H1 → ∀ Q : List V → Hp → Prop, (∀ vs H2, Gx H1 H2 → Ψ vs H2 → Q vs H2) → ta σ H1 Q
section
variable {σ : L2.St} {H H' : Hp} {te ta tb : TE} {tr : TA} {Φ Φ' : Ty} {v : V} {Q : VK}
theorem EvG.use (h : EvG te σ H Φ) (k : ∀ v H2, Gx H H2 → Φ v H2 → Q v H2) : te σ H Q := h H (Gx.refl H) Q k
theorem EvGs.use {Ψ : List V → Hp → Prop} {Q : List V → Hp → Prop} (h : EvGs tr σ H Ψ) (k : ∀ vs H2, Gx H H2 → Ψ vs H2 → Q vs H2) : tr σ H Q := h H (Gx.refl H) Q k
theorem EvG.mono (e : Gx H H') (h : EvG te σ H Φ) : EvG te σ H' Φ := fun H1 a Q q => h H1 (e.trans a) Q q
theorem EvG.imp (h : EvG te σ H Φ) (i : ∀ v H2, Gx H H2 → Φ v H2 → Φ' v H2) : EvG te σ H Φ' := fun H1 a Q q => h H1 a Q fun v H2 e f => q v H2 e (i v H2 (a.trans e) f)
theorem evg_var {i : Nat} (h : σ[i]? = some (some v)) (m : ∀ H1, Gx H H1 → Φ v H1) : EvG (tVar i) σ H Φ := fun H1 e _ q => ⟨v, h, q v H1 (Gx.refl H1) (m H1 e)⟩
theorem evg_c (m : ∀ H1, Gx H H1 → Φ v H1) : EvG (tC v) σ H Φ := fun H1 e _ q => q v H1 (Gx.refl H1) (m H1 e)
theorem evgs_nil {Ψ : List V → Hp → Prop} (m : ∀ H1, Gx H H1 → Ψ [] H1) : EvGs tNil σ H Ψ := fun H1 e _ q => q [] H1 (Gx.refl H1) (m H1 e)
theorem evgs_cons {Ψ : List V → Hp → Prop} (h : EvG ta σ H Φ) (k : ∀ v H1, Gx H H1 → Φ v H1 → EvGs tr σ H1 (fun vs H2 => Ψ (v :: vs) H2)) : EvGs (tCons ta tr) σ H Ψ := fun H1 e _ q =>
  h H1 e _ fun v H2 e2 f => (k v H2 (e.trans e2) f) H2 (Gx.refl H2) _ fun vs H3 e3 g => q (v :: vs) H3 (e2.trans e3) g
/-- all of one kind -/
def AllT (Φ : Ty) (n : Nat) : List V → Hp → Prop := fun vs H => vs.length = n ∧ ∀ x ∈ vs, Φ x H
theorem AllT.mono {n : Nat} {vs : List V} (m : Mono Φ) (e : Gx H H') (h : AllT Φ n vs H) : AllT Φ n vs H' := ⟨h.1, fun x hx => m _ _ _ e (h.2 x hx)⟩
theorem evgs_none : EvGs tNil σ H (AllT Φ 0) := evgs_nil fun _ _ => ⟨rfl, fun x h => by cases h⟩
theorem evgs_more {n : Nat} (m : Mono Φ) (h : EvG ta σ H Φ) (k : ∀ H1, Gx H H1 → EvGs tr σ H1 (AllT Φ n)) : EvGs (tCons ta tr) σ H (AllT Φ (n + 1)) :=
  evgs_cons h fun v H1 e f => fun H2 e2 Q q => k H1 e H2 e2 Q fun vs H3 e3 g => q vs H3 e3 ⟨by rw [List.length_cons, g.1], fun x hx => by
    rcases List.mem_cons.mp hx with rfl | hx
    · exact m _ _ _ (e2.trans e3) f
    · exact g.2 x hx⟩
theorem evg_tup {Ψ : List V → Hp → Prop} (h : EvGs tr σ H Ψ) (hl : ∀ vs H1, Ψ vs H1 → vs.length ≤ 100000) (m : ∀ vs p H1 H2, Ψ vs H1 → Gx H1 H2 → H1 p = none → H2 p = some (.tup vs) → Φ (.ref p) H2) : EvG (tTup tr) σ H Φ := fun H1 e Q q =>
  h H1 e _ fun vs H2 e2 g => ⟨Evl.sz_of (hl vs H2 g), fun p hp => q _ _ (e2.trans (Gx.new hp)) (m vs p H2 _ g (Gx.new hp) hp upd_same)⟩
theorem evg_lst {Ψ : List V → Hp → Prop} (h : EvGs tr σ H Ψ) (hl : ∀ vs H1, Ψ vs H1 → vs.length ≤ 100000) (m : ∀ vs p H1 H2, Ψ vs H1 → Gx H1 H2 → H1 p = none → H2 p = some (.lst vs) → Φ (.ref p) H2) : EvG (tLst tr) σ H Φ := fun H1 e Q q =>
  h H1 e _ fun vs H2 e2 g => ⟨Evl.sz_of (hl vs H2 g), fun p hp => q _ _ (e2.trans (Gx.new hp)) (m vs p H2 _ g (Gx.new hp) hp upd_same)⟩
end
/-- heaps in which all stays but what lists hold -/
def Kx (H H' : Hp) : Prop := ∀ a o, H a = some o → H' a = some o ∨ ∃ xs ys, o = .lst xs ∧ H' a = some (.lst ys)
theorem Gx.k {H H' : Hp} (e : Gx H H') : Kx H H' := fun a o h => .inl (e a o h)
theorem Kx.refl (H : Hp) : Kx H H := fun _ _ h => .inl h
theorem Kx.trans {H H1 H2 : Hp} (a : Kx H H1) (b : Kx H1 H2) : Kx H H2 := fun x o h => by
  rcases a x o h with h1 | ⟨xs, ys, e, h1⟩
  · exact b x o h1
  · rcases b x _ h1 with h2 | ⟨xs2, ys2, _, h2⟩
    · exact .inr ⟨xs, ys, e, h2⟩
    · exact .inr ⟨xs, ys2, e, h2⟩
theorem Kx.put {H : Hp} {p : Addr} {xs ys : List V} (h : H p = some (.lst xs)) : Kx H (upd H p (.lst ys)) := fun a o e => by
  by_cases q : a = p
  · subst q
    rw [h] at e
    cases e
    exact .inr ⟨xs, ys, rfl, upd_same⟩
  · exact .inl (by rw [upd_ne q]; exact e)
theorem Kx.keep {H H' : Hp} (e : Kx H H') {a : Addr} {o : HO} (h : H a = some o) (n : ∀ xs, o ≠ .lst xs) : H' a = some o := by
  rcases e a o h with h1 | ⟨xs, _, z, _⟩
  · exact h1
  · exact absurd z (n xs)
theorem Kx.tup {H H' : Hp} (e : Kx H H') {a : Addr} {xs : List V} (h : H a = some (.tup xs)) : H' a = some (.tup xs) := e.keep h fun _ z => by cases z
theorem Kx.dice {H H' : Hp} (e : Kx H H') {a : Addr} (h : H a = some (diceO a)) : H' a = some (diceO a) := e.keep h fun _ z => by cases z
/-- true whatever lists hold -/
def Firm (Φ : Ty) : Prop := ∀ v H H', Kx H H' → Φ v H → Φ v H'
theorem Firm.mono {Φ : Ty} (h : Firm Φ) : Mono Φ := fun v H H' e f => h v H H' e.k f
inductive Kd | non | bl | int | str | lst | tup | dic | own
  deriving DecidableEq
/-- the answer of isinstance of such a value and a built-in type -/
def kdIs : Kd → String → Bool
  | .bl, n => n == "bool" || n == "int"
  | .int, n => n == "int"
  | .str, n => n == "str"
  | .lst, n => n == "list"
  | .tup, n => n == "tuple"
  | .dic, n => n == "dict"
  | _, _ => false
/-- the built-in types that are asked for -/
def asked : List String := ["int", "bool", "str", "list", "tuple", "dict"]
/-- a class of the text whose instances are none of these -/
structure Own (K : PySem.W.Frag) (C : Addr) : Prop where
  cl : Cls K C
  ha : PySem.W.findIn K (.ref C) "__class__" = some (some (.builtin "object.__class__"))
  hn : PySem.W.specialIn K (.builtin "object.__class__") "__get__" = some (some (.builtin "getset_descriptor.__get__"))
  htk : PySem.W.takesIn K (.builtin "object.__class__") = some true
  hm : PySem.W.mroIn K C (.type "object") = some true
  no : ∀ n ∈ asked, PySem.W.kitOne K (.ref C) (.type n) = some false
/-- a plain value of a built-in type, or an instance -/
inductive Pl (K : PySem.W.Frag) (H : Hp) : V → Kd → Prop
  | non : Pl K H .non .non
  | bl (b : Bool) : Pl K H (.bl b) .bl
  | int (i : Int) : Pl K H (.int i) .int
  | str (x : Str) : Pl K H (.str x) .str
  | lst {a : Addr} {xs : List V} (e : H a = some (.lst xs)) : Pl K H (.ref a) .lst
  | tup {a : Addr} {xs : List V} (e : H a = some (.tup xs)) : Pl K H (.ref a) .tup
  | dK {a : Addr} {kvs : List (Key × V)} (e : H a = some (.dK kvs)) : Pl K H (.ref a) .dic
  | own {a C dx : Addr} {fs : List (Str × V)} (e : H a = some (.ins C dx fs)) (o : Own K C) : Pl K H (.ref a) .own
theorem Pl.isi {K : PySem.W.Frag} {H : Hp} {v : V} {k : Kd} (h : Pl K H v k) {n : String} (hn : n ∈ asked) : ∃ t, TyX K H v t ∧ PySem.W.kitOne K t (.type n) = some (kdIs k n) := by
  have go : ∀ (t : String) (k : Kd), (∀ m ∈ asked, kitB t m = some (kdIs k m)) → PySem.W.kitOne K (.type t) (.type n) = some (kdIs k n) := fun t k q => kit_ty (q n hn)
  cases h with
  | non => exact ⟨_, .base .non, go _ _ (by decide +kernel)⟩
  | bl b => exact ⟨_, .base (.bl b), go _ _ (by decide +kernel)⟩
  | int i => exact ⟨_, .base (.int i), go _ _ (by decide +kernel)⟩
  | str x => exact ⟨_, .base (.str x), go _ _ (by decide +kernel)⟩
  | lst e => exact ⟨_, .base (.lst e), go _ _ (by decide +kernel)⟩
  | tup e => exact ⟨_, .base (.tup e), go _ _ (by decide +kernel)⟩
  | dK e => exact ⟨_, .base (.dK e), go _ _ (by decide +kernel)⟩
  | own e o => exact ⟨_, .base (.ins e o.cl o.ha o.hn o.htk o.hm), o.no n hn⟩
theorem Pl.firm {K : PySem.W.Frag} {k : Kd} : Firm (fun v H => Pl K H v k) := fun v H H' e h => by
  cases h with
  | non => exact .non
  | bl b => exact .bl b
  | int i => exact .int i
  | str x => exact .str x
  | lst h =>
    rcases e _ _ h with h1 | ⟨_, _, _, h1⟩
    · exact .lst h1
    · exact .lst h1
  | tup h => exact .tup (e.tup h)
  | dK h => exact .dK (e.keep h fun _ z => by cases z)
  | own h o => exact .own (e.keep h fun _ z => by cases z) o
theorem Pl.gx {K : PySem.W.Frag} {H H' : Hp} {v : V} {k : Kd} (e : Gx H H') (h : Pl K H v k) : Pl K H' v k := Pl.firm v H H' e.k h

section
variable {X : Cx} {x : Str} {pos : Pos}
theorem pe_ty (n : String) (hg : Gl X x) (hm : X.mg x = none) (hv : bootBuiltins x = some (.type n)) (hn : x ≠ "__name__" := by decide) (hd : (x == ("__debug__" : Str)) = false := by decide) : PE X (.Name x pos) (tC (.ty n)) := pe_bltn hg hm hv rfl hn hd
theorem pe_gint {i : Int} {t : Tok} (hg : Gl X x) (hm : X.mg x = some (.int i t)) (hd : (x == ("__debug__" : Str)) = false := by decide) : PE X (.Name x pos) (tC (.int i)) := pe_glob hg hm ⟨t, rfl⟩ hd
theorem pe_gstr {i : Str} {t : Tok} (hg : Gl X x) (hm : X.mg x = some (.str i t)) (hd : (x == ("__debug__" : Str)) = false := by decide) : PE X (.Name x pos) (tC (.str i)) := pe_glob hg hm ⟨t, rfl⟩ hd
theorem pe_gref {a : Addr} (hg : Gl X x) (hm : X.mg x = some (.ref a)) (hd : (x == ("__debug__" : Str)) = false := by decide) : PE X (.Name x pos) (tC (.ref a)) := pe_glob hg hm rfl hd
end

/-! ### ints, new lists, drawn items -/
def IntT (P : Int → Prop) : Ty := fun v _ => ∃ i, v = .int i ∧ P i
def BlT (P : Bool → Prop) : Ty := fun v _ => ∃ b, v = .bl b ∧ P b
def EvN (te : TE) (σ : L2.St) (H : Hp) (Φ : Addr → Hp → Prop) : Prop := ∀ H1, Gx H H1 → ∀ Q : VK, (∀ p H2, Gx H1 H2 → H1 p = none → Φ p H2 → Q (.ref p) H2) → te σ H1 Q
section
variable {K : PySem.W.Frag} {σ : L2.St} {H H' : Hp} {te ta tb : TE} {tr : TA} {Φ Φ' : Ty} {v : V} {Q : VK}
theorem EvN.use {Φ : Addr → Hp → Prop} (h : EvN te σ H Φ) (k : ∀ p H2, Gx H H2 → H p = none → Φ p H2 → Q (.ref p) H2) : te σ H Q := h H (Gx.refl H) Q k
theorem EvN.g {Φ : Addr → Hp → Prop} (h : EvN te σ H Φ) (k : ∀ p H1 H2, Gx H H1 → H1 p = none → Gx H1 H2 → Φ p H2 → Φ' (.ref p) H2) : EvG te σ H Φ' := fun H1 e Q q => h H1 e Q fun p H2 e2 n f => q _ H2 e2 (k p H1 H2 e n e2 f)
theorem evg_I {P R : Int → Prop} {C : Int → Int → Prop} {g : Int → Int → V} (ha : EvG ta σ H (IntT P)) (hb : EvG tb σ H (IntT R)) (hc : ∀ i j, P i → R j → C i j) (m : ∀ i j, P i → R j → ∀ H1, Gx H H1 → Φ (g i j) H1) : EvG (tOp (rI C g) ta tb) σ H Φ := fun H1 e Q q =>
  ha H1 e _ fun _ H2 e2 ⟨i, z, p⟩ => hb H2 (e.trans e2) _ fun _ H3 e3 ⟨j, z2, r⟩ => ⟨i, j, z, z2, hc i j p r, q _ H3 (e2.trans e3) (m i j p r H3 ((e.trans e2).trans e3))⟩
theorem evg_I0 {P R : Int → Prop} {g : Int → Int → V} (ha : EvG ta σ H (IntT P)) (hb : EvG tb σ H (IntT R)) (m : ∀ i j, P i → R j → ∀ H1, Gx H H1 → Φ (g i j) H1) : EvG (tOp (rI0 g) ta tb) σ H Φ := fun H1 e Q q =>
  ha H1 e _ fun _ H2 e2 ⟨i, z, p⟩ => hb H2 (e.trans e2) _ fun _ H3 e3 ⟨j, z2, r⟩ => ⟨i, j, z, z2, q _ H3 (e2.trans e3) (m i j p r H3 ((e.trans e2).trans e3))⟩
theorem evg_U {P : Int → Prop} {g : Int → V} (ha : EvG ta σ H (IntT P)) (m : ∀ i, P i → ∀ H1, Gx H H1 → Φ (g i) H1) : EvG (tUn (rU g) ta) σ H Φ := fun H1 e Q q =>
  ha H1 e _ fun _ H2 e2 ⟨i, z, p⟩ => ⟨i, z, q _ H2 e2 (m i p H2 (e.trans e2))⟩
theorem evg_i (i : Int) : EvG (tC (.int i)) σ H (IntT fun j => j = i) := evg_c fun _ _ => ⟨i, rfl, rfl⟩
theorem evg_vi {n : Nat} {i : Int} (h : σ[n]? = some (some (.int i))) : EvG (tVar n) σ H (IntT fun j => j = i) := evg_var h fun _ _ => ⟨i, rfl, rfl⟩
theorem evn_lst {Ψ : List V → Hp → Prop} {Φ : Addr → Hp → Prop} (h : EvGs tr σ H Ψ) (hl : ∀ vs H1, Ψ vs H1 → vs.length ≤ 100000) (m : ∀ vs p H1 H2, Gx H H1 → Ψ vs H1 → Gx H1 H2 → H1 p = none → H2 p = some (.lst vs) → Φ p H2) : EvN (tLst tr) σ H Φ := fun H1 e Q q =>
  h H1 e _ fun vs H2 e2 g => ⟨Evl.sz_of (hl vs H2 g), fun p hp => q _ _ (e2.trans (Gx.new hp)) (e2.free hp) (m vs p H2 _ (e.trans e2) g (Gx.new hp) hp upd_same)⟩
theorem evn_tup {Ψ : List V → Hp → Prop} {Φ : Addr → Hp → Prop} (h : EvGs tr σ H Ψ) (hl : ∀ vs H1, Ψ vs H1 → vs.length ≤ 100000) (m : ∀ vs p H1 H2, Gx H H1 → Ψ vs H1 → Gx H1 H2 → H1 p = none → H2 p = some (.tup vs) → Φ p H2) : EvN (tTup tr) σ H Φ := fun H1 e Q q =>
  h H1 e _ fun vs H2 e2 g => ⟨Evl.sz_of (hl vs H2 g), fun p hp => q _ _ (e2.trans (Gx.new hp)) (e2.free hp) (m vs p H2 _ (e.trans e2) g (Gx.new hp) hp upd_same)⟩
/-- a list of things of one kind, at a place -/
def Lof (Φ : Ty) (n : Nat) : Addr → Hp → Prop := fun p H => ∃ xs, H p = some (.lst xs) ∧ AllT Φ n xs H
def LofT (Φ : Ty) (n : Nat) : Ty := fun v H => ∃ p, v = .ref p ∧ Lof Φ n p H
theorem Lof.mono {n : Nat} {p : Addr} (m : Mono Φ) (e : Gx H H') (h : Lof Φ n p H) : Lof Φ n p H' := by
  obtain ⟨xs, h1, h2⟩ := h
  exact ⟨xs, e _ _ h1, h2.mono m e⟩
theorem LofT.mono {n : Nat} (m : Mono Φ) : Mono (LofT Φ n) := fun _ _ _ e ⟨p, h1, h2⟩ => ⟨p, h1, h2.mono m e⟩
theorem evn_all {n : Nat} (m : Mono Φ) (h : EvGs tr σ H (AllT Φ n)) (hn : n ≤ 100000) : EvN (tLst tr) σ H (Lof Φ n) :=
  evn_lst h (fun vs _ g => by rw [g.1]; exact hn) fun vs p _ _ _ g e2 _ hp => ⟨vs, hp, g.mono m e2⟩
theorem evg_all {n : Nat} (m : Mono Φ) (h : EvGs tr σ H (AllT Φ n)) (hn : n ≤ 100000) : EvG (tLst tr) σ H (LofT Φ n) := (evn_all m h hn).g fun p _ _ _ _ _ f => ⟨p, rfl, f⟩
theorem evn_cat {n k : Nat} (m : Mono Φ) (ha : EvG ta σ H (LofT Φ n)) (hb : EvG tb σ H (LofT Φ k)) (hn : n + k ≤ 100000) : EvN (tOp rCat ta tb) σ H (Lof Φ (n + k)) := fun H1 e Q q =>
  ha H1 e _ fun _ H2 e2 ⟨a, z, fa⟩ => hb H2 (e.trans e2) _ fun _ H3 e3 ⟨b, z2, ys, h1, h2⟩ => by
    obtain ⟨xs, h3, h4⟩ := fa.mono m e3
    refine ⟨a, b, xs, ys, z, z2, h3, h1, Evl.sz_of (by rw [h4.1, h2.1]; exact hn), fun p hp => q p _ ((e2.trans e3).trans (Gx.new hp)) ((e2.trans e3).free hp) ⟨_, upd_same, ?_⟩⟩
    refine ⟨by rw [List.length_append, h4.1, h2.1], fun x hx => m _ _ _ (Gx.new hp) ?_⟩
    rcases List.mem_append.mp hx with hx | hx
    · exact h4.2 x hx
    · exact h2.2 x hx
end

/-! ### the promises of the dice's defs -/
def spDice0 (K : PySem.W.Frag) : Sp := fun vs H Q _ => ∃ (a : Addr) (ns : List Int) (n : Nat), vs = [.ref a, .int n] ∧ SqL K H a (ns.map V.int) ∧
  ∀ p x y z, H p = none → Q (.ref p) (upd H p (three x y z))
def spDice (K : PySem.W.Frag) : Sp := fun vs H Q _ => ∃ (a : Addr) (ns : List Int) (n : Nat), vs = [.ref a, .int n] ∧ SqL K H a (ns.map V.int) ∧
  ∀ p, H p = none → Q (.ref p) (upd H p (diceO p))
def spRoll0 : Sp := fun vs H Q _ => ∃ (p : Addr) (t a b c : Int), vs = [.ref p, .int t] ∧ 0 < t ∧ t < 1073741824 ∧ H p = some (three a b c) ∧
  ∀ r a' b' c', 0 ≤ r → r < t → Q (.int r) (upd H p (three a' b' c'))
def spRoll : Sp := fun vs H Q _ => ∃ (p : Addr) (t : Int), vs = [.ref p, .int t] ∧ 0 < t ∧ t < 1073741824 ∧ H p = some (diceO p) ∧ ∀ r, 0 ≤ r → r < t → Q (.int r) H
def spPick (K : PySem.W.Frag) : Sp := fun vs H Q _ => ∃ (p l : Addr) (xs : List V), vs = [.ref p, .ref l] ∧ H p = some (diceO p) ∧ SqL K H l xs ∧ 0 < xs.length ∧ xs.length < 1073741824 ∧ ∀ (j : Nat) x, xs[j]? = some x → Q x H
section
variable {K : PySem.W.Frag} {σ : L2.St} {H H' : Hp} {td tl : TE} {Φ : Ty} {p : Addr}
def DiceT : Ty := fun v H => ∃ p, v = .ref p ∧ H p = some (diceO p)
theorem DiceT.mono : Mono DiceT := fun _ _ _ e ⟨p, h1, h2⟩ => ⟨p, h1, e _ _ h2⟩
theorem evg_dice {i : Nat} (h : σ[i]? = some (some (.ref p))) (hp : H p = some (diceO p)) : EvG (tVar i) σ H DiceT := evg_var h fun _ e => ⟨p, rfl, e _ _ hp⟩
theorem evg_pick {n : Nat} (hd : EvG td σ H DiceT) (hl : EvG tl σ H (LofT Φ n)) (hn : 0 < n ∧ n ≤ 100000) : EvG (tCall (spPick K) [] E0 (tCons td (tCons tl tNil))) σ H Φ := fun H1 e Q q =>
  hd H1 e _ fun _ H2 e2 ⟨p, z, hp⟩ => hl H2 (e.trans e2) _ fun _ H3 e3 ⟨l, z2, xs, h1, h2⟩ => by
    subst z
    subst z2
    exact ⟨p, l, xs, rfl, e3 _ _ hp, SqL.of h1, by rw [h2.1]; exact hn.1, by rw [h2.1]; omega, fun j x hx => q x H3 (e2.trans e3) (h2.2 x (List.mem_of_getElem? hx))⟩
theorem evg_roll {R : Int → Prop} {tt : TE} (hd : EvG td σ H DiceT) (ht : EvG tt σ H (IntT R)) (hR : ∀ i, R i → 0 < i ∧ i ≤ 100000) (m : ∀ r i, R i → 0 ≤ r → r < i → ∀ H1, Gx H H1 → Φ (.int r) H1) : EvG (tCall spRoll [] E0 (tCons td (tCons tt tNil))) σ H Φ := fun H1 e Q q =>
  hd H1 e _ fun _ H2 e2 ⟨p, z, hp⟩ => ht H2 (e.trans e2) _ fun _ H3 e3 ⟨i, z2, hi⟩ => by
    subst z
    subst z2
    have h := hR i hi
    exact ⟨p, i, rfl, h.1, by omega, e3 _ _ hp, fun r h1 h2 => q _ H3 (e2.trans e3) (m r i hi h1 h2 H3 ((e.trans e2).trans e3))⟩
end

/-! ### statements -/
section
variable {K : PySem.W.Frag} {σ : L2.St} {H : Hp} {te tl : TE} {ta : TA} {tz tu tw tb : TS} {tt : TT} {D : Ends} {Φ : Ty} {i j : Nat}
theorem g_asg (h : EvG te σ H Φ) (k : ∀ v H1, Gx H H1 → Φ v H1 → tz D (σ.set i (some v)) H1) : tSeq (tAsg te (gName i)) tz D σ H := h H (Gx.refl H) _ fun v H1 e f => k v H1 e f
theorem g_asgN {Φ : Addr → Hp → Prop} (h : EvN te σ H Φ) (k : ∀ p H1, Gx H H1 → H p = none → Φ p H1 → tz D (σ.set i (some (.ref p))) H1) : tSeq (tAsg te (gName i)) tz D σ H := h H (Gx.refl H) _ fun v H1 e n f => k v H1 e n f
theorem g_par {Ψ : List V → Hp → Prop} (h : EvGs ta σ H Ψ) (k : ∀ vs H1, Gx H H1 → Ψ vs H1 → ∃ v w, vs = [v, w] ∧ tz D ((σ.set i (some v)).set j (some w)) H1) : tSeq (tPar i j ta) tz D σ H := h H (Gx.refl H) _ fun vs H1 e f => k vs H1 e f
theorem g_ret (h : EvG te σ H Φ) (k : ∀ v H1, Gx H H1 → Φ v H1 → D.rt v H1) : tRet te D σ H := h H (Gx.refl H) _ fun v H1 e f => k v H1 e f
theorem g_drop (h : EvG te σ H Φ) (k : ∀ v H1, Gx H H1 → Φ v H1 → tz D σ H1) : tSeq (tDrop te) tz D σ H := h H (Gx.refl H) _ fun v H1 e f => k v H1 e f
/-- a test -/
def EvB (tt : TT) (σ : L2.St) (H : Hp) (R : Bool → Prop) : Prop := ∀ H1, Gx H H1 → ∀ Q : Bool → Hp → Prop, (∀ b H2, Gx H1 H2 → R b → Q b H2) → tt σ H1 Q
theorem g_if {R : Bool → Prop} (h : EvB tt σ H R) (k1 : R true → ∀ H1, Gx H H1 → tu { D with nx := tz D } σ H1) (k2 : R false → ∀ H1, Gx H H1 → tw { D with nx := tz D } σ H1) : tSeq (tIfS tt tu tw) tz D σ H := h H (Gx.refl H) _ fun b H1 e f => by
  cases b with
  | true => exact iteT (k1 f H1 e)
  | false => exact iteF (k2 f H1 e)
theorem g_when {R : Bool → Prop} (h : EvB tt σ H R) (k1 : R true → ∀ H1, Gx H H1 → tu { D with nx := tz D } σ H1) (k2 : R false → ∀ H1, Gx H H1 → tz D σ H1) : tSeq (tIfS tt tu tNext) tz D σ H := g_if h k1 k2
theorem g_when1 {R : Bool → Prop} (h : EvB tt σ H R) (k1 : R true → ∀ H1, Gx H H1 → tu D σ H1) (k2 : R false → ∀ H1, Gx H H1 → D.nx σ H1) : tIfS tt tu tNext D σ H := h H (Gx.refl H) _ fun b H1 e f => by
  cases b with
  | true => exact iteT (k1 f H1 e)
  | false => exact iteF (k2 f H1 e)
theorem evb_test {R : Bool → Prop} (h : EvG te σ H (BlT R)) : EvB (tTest te) σ H R := fun H1 e Q q => h H1 e _ fun v H2 e2 ⟨b, z, r⟩ => ⟨b, z, q b H2 e2 r⟩
theorem evb_B {R : Bool → Prop} (h : EvG te σ H (BlT R)) : EvB (tB te) σ H R := fun H1 e Q q => h H1 e _ fun v H2 e2 ⟨b, z, r⟩ => ⟨b, z, q b H2 e2 r⟩
/-- for x in a new list of things of one kind; Pv is kept from turn to turn -/
theorem g_forN {n : Nat} (h : EvN tl σ H (Lof Φ n)) (Pv : Addr → List V → Nat → L2.St → Hp → Prop)
    (h0 : ∀ p xs H1, Gx H H1 → H p = none → H1 p = some (.lst xs) → AllT Φ n xs H1 → Pv p xs 0 σ H1) (hl : ∀ p xs i σ' H', Pv p xs i σ' H' → SqL K H' p xs)
    (hs : ∀ p xs i x σ' H', xs[i]? = some x → Pv p xs i σ' H' → tb { D with nx := Pv p xs (i + 1), ct := Pv p xs (i + 1), bk := fun σ H => tz D σ H } (σ'.set j (some x)) H')
    (hd : ∀ p xs σ' H', Pv p xs n σ' H' → tz D σ' H') : tSeq (tFor (iList K tl) (gName j) tb) tz D σ H := h H (Gx.refl H) _ fun p H1 e nw ⟨xs, h1, h2⟩ => by
  refine ⟨p, rfl, ⟨xs, SqL.of h1⟩, for_list (K := K) (a := p) (xs := xs) (D := { D with nx := tz D }) (Pv p xs) (h0 p xs H1 e nw h1 h2) (fun i σ H _ q => hl p xs i σ H q) (fun i x σ' H' hx q => hs p xs i x σ' H' hx q) fun σ' H' q => hd p xs σ' H' ?_⟩
  rw [h2.1] at q
  exact q
theorem g_forL {n : Nat} (h : EvG tl σ H (LofT Φ n)) (Pv : Addr → List V → Nat → L2.St → Hp → Prop)
    (h0 : ∀ p xs H1, Gx H H1 → H1 p = some (.lst xs) → AllT Φ n xs H1 → Pv p xs 0 σ H1) (hl : ∀ p xs i σ' H', Pv p xs i σ' H' → SqL K H' p xs)
    (hs : ∀ p xs i x σ' H', xs[i]? = some x → Pv p xs i σ' H' → tb { D with nx := Pv p xs (i + 1), ct := Pv p xs (i + 1), bk := fun σ H => tz D σ H } (σ'.set j (some x)) H')
    (hd : ∀ p xs σ' H', Pv p xs n σ' H' → tz D σ' H') : tSeq (tFor (iList K tl) (gName j) tb) tz D σ H := h H (Gx.refl H) _ fun v H1 e ⟨p, z, xs, h1, h2⟩ => by
  refine ⟨p, z, ⟨xs, SqL.of h1⟩, for_list (K := K) (a := p) (xs := xs) (D := { D with nx := tz D }) (Pv p xs) (h0 p xs H1 e h1 h2) (fun i σ H _ q => hl p xs i σ H q) (fun i x σ' H' hx q => hs p xs i x σ' H' hx q) fun σ' H' q => hd p xs σ' H' ?_⟩
  rw [h2.1] at q
  exact q
/-- for x in range(..) -/
theorem g_forR {R : Int → Prop} (h : EvGs ta σ H (fun vs _ => ∃ k, vs = [.int k] ∧ R k)) (hR : ∀ k, R k → 0 ≤ k ∧ k ≤ 1000000) (Pv : Nat → L2.St → Hp → Prop)
    (h0 : ∀ H1, Gx H H1 → Pv 0 σ H1)
    (hs : ∀ (i : Nat) σ' H', (∃ k, R k ∧ (i : Int) < k) → Pv i σ' H' → tb { D with nx := Pv (i + 1), ct := Pv (i + 1), bk := fun σ H => tz D σ H } (σ'.set j (some (.int i))) H')
    (hd : ∀ (i : Nat) σ' H', R i → Pv i σ' H' → tz D σ' H') : tSeq (tFor (iRng1 ta) (gName j) tb) tz D σ H := h H (Gx.refl H) _ fun vs H1 e ⟨k, z, r⟩ => by
  have hk := hR k r
  refine ⟨k, z, by omega, by omega, for_range (D := { D with nx := tz D }) Pv (h0 H1 e) (fun i σ' H' hi q => ?_) fun σ' H' q => hd k.toNat σ' H' (by rw [show ((k.toNat : Nat) : Int) = k by omega]; exact r) q⟩
  have := hs i σ' H' ⟨k, r, by omega⟩ q
  rw [show (0 : Int) + (i : Int) = (i : Int) by omega]
  exact this
theorem g_forR1 {R : Int → Prop} (h : EvGs ta σ H (fun vs _ => ∃ k, vs = [.int k] ∧ R k)) (hR : ∀ k, R k → 0 ≤ k ∧ k ≤ 1000000) (Pv : Nat → L2.St → Hp → Prop)
    (h0 : ∀ H1, Gx H H1 → Pv 0 σ H1)
    (hs : ∀ (i : Nat) σ' H', (∃ k, R k ∧ (i : Int) < k) → Pv i σ' H' → tb { D with nx := Pv (i + 1), ct := Pv (i + 1), bk := D.nx } (σ'.set j (some (.int i))) H')
    (hd : ∀ (i : Nat) σ' H', R i → Pv i σ' H' → D.nx σ' H') : tFor (iRng1 ta) (gName j) tb D σ H := h H (Gx.refl H) _ fun vs H1 e ⟨k, z, r⟩ => by
  have hk := hR k r
  refine ⟨k, z, by omega, by omega, for_range (D := D) Pv (h0 H1 e) (fun i σ' H' hi q => ?_) fun σ' H' q => hd k.toNat σ' H' (by rw [show ((k.toNat : Nat) : Int) = k by omega]; exact r) q⟩
  have := hs i σ' H' ⟨k, r, by omega⟩ q
  rw [show (0 : Int) + (i : Int) = (i : Int) by omega]
  exact this
end
/-- isinstance(x, T) -/
theorem evg_isi {K : PySem.W.Frag} {σ : L2.St} {H : Hp} {te : TE} {n : String} {R : Bool → Prop} (h : EvG te σ H (fun v H => ∃ k, Pl K H v k ∧ R (kdIs k n))) (hn : n ∈ asked) : EvG (tCB (rIsi K) (tCons te (tCons (tC (.ty n)) tNil))) σ H (BlT R) := fun H1 e Q q =>
  h H1 e _ fun v H2 e2 ⟨k, p, r⟩ => by
    obtain ⟨t, ty, kt⟩ := p.isi hn
    exact ⟨v, .ty n, t, .type n, _, rfl, .ty n, ty, kt, q _ H2 e2 ⟨_, rfl, r⟩⟩

/-! ### what is walked, and comprehensions -/
/-- n turns; the item of turn i and the heap with it meet Y i -/
def EvW (wi : TI) (σ : L2.St) (H : Hp) (n : Nat) (Y : Nat → Ty) : Prop := ∀ H1, Gx H H1 → ∀ R : It → Hp → Prop, (∀ J H2 G Y', Gx H1 H2 → Walk J n G Y' → (∀ H3, Gx H2 H3 → G H3) →
  (∀ i H3 x H4, i < n → Gx H2 H3 → Y' i H3 x H4 → Gx H3 H4 ∧ Y i x H4) → R J H2) → wi σ H1 R
section
variable {K : PySem.W.Frag} {σ : L2.St} {H : Hp} {te tl : TE} {ta : TA} {Φ : Ty}
theorem evw_list {n : Nat} (m : Mono Φ) (h : EvG tl σ H (LofT Φ n)) : EvW (iList K tl) σ H n (fun _ => Φ) := fun H1 e R q =>
  h H1 e _ fun v H2 e2 ⟨p, z, xs, h1, h2⟩ => ⟨p, z, ⟨xs, SqL.of h1⟩, q (Itl K p) H2 (fun H => SqL K H p xs) (YAt xs) e2 (by rw [← h2.1]; exact walk_list (xs := xs)) (fun H3 e3 => SqL.of (e3 _ _ h1))
    (fun i H3 x H4 _ e3 ⟨z4, hx⟩ => by subst z4; exact ⟨Gx.refl _, m _ _ _ e3 (h2.2 x (List.mem_of_getElem? hx))⟩)⟩
/-- a known list, item by item -/
theorem evw_listAt {xs : List V} (h : EvG tl σ H (fun v H => ∃ p, v = .ref p ∧ SqL K H p xs)) : EvW (iList K tl) σ H xs.length (fun i x _ => xs[i]? = some x) := fun H1 e R q =>
  h H1 e _ fun v H2 e2 ⟨p, z, h1⟩ => ⟨p, z, ⟨xs, h1⟩, q _ H2 _ _ e2 (walk_list (xs := xs)) (fun H3 e3 => Gx.l e3 h1)
    (fun i H3 x H4 _ e3 ⟨z4, hx⟩ => by subst z4; exact ⟨Gx.refl _, hx⟩)⟩
theorem evw_tupAt {xs : List V} (h : EvG tl σ H (fun v H => ∃ p, v = .ref p ∧ SqT K H p xs)) : EvW (iTup K tl) σ H xs.length (fun i x _ => xs[i]? = some x) := fun H1 e R q =>
  h H1 e _ fun v H2 e2 ⟨p, z, h1⟩ => ⟨p, z, ⟨xs, h1⟩, q _ H2 _ _ e2 (walk_tup (xs := xs)) (fun H3 e3 => Gx.t e3 h1)
    (fun i H3 x H4 _ e3 ⟨z4, hx⟩ => by subst z4; exact ⟨Gx.refl _, hx⟩)⟩
theorem evw_str {z : Str} (h : EvG te σ H (fun v _ => v = .str z)) : EvW (iStr te) σ H z.cps.size (fun i x _ => ∃ c, z.cps[i]? = some c ∧ x = .str ⟨#[c]⟩) := fun H1 e R q =>
  h H1 e _ fun v H2 e2 hv => ⟨z, hv, q _ H2 _ _ e2 (walk_str (z := z)) (fun _ _ => trivial) (fun i H3 x H4 _ _ ⟨z4, c, h1, h2⟩ => by subst z4; exact ⟨Gx.refl _, c, h1, h2⟩)⟩
theorem evw_rng {k : Int} (h : EvGs ta σ H (fun vs _ => vs = [.int k])) (hk : k ≤ 100000 ∧ -100000 ≤ k) : EvW (iRng1 ta) σ H k.toNat (fun i x _ => x = .int i) := fun H1 e R q =>
  h H1 e _ fun vs H2 e2 hv => ⟨k, hv, by omega, by omega, q _ H2 _ _ e2 (walk_range (lo := 0) (n := k.toNat)) (fun _ _ => trivial) (fun i H3 x H4 _ _ ⟨z4, hx⟩ => by subst z4; exact ⟨Gx.refl _, hx.trans (by show V.int (0 + (i : Int)) = V.int i; rw [Int.zero_add])⟩)⟩
end
/-- what a comprehension gives: the items whose test holds, in order -/
inductive LcR (B : Nat → Bool → Prop) (R : Nat → Ty) (H : Hp) : Nat → List V → Prop
  | nil : LcR B R H 0 []
  | keep {n : Nat} {ys : List V} {y : V} : LcR B R H n ys → B n true → R n y H → LcR B R H (n + 1) (ys ++ [y])
  | skip {n : Nat} {ys : List V} : LcR B R H n ys → B n false → LcR B R H (n + 1) ys
theorem LcR.firm {B : Nat → Bool → Prop} {R : Nat → Ty} {H H' : Hp} (m : ∀ i, Firm (R i)) (e : Kx H H') {n : Nat} {ys : List V} (h : LcR B R H n ys) : LcR B R H' n ys := by
  induction h with
  | nil => exact .nil
  | keep _ b r ih => exact .keep ih b (m _ _ _ _ e r)
  | skip _ b ih => exact .skip ih b
theorem LcR.gx {B : Nat → Bool → Prop} {R : Nat → Ty} {H H' : Hp} (m : ∀ i, Mono (R i)) (e : Gx H H') {n : Nat} {ys : List V} (h : LcR B R H n ys) : LcR B R H' n ys := by
  induction h with
  | nil => exact .nil
  | keep _ b r ih => exact .keep ih b (m _ _ _ _ e r)
  | skip _ b ih => exact .skip ih b
theorem LcR.len {B : Nat → Bool → Prop} {R : Nat → Ty} {H : Hp} {n : Nat} {ys : List V} (h : LcR B R H n ys) : ys.length ≤ n := by
  induction h with
  | nil => exact Nat.le_refl 0
  | keep _ _ _ ih =>
    rw [List.length_append]
    show _ + 1 ≤ _
    omega
  | skip _ _ ih => omega
/-- without a test: item by item -/
theorem LcR.all {B : Nat → Bool → Prop} {R : Nat → Ty} {H : Hp} {n : Nat} {ys : List V} (h : LcR B R H n ys) (hB : ∀ i, ¬ B i false) : ys.length = n ∧ ∀ i y, ys[i]? = some y → R i y H := by
  induction h with
  | nil => exact ⟨rfl, fun i y e => by simp at e⟩
  | @keep n ys y _ _ r ih =>
    refine ⟨by rw [List.length_append, ih.1]; rfl, fun i z e => ?_⟩
    by_cases hi : i < ys.length
    · rw [List.getElem?_append_left hi] at e
      exact ih.2 i z e
    · rw [List.getElem?_append_right (by omega)] at e
      have h0 : i - ys.length = 0 := by
        cases q : i - ys.length with
        | zero => rfl
        | succ m => rw [q] at e; simp at e
      rw [h0] at e
      cases e
      have : i = n := by rw [← ih.1]; omega
      rw [this]
      exact r
  | skip _ b _ => exact absurd b (hB _)
section
variable {K : PySem.W.Frag} {σ : L2.St} {H : Hp} {te : TE} {wi : TI} {g : TG} {tt : TT} {vs : List Nat} {n : Nat}
theorem evn_lc {Y : Nat → Ty} {S : Nat → L2.St → Hp → Prop} {B : Nat → Bool → Prop} {R : Nat → Ty} (hw : EvW wi σ H n Y) (hn : n ≤ 100000)
    (hg : ∀ i x H1, i < n → Gx H H1 → Y i x H1 → ∀ Q : L2.St → Hp → Prop, (∀ σ2, wipe σ2 vs = wipe σ vs → S i σ2 H1 → Q σ2 H1) → g x (wipe σ vs) H1 Q)
    (ht : ∀ i σ2 H1, i < n → Gx H H1 → S i σ2 H1 → EvB tt σ2 H1 (B i)) (ms : ∀ i σ2 H1 H2, Gx H1 H2 → S i σ2 H1 → S i σ2 H2)
    (he : ∀ i σ2 H1, i < n → Gx H H1 → S i σ2 H1 → B i true → EvG te σ2 H1 (R i)) (m : ∀ i, Firm (R i)) :
    EvN (tLc wi g tt te vs) σ H (fun p H' => ∃ ys, H' p = some (.lst ys) ∧ LcR B R H' n ys) := by
  intro H1 e Q q
  refine hw H1 e _ fun J H2 G Y' e2 W hG hY => ?_
  intro D hD
  refine lc_it W (fun i H' => Gx H2 H' ∧ i ≤ n ∧ ∃ ys, H' D = some (.lst ys) ∧ LcR B R H' i ys) ⟨Gx.new hD, Nat.zero_le _, [], upd_same, .nil⟩ (fun i H' _ p => hG H' p.1) ?_ ?_
  · rintro i x H3 H4 hi ⟨e3, _, ys, hys, L⟩ y
    obtain ⟨e4, y⟩ := hY i H3 x H4 hi e3 y
    have e5 := ((e.trans e2).trans e3).trans e4
    refine hg i x H4 hi e5 y _ fun σ2 w s2 => ⟨w, ht i σ2 H4 hi e5 s2 H4 (Gx.refl _) _ fun b H5 e6 hb => ?_⟩
    cases b with
    | true =>
      refine iteT (he i σ2 H5 hi (e5.trans e6) (ms i σ2 H4 H5 e6 s2) hb H5 (Gx.refl _) _ fun y H6 e7 r => ?_)
      have e8 := (e4.trans e6).trans e7
      have hD6 := e8 _ _ hys
      refine ⟨ys, hD6, Evl.sz_lt (by have := L.len; omega), (e3.trans e8).mut hD, hi, ys ++ [y], upd_same, .keep (L.firm m (e8.k.trans (Kx.put hD6))) hb (m _ _ _ _ (Kx.put hD6) r)⟩
    | false =>
      have e8 := e4.trans e6
      exact iteF ⟨e3.trans e8, hi, ys, e8 _ _ hys, .skip (L.firm m e8.k) hb⟩
  · rintro H3 ⟨e3, _, ys, h, L⟩
    exact q D H3 (e2.trans e3) (e2.free hD) ⟨ys, h, L⟩
theorem wipe1 {j : Nat} {x : Option V} : wipe ((wipe σ [j]).set j x) [j] = wipe σ [j] := by
  show ((σ.set j none).set j x).set j none = σ.set j none
  rw [List.set_set, List.set_set]
/-- the target a name -/
theorem evn_lcN {j : Nat} {Y : Nat → Ty} {B : Nat → Bool → Prop} {R : Nat → Ty} (hw : EvW wi σ H n Y) (hn : n ≤ 100000) (my : ∀ i, Mono (Y i))
    (ht : ∀ i x H1, i < n → Gx H H1 → Y i x H1 → EvB tt ((wipe σ [j]).set j (some x)) H1 (B i))
    (he : ∀ i x H1, i < n → Gx H H1 → Y i x H1 → B i true → EvG te ((wipe σ [j]).set j (some x)) H1 (R i)) (m : ∀ i, Firm (R i)) :
    EvN (tLc wi (gName j) tt te [j]) σ H (fun p H' => ∃ ys, H' p = some (.lst ys) ∧ LcR B R H' n ys) :=
  evn_lc (S := fun i σ2 H => ∃ x, σ2 = (wipe σ [j]).set j (some x) ∧ Y i x H) hw hn (fun i x H1 _ _ y Q q => q _ wipe1 ⟨x, rfl, y⟩) (fun i σ2 H1 hi e ⟨x, z, y⟩ => by subst z; exact ht i x H1 hi e y)
    (fun i σ2 H1 H2 e ⟨x, z, y⟩ => ⟨x, z, my i _ _ _ e y⟩) (fun i σ2 H1 hi e ⟨x, z, y⟩ b => by subst z; exact he i x H1 hi e y b) m
theorem evb_yes {σ : L2.St} {H : Hp} : EvB tYes σ H (fun b => b = true) := fun H1 _ _ q => q true H1 (Gx.refl _) rfl
/-- .. and no test -/
theorem evn_lcA {j : Nat} {Y : Nat → Ty} {R : Nat → Ty} (hw : EvW wi σ H n Y) (hn : n ≤ 100000) (my : ∀ i, Mono (Y i))
    (he : ∀ i x H1, i < n → Gx H H1 → Y i x H1 → EvG te ((wipe σ [j]).set j (some x)) H1 (R i)) (m : ∀ i, Firm (R i)) :
    EvN (tLc wi (gName j) tYes te [j]) σ H (fun p H' => ∃ ys, H' p = some (.lst ys) ∧ ys.length = n ∧ ∀ i y, ys[i]? = some y → R i y H') := by
  intro H1 e Q q
  refine evn_lcN (B := fun _ b => b = true) hw hn my (fun i x H1 _ _ _ => evb_yes) (fun i x H1 hi e y _ => he i x H1 hi e y) m H1 e Q fun p H2 e2 n2 ⟨ys, h, L⟩ => ?_
  exact q p H2 e2 n2 ⟨ys, h, L.all fun _ z => by cases z⟩
end

/-! ### truth values -/
abbrev BlE (b : Bool) : Ty := BlT fun c => c = b
section
variable {K : PySem.W.Frag} {σ : L2.St} {H : Hp} {ta tb tc : TE} {a b : Bool} {t u : TT}
theorem evg_andV (h1 : EvG ta σ H (BlE a)) (h2 : a = true → ∀ H1, Gx H H1 → EvG tb σ H1 (BlE b)) : EvG (tAndV ta tb) σ H (BlE (a && b)) := fun H1 e Q q =>
  h1 H1 e _ fun v H2 e2 ⟨c, z, hc⟩ => ⟨c, z, by
    subst hc
    cases c with
    | true => exact iteT (h2 rfl H2 (e.trans e2) H2 (Gx.refl _) Q fun v H3 e3 f => q v H3 (e2.trans e3) f)
    | false => exact iteF (q _ H2 e2 ⟨false, rfl, rfl⟩)⟩
theorem evg_orV (h1 : EvG ta σ H (BlE a)) (h2 : a = false → ∀ H1, Gx H H1 → EvG tb σ H1 (BlE b)) : EvG (tOrV ta tb) σ H (BlE (a || b)) := fun H1 e Q q =>
  h1 H1 e _ fun v H2 e2 ⟨c, z, hc⟩ => ⟨c, z, by
    subst hc
    cases c with
    | true => exact iteT (q _ H2 e2 ⟨true, rfl, rfl⟩)
    | false => exact iteF (h2 rfl H2 (e.trans e2) H2 (Gx.refl _) Q fun v H3 e3 f => q v H3 (e2.trans e3) f)⟩
theorem evg_notV (h1 : EvG ta σ H (BlE a)) : EvG (tNotV ta) σ H (BlE (!a)) := fun H1 e Q q =>
  h1 H1 e _ fun v H2 e2 ⟨c, z, hc⟩ => ⟨c, z, q _ H2 e2 ⟨_, rfl, by rw [hc]⟩⟩
theorem evb_and (h1 : EvB t σ H (fun c => c = a)) (h2 : a = true → ∀ H1, Gx H H1 → EvB u σ H1 (fun c => c = b)) : EvB (tAnd t u) σ H (fun c => c = (a && b)) := fun H1 e Q q =>
  h1 H1 e _ fun c H2 e2 hc => by
    subst hc
    cases c with
    | true => exact iteT (h2 rfl H2 (e.trans e2) H2 (Gx.refl _) Q fun v H3 e3 f => q v H3 (e2.trans e3) f)
    | false => exact iteF (q _ H2 e2 rfl)
theorem evb_or (h1 : EvB t σ H (fun c => c = a)) (h2 : a = false → ∀ H1, Gx H H1 → EvB u σ H1 (fun c => c = b)) : EvB (tOr t u) σ H (fun c => c = (a || b)) := fun H1 e Q q =>
  h1 H1 e _ fun c H2 e2 hc => by
    subst hc
    cases c with
    | true => exact iteT (q _ H2 e2 rfl)
    | false => exact iteF (h2 rfl H2 (e.trans e2) H2 (Gx.refl _) Q fun v H3 e3 f => q v H3 (e2.trans e3) f)
theorem evb_not (h1 : EvB t σ H (fun c => c = a)) : EvB (tNot t) σ H (fun c => c = !a) := fun H1 e Q q =>
  h1 H1 e _ fun c H2 e2 hc => q _ H2 e2 (by rw [hc])
/-- a < b < c and its like, of ints -/
theorem evg_chain {f g : Int → Int → Bool} {i j k : Int} (ha : EvG ta σ H (IntT fun x => x = i)) (hb : EvG tb σ H (IntT fun x => x = j)) (hc : EvG tc σ H (IntT fun x => x = k)) :
    EvG (tChain (rI0 fun i j => .bl (f i j)) (rI0 fun i j => .bl (g i j)) ta tb tc) σ H (BlE (f i j && g j k)) := fun H1 e Q q =>
  ha H1 e _ fun v H2 e2 ⟨x, z, hx⟩ => hb H2 (e.trans e2) _ fun v2 H3 e3 ⟨y, z2, hy⟩ => ⟨x, y, z, z2, _, rfl, by
    subst hx
    subst hy
    cases q1 : f x y with
    | true =>
      refine iteT (hc H3 ((e.trans e2).trans e3) _ fun v3 H4 e4 ⟨w, z3, hw⟩ => ⟨y, w, z2, z3, ?_⟩)
      have hw : w = k := hw
      exact q _ H4 ((e2.trans e3).trans e4) ⟨_, rfl, by rw [q1, hw, Bool.true_and]⟩
    | false => exact iteF (q _ H3 (e2.trans e3) ⟨false, rfl, by rw [q1, Bool.false_and]⟩)⟩
theorem evg_is {a b : Bool} (h : EvG ta σ H (BlE a)) (e : a = b) : EvG ta σ H (BlE b) := by
  subst e
  exact h
end
theorem evg_rAll {K : PySem.W.Frag} {σ : L2.St} {H : Hp} {te : TE} {R : Bool → Prop} (h : EvN te σ H (fun p H' => ∃ bs : List Bool, H' p = some (.lst (bs.map V.bl)) ∧ R (bs.all id))) : EvG (tCB (rAll K) (tCons te tNil)) σ H (BlT R) := fun H1 e Q q =>
  h H1 e _ fun p H2 e2 _ ⟨bs, hp, r⟩ => ⟨p, bs, rfl, SqL.of hp, q _ H2 e2 ⟨_, rfl, r⟩⟩
theorem evg_rAny {K : PySem.W.Frag} {σ : L2.St} {H : Hp} {te : TE} {R : Bool → Prop} (h : EvN te σ H (fun p H' => ∃ bs : List Bool, H' p = some (.lst (bs.map V.bl)) ∧ R (bs.any id))) : EvG (tCB (rAny K) (tCons te tNil)) σ H (BlT R) := fun H1 e Q q =>
  h H1 e _ fun p H2 e2 _ ⟨bs, hp, r⟩ => ⟨p, bs, rfl, SqL.of hp, q _ H2 e2 ⟨_, rfl, r⟩⟩
theorem EvN.imp {σ : L2.St} {H : Hp} {te : TE} {Φ Φ' : Addr → Hp → Prop} (h : EvN te σ H Φ) (i : ∀ p H2, Gx H H2 → Φ p H2 → Φ' p H2) : EvN te σ H Φ' := fun H1 a Q q => h H1 a Q fun p H2 e n f => q p H2 e n (i p H2 (a.trans e) f)
/-- a list of truth values, told item by item -/
theorem bls_of {ys : List V} {n : Nat} {f : Nat → Bool} (hl : ys.length = n) (h : ∀ (i : Nat) (y : V), ys[i]? = some y → y = V.bl (f i)) : ys = ((List.range n).map f).map V.bl := by
  apply List.ext_getElem?
  intro i
  rw [List.map_map, List.getElem?_map]
  cases q : ys[i]? with
  | some y =>
    have hi : i < n := by rw [← hl]; exact (List.getElem?_eq_some_iff.mp q).1
    rw [h i y q, List.getElem?_range hi]
    rfl
  | none =>
    have : ys.length ≤ i := List.getElem?_eq_none_iff.mp q
    rw [List.getElem?_eq_none (by rw [List.length_range]; omega)]
    rfl
theorem of_cps {ys : List V} {a : Array Nat} {f : Nat → V} (hl : ys.length = a.size) (h : ∀ (i : Nat) (y : V), ys[i]? = some y → ∃ c, a[i]? = some c ∧ y = f c) : ys = a.toList.map f := by
  apply List.ext_getElem?
  intro i
  have e : a.toList[i]? = a[i]? := by simp
  rw [List.getElem?_map, e]
  cases q : ys[i]? with
  | some y =>
    obtain ⟨c, hc, rfl⟩ := h i y q
    rw [hc]
    rfl
  | none =>
    have : ys.length ≤ i := List.getElem?_eq_none_iff.mp q
    rw [Array.getElem?_eq_none (by omega)]
    rfl
/-! ### the words of the package, by values -/
def isI : V → Bool
  | .int i => decide (-(10 ^ 60) < i) && decide (i < 10 ^ 60)
  | _ => false
def wthn (x : V) (lo hi : Int) : Bool := match x with
  | .int i => isI x && (decide (lo ≤ i) && decide (i ≤ hi))
  | _ => false
def letters : List Nat := (("abcdefghijklmnopqrstuvwxyz" : Str)).cps.toList
def isW : V → Bool
  | .str z => (decide (1 ≤ (z.length : Int)) && decide ((z.length : Int) ≤ 8)) && z.cps.toList.all fun c => decide (c ∈ letters)
  | _ => false
def isNode2 (s n : V) : Bool := wthn n 0 3 && (isW s || (decide (s = .str "_" ∨ s = .str "#") && decide (n = .int 0)))
/-- no text too long -/
def Small (x : V) : Prop := ∀ z, x = .str z → z.length ≤ 100000
def spIsInt (K : PySem.W.Frag) : Sp := fun vs H Q _ => ∃ x k, vs = [x] ∧ Pl K H x k ∧ Q (.bl (isI x)) H
def spWithin (K : PySem.W.Frag) : Sp := fun vs H Q _ => ∃ x k lo hi, vs = [x, .int lo, .int hi] ∧ Pl K H x k ∧ Q (.bl (wthn x lo hi)) H
def spWord (K : PySem.W.Frag) : Sp := fun vs H Q _ => ∃ x k, vs = [x] ∧ Pl K H x k ∧ Small x ∧ ∀ H', Gx H H' → Q (.bl (isW x)) H'
/-- a value, and whether it is a node -/
inductive NodeIn (K : PySem.W.Frag) (H : Hp) : V → Bool → Prop
  | other {x : V} {k : Kd} : Pl K H x k → k ≠ .tup → NodeIn K H x false
  | size {a : Addr} {xs : List V} : H a = some (.tup xs) → xs.length ≠ 2 → NodeIn K H (.ref a) false
  | pair {a : Addr} {s n : V} {ks kn : Kd} : H a = some (.tup [s, n]) → Pl K H s ks → Pl K H n kn → Small s → NodeIn K H (.ref a) (isNode2 s n)
def spNode (K : PySem.W.Frag) : Sp := fun vs H Q _ => ∃ x b, vs = [x] ∧ NodeIn K H x b ∧ ∀ H', Gx H H' → Q (.bl b) H'

/-! ### things of told kinds, one by one -/
def AtT : List Ty → List V → Hp → Prop
  | [], [], _ => True
  | Φ :: Φs, v :: vs, H => Φ v H ∧ AtT Φs vs H
  | _, _, _ => False
theorem AtT.mono {H H' : Hp} (e : Gx H H') : ∀ {Φs : List Ty} {vs : List V}, (∀ Φ ∈ Φs, Mono Φ) → AtT Φs vs H → AtT Φs vs H'
  | [], [], _, h => h
  | Φ :: Φs, v :: vs, m, h => ⟨m Φ (List.mem_cons_self ..) _ _ _ e h.1, AtT.mono e (fun Φ hp => m Φ (List.mem_cons_of_mem _ hp)) h.2⟩
  | [], _ :: _, _, h => h.elim
  | _ :: _, [], _, h => h.elim
theorem AtT.len {H : Hp} : ∀ {Φs : List Ty} {vs : List V}, AtT Φs vs H → vs.length = Φs.length
  | [], [], _ => rfl
  | Φ :: Φs, v :: vs, h => by rw [List.length_cons, List.length_cons, AtT.len h.2]
  | [], _ :: _, h => h.elim
  | _ :: _, [], h => h.elim
theorem AtT.get {H : Hp} : ∀ {Φs : List Ty} {vs : List V} {i : Nat} {x : V}, AtT Φs vs H → vs[i]? = some x → ∃ Φ, Φs[i]? = some Φ ∧ Φ x H
  | [], [], _, _, _, e => by simp at e
  | Φ :: Φs, v :: vs, 0, x, h, e => by
    simp at e
    subst e
    exact ⟨Φ, rfl, h.1⟩
  | Φ :: Φs, v :: vs, i + 1, x, h, e => by
    obtain ⟨Ψ, h1, h2⟩ := AtT.get (i := i) (x := x) h.2 (by simpa using e)
    exact ⟨Ψ, by simpa using h1, h2⟩
  | [], _ :: _, _, _, h, _ => h.elim
  | _ :: _, [], _, _, h, _ => h.elim
section
variable {K : PySem.W.Frag} {σ : L2.St} {H : Hp} {ta : TE} {tr : TA} {Φ : Ty} {Φs : List Ty}
theorem ats_nil : EvGs tNil σ H (AtT []) := evgs_nil fun _ _ => trivial
theorem ats_cons (m : Mono Φ) (h : EvG ta σ H Φ) (k : ∀ H1, Gx H H1 → EvGs tr σ H1 (AtT Φs)) : EvGs (tCons ta tr) σ H (AtT (Φ :: Φs)) :=
  evgs_cons h fun v H1 e f => fun H2 e2 Q q => k H1 e H2 e2 Q fun vs H3 e3 g => q vs H3 e3 ⟨m _ _ _ (e2.trans e3) f, g⟩
def TupA (Φs : List Ty) : Addr → Hp → Prop := fun p H => ∃ xs, H p = some (.tup xs) ∧ AtT Φs xs H
def LstA (Φs : List Ty) : Addr → Hp → Prop := fun p H => ∃ xs, H p = some (.lst xs) ∧ AtT Φs xs H
def TupT (Φs : List Ty) : Ty := fun v H => ∃ p, v = .ref p ∧ TupA Φs p H
def LstT (Φs : List Ty) : Ty := fun v H => ∃ p, v = .ref p ∧ LstA Φs p H
theorem TupT.mono (m : ∀ Φ ∈ Φs, Mono Φ) : Mono (TupT Φs) := fun _ _ _ e ⟨p, z, xs, h1, h2⟩ => ⟨p, z, xs, e _ _ h1, h2.mono e m⟩
theorem LstT.mono (m : ∀ Φ ∈ Φs, Mono Φ) : Mono (LstT Φs) := fun _ _ _ e ⟨p, z, xs, h1, h2⟩ => ⟨p, z, xs, e _ _ h1, h2.mono e m⟩
theorem evn_tupA (m : ∀ Φ ∈ Φs, Mono Φ) (h : EvGs tr σ H (AtT Φs)) (hn : Φs.length ≤ 100000) : EvN (tTup tr) σ H (TupA Φs) :=
  evn_tup h (fun vs _ g => by rw [g.len]; exact hn) fun vs p _ _ _ g e2 _ hp => ⟨vs, hp, g.mono e2 m⟩
theorem evn_lstA (m : ∀ Φ ∈ Φs, Mono Φ) (h : EvGs tr σ H (AtT Φs)) (hn : Φs.length ≤ 100000) : EvN (tLst tr) σ H (LstA Φs) :=
  evn_lst h (fun vs _ g => by rw [g.len]; exact hn) fun vs p _ _ _ g e2 _ hp => ⟨vs, hp, g.mono e2 m⟩
theorem evg_tupA (m : ∀ Φ ∈ Φs, Mono Φ) (h : EvGs tr σ H (AtT Φs)) (hn : Φs.length ≤ 100000) : EvG (tTup tr) σ H (TupT Φs) := (evn_tupA m h hn).g fun p _ _ _ _ _ f => ⟨p, rfl, f⟩
theorem evg_lstA (m : ∀ Φ ∈ Φs, Mono Φ) (h : EvGs tr σ H (AtT Φs)) (hn : Φs.length ≤ 100000) : EvG (tLst tr) σ H (LstT Φs) := (evn_lstA m h hn).g fun p _ _ _ _ _ f => ⟨p, rfl, f⟩
end
theorem NodeIn.mono {K : PySem.W.Frag} {b : Bool} : Mono (fun v H => NodeIn K H v b) := fun v H H' e h => by
  cases h with
  | other p hk => exact .other (p.gx e) hk
  | size h hl => exact .size (e _ _ h) hl
  | pair h ps pn sm => exact .pair (e _ _ h) (ps.gx e) (pn.gx e) sm
/-- is this value that? -/
abbrev Eq1 (x : V) : Ty := fun v _ => v = x
theorem Eq1.mono {x : V} : Mono (Eq1 x) := fun _ _ _ _ h => h
theorem Eq1.firm {x : V} : Firm (Eq1 x) := fun _ _ _ _ h => h
theorem evg_e {σ : L2.St} {H : Hp} {x : V} : EvG (tC x) σ H (Eq1 x) := evg_c fun _ _ => rfl
theorem evg_ve {σ : L2.St} {H : Hp} {i : Nat} {x : V} (h : σ[i]? = some (some x)) : EvG (tVar i) σ H (Eq1 x) := evg_var h fun _ _ => rfl
/-! ### data -/
mutual
theorem Dp.gx {K : PySem.W.Frag} {H H' : Hp} (e : Gx H H') : ∀ {v : V} {d : PyData}, Dp K H v d → Dp K H' v d
  | _, _, .non => .non
  | _, _, .bl b => .bl b
  | _, _, .int i => .int i
  | _, _, .str x => .str x
  | _, _, .lst h hs => .lst (e.l h) (DpAll.gx e hs)
  | _, _, .tup h hs => .tup (e.t h) (DpAll.gx e hs)
theorem DpAll.gx {K : PySem.W.Frag} {H H' : Hp} (e : Gx H H') : ∀ {vs : List V} {ds : List PyData}, DpAll K H vs ds → DpAll K H' vs ds
  | _, _, .nil => .nil
  | _, _, .cons h hs => .cons (Dp.gx e h) (DpAll.gx e hs)
end

section
variable {K : PySem.W.Frag} {σ : L2.St} {H : Hp} {ta : TE} {tr : TA} {Φ : Ty} {Φs : List Ty} {n : Nat}
/-- the same, over one heap -/
theorem evgs_m (m : Mono Φ) (h : EvG ta σ H Φ) (k : EvGs tr σ H (AllT Φ n)) : EvGs (tCons ta tr) σ H (AllT Φ (n + 1)) := evgs_more m h fun _ e H2 e2 Q q => k H2 (e.trans e2) Q q
theorem ats_c (m : Mono Φ) (h : EvG ta σ H Φ) (k : EvGs tr σ H (AtT Φs)) : EvGs (tCons ta tr) σ H (AtT (Φ :: Φs)) := ats_cons m h fun _ e H2 e2 Q q => k H2 (e.trans e2) Q q
end

/-! ### data, evaluated -/
def DatT (K : PySem.W.Frag) (d : PyData) : Ty := fun v H => Dp K H v d
def DatsT (K : PySem.W.Frag) (ds : List PyData) : List V → Hp → Prop := fun vs H => DpAll K H vs ds
theorem DatT.mono {K : PySem.W.Frag} {d : PyData} : Mono (DatT K d) := fun _ _ _ e h => Dp.gx e h
theorem DpAll.len {K : PySem.W.Frag} {H : Hp} : ∀ {vs : List V} {ds : List PyData}, DpAll K H vs ds → vs.length = ds.length
  | _, _, .nil => rfl
  | _, _, .cons _ hs => by rw [List.length_cons, List.length_cons, DpAll.len hs]
section
variable {K : PySem.W.Frag} {σ : L2.St} {H : Hp} {ta tb : TE} {tr : TA} {d e : PyData} {ds : List PyData}
theorem dats_nil : EvGs tNil σ H (DatsT K []) := evgs_nil fun _ _ => .nil
theorem dats_c (h : EvG ta σ H (DatT K d)) (k : EvGs tr σ H (DatsT K ds)) : EvGs (tCons ta tr) σ H (DatsT K (d :: ds)) :=
  evgs_cons h fun _ _ e f => fun H2 e2 Q q => k H2 (e.trans e2) Q fun vs H3 e3 g => q vs H3 e3 (.cons (Dp.gx (e2.trans e3) f) g)
theorem evg_dlst (h : EvGs tr σ H (DatsT K ds)) (hn : ds.length ≤ 100000) : EvG (tLst tr) σ H (DatT K (.list ds)) :=
  evg_lst h (fun vs _ g => by rw [DpAll.len g]; exact hn) fun vs p H1 H2 g e2 _ hp => .lst (SqL.of hp) (DpAll.gx e2 g)
theorem evg_dtup (h : EvGs tr σ H (DatsT K ds)) (hn : ds.length ≤ 100000) : EvG (tTup tr) σ H (DatT K (.tuple ds)) :=
  evg_tup h (fun vs _ g => by rw [DpAll.len g]; exact hn) fun vs p H1 H2 g e2 _ hp => .tup (SqT.of hp) (DpAll.gx e2 g)
theorem dat_int {i : Int} : EvG (tC (.int i)) σ H (DatT K (.int i)) := evg_c fun _ _ => .int i
theorem dat_bl {i : Bool} : EvG (tC (.bl i)) σ H (DatT K (.bool i)) := evg_c fun _ _ => .bl i
theorem dat_str {i : Str} : EvG (tC (.str i)) σ H (DatT K (.str i)) := evg_c fun _ _ => .str i
theorem dat_non : EvG (tC .non) σ H (DatT K .none) := evg_c fun _ _ => .non
theorem dat_var {i : Nat} {v : V} (h : σ[i]? = some (some v)) (hd : Dp K H v d) : EvG (tVar i) σ H (DatT K d) := evg_var h fun _ e => Dp.gx e hd
theorem dat_of_bl {b : Bool} (h : EvG ta σ H (BlE b)) : EvG ta σ H (DatT K (.bool b)) := h.imp fun v _ _ ⟨c, z, hc⟩ => by
  have hc : c = b := hc
  rw [z, hc]
  exact .bl b
theorem evg_eqD (ha : EvG ta σ H (DatT K d)) (hb : EvG tb σ H (DatT K e)) (sd : SeqAt.shaped d = true) (se : SeqAt.shaped e = true) : EvG (tOp (rEqD K) ta tb) σ H (BlE (PyData.eqv d e)) := fun H1 e1 Q q =>
  ha H1 e1 _ fun v H2 e2 f => hb H2 (e1.trans e2) _ fun v2 H3 e3 g => ⟨d, e, Dp.gx e3 f, g, sd, se, q _ H3 (e2.trans e3) ⟨_, rfl, rfl⟩⟩
theorem evg_neD (ha : EvG ta σ H (DatT K d)) (hb : EvG tb σ H (DatT K e)) (sd : SeqAt.shaped d = true) (se : SeqAt.shaped e = true) : EvG (tOp (rNeD K) ta tb) σ H (BlE (!PyData.eqv d e)) := fun H1 e1 Q q =>
  ha H1 e1 _ fun v H2 e2 f => hb H2 (e1.trans e2) _ fun v2 H3 e3 g => ⟨d, e, Dp.gx e3 f, g, sd, se, q _ H3 (e2.trans e3) ⟨_, rfl, rfl⟩⟩
end
/-- a list of truth values as data -/
theorem dp_bls {K : PySem.W.Frag} {H : Hp} : ∀ bs : List Bool, DpAll K H (bs.map V.bl) (bs.map PyData.bool)
  | [] => .nil
  | b :: bs => .cons (.bl b) (dp_bls bs)
/-- [f(x) for x in ..] with known truth values -/
theorem bls_eq {ys : List V} {bs : List Bool} (hl : ys.length = bs.length) (h : ∀ (i : Nat) (y : V), ys[i]? = some y → ∃ b, bs[i]? = some b ∧ y = V.bl b) : ys = bs.map V.bl := by
  apply List.ext_getElem?
  intro i
  rw [List.getElem?_map]
  cases q : ys[i]? with
  | some y =>
    obtain ⟨b, hb, rfl⟩ := h i y q
    rw [hb]
    rfl
  | none =>
    have : ys.length ≤ i := List.getElem?_eq_none_iff.mp q
    rw [List.getElem?_eq_none (by omega)]
    rfl

/-! ### list(text) -/
theorem vals_of : ∀ {xs : List V} {us : List Value}, xs.length = us.length → (∀ (i : Nat) (x : V) (u : Value), xs[i]? = some x → us[i]? = some u → RelV x u) → Vals xs us
  | [], [], _, _ => .nil
  | x :: xs, u :: us, hl, h => .cons (h 0 x u rfl rfl) (vals_of (by simpa using hl) fun i y w h1 h2 => h (i + 1) y w (by simpa using h1) (by simpa using h2))
  | [], _ :: _, hl, _ => by simp at hl
  | _ :: _, [], hl, _ => by simp at hl
def signsV (z : Str) : List V := z.cps.toList.map fun c => V.str ⟨#[c]⟩
theorem call_listS {X : Cx} (hc : X.calm = true) : CallR X (.type "list") (fun xs H Q => ∃ z, xs = [.str z] ∧ z.length ≤ sizeLine ∧ ∀ l, H l = none → Q (.ref l) (upd H l (.lst (signsV z)))) := by
  intro pins s σ H xs us Q I r h
  obtain ⟨z, rfl, hz, q⟩ := h
  obtain ⟨u, rfl, rx⟩ := vals1 r
  obtain ⟨t, rfl⟩ := rx
  refine call_list_str (I.ok.hd hc) z t (hn := hz) fun h' tk acc' c' hk hS' hacc => ?_
  have hf : H s.heap.objs.size = none := I.hok.fresh (Nat.le_refl _)
  refine ⟨.ref s.heap.objs.size, _, I.laid (t' := tk) hk (Nat.le_refl _) (show ObjOk X.prog X.w _ h' _ (.lst (signsV z)) from ⟨by unfold signsV; rw [List.length_map, Array.length_toList]; exact hz, acc'.toList, c', vals_of ?_ ?_, by simpa using hS'⟩), rfl, q _ hf⟩
  · unfold signsV
    rw [List.length_map]
    have := hacc.1
    simp
    omega
  · intro i x u h1 h2
    obtain ⟨c, w, hc, rfl⟩ := hacc.2 i u (by simpa using h2)
    unfold signsV at h1
    rw [List.getElem?_map] at h1
    have e : z.cps.toList[i]? = z.cps[i]? := by simp
    rw [e, hc] at h1
    cases h1
    exact ⟨w, rfl⟩

/-! ### drawing some of a list -/
theorem erase_perm : ∀ {ls : List V} {k : Nat} {y : V}, ls[k]? = some y → (y :: ls.eraseIdx k).Perm ls
  | [], _, _, h => by simp at h
  | a :: ls, 0, y, h => by
    simp at h
    subst h
    exact List.Perm.refl _
  | a :: ls, k + 1, y, h => by
    have ih := erase_perm (ls := ls) (k := k) (y := y) (by simpa using h)
    exact (List.Perm.swap a y _).trans (ih.cons a)
def spSome (K : PySem.W.Frag) : Sp := fun vs H Q _ => ∃ (d l : Addr) (xs : List V) (n : Int), vs = [.ref d, .ref l, .int n] ∧ H d = some (diceO d) ∧ SqL K H l xs ∧ 0 ≤ n ∧ xs.length ≤ 1000 ∧
  ∀ p ys rest H', Gx H H' → H p = none → H' p = some (.lst ys) → (ys.length : Int) = (if (xs.length : Int) < n then (xs.length : Int) else n) → (ys ++ rest).Perm xs → Q (.ref p) H'

/-! ### the rules that speak of the written part, with that part told (for comprehensions) -/
section
variable {X : Cx} {K : PySem.W.Frag}
theorem kix_list (hK : X.K = K := by rfl) : IxR X (rIxL K) := by subst hK; exact ix_list
theorem kix_tup (hK : X.K = K := by rfl) : IxR X (rIxT K) := by subst hK; exact ix_tup
theorem kop_eqD (hu : X.A.units + 64 < cLine) (hK : X.K = K := by rfl) : OpR X (compareOp .Eq) (rEqD K) := by subst hK; exact op_eqD hu
theorem kop_neD (hu : X.A.units + 64 < cLine) (hK : X.K = K := by rfl) : OpR X (compareOp .NotEq) (rNeD K) := by subst hK; exact op_neD hu
theorem kop_in_seq (hK : X.K = K := by rfl) : OpR X (compareOp .In) (rIn K false) := by subst hK; exact op_in_seq
theorem kop_notIn_seq (hK : X.K = K := by rfl) : OpR X (compareOp .NotIn) (rIn K true) := by subst hK; exact op_notIn_seq
def rLenK (K : PySem.W.Frag) : List V → Hp → VK → Prop := fun xs H Q => ∃ p ys, xs = [.ref p] ∧ (SqL K H p ys ∨ SqT K H p ys) ∧ Q (.int ys.length) H
def rListK (K : PySem.W.Frag) : List V → Hp → VK → Prop := fun xs H Q => ∃ p ys, xs = [.ref p] ∧ (SqL K H p ys ∨ SqT K H p ys) ∧ ∀ l, H l = none → Q (.ref l) (upd H l (.lst ys))
def rTupK (K : PySem.W.Frag) : List V → Hp → VK → Prop := fun xs H Q => ∃ p ys, xs = [.ref p] ∧ ((SqL K H p ys ∧ ∀ l, H l = none → Q (.ref l) (upd H l (.tup ys))) ∨ (SqT K H p ys ∧ Q (.ref p) H))
theorem kcall_len (hK : X.K = K := by rfl) : CallR X (.builtin "len") (rLenK K) := by subst hK; exact call_len_seq
theorem kcall_list (hK : X.K = K := by rfl) : CallR X (.type "list") (rListK K) := by subst hK; exact call_list_of
theorem kcall_tuple (hK : X.K = K := by rfl) : CallR X (.type "tuple") (rTupK K) := by subst hK; exact call_tuple_of
theorem kcall_isi (hK : X.K = K := by rfl) : CallR X (.builtin "isinstance") (rIsi K) := by subst hK; exact call_isi
theorem kcr_all (hc : X.calm = true) (hK : X.K = K := by rfl) : CallR X (.builtin "all") (rAll K) := by subst hK; exact cr_all hc
theorem kcr_any (hc : X.calm = true) (hK : X.K = K := by rfl) : CallR X (.builtin "any") (rAny K) := by subst hK; exact cr_any hc
theorem ksl_list (hK : X.K = K := by rfl) : SlR X (rSlL K) := by subst hK; exact sl_list
variable {tg l : Expr} {tl : TE}
theorem kpi_list (hl : PE X l tl) (hK : X.K = K := by rfl) : PI X tg l (iList K tl) := by subst hK; exact pi_list hl
theorem kpi_tup (hl : PE X l tl) (hK : X.K = K := by rfl) : PI X tg l (iTup K tl) := by subst hK; exact pi_tup hl
theorem kpe_fld {e : Expr} {ta : TE} {f : Str} {pos : Pos} (he : PE X e ta) (hb : attributeBase e f X.env (eval e X.env) = eval e X.env) (hK : X.K = K := by rfl) : PE X (.Attribute e f pos) (tFld K ta f) := by subst hK; exact pe_fld he hb
section
variable {o e : Expr} {es : List Expr} {to te : TE} {t : TA} {name : Str} {apos cpos pos : Pos} {T id : String} {r : V → List V → Hp → VK → Prop}
theorem kpe_bm (pa : PlainAttrs T) (slot : Slot T name id) (hty : typeOf (.builtin id) = pure (.type "method_descriptor")) (hm : MtR X id r) (ho : PE X o to) (ha : PA X (e :: es) t) (hK : X.K = K := by rfl)
    (hbase : attributeBase o name X.env (eval o X.env) = eval o X.env := by rfl)
    (hfew : ((backTo cpos (starEach (e :: es) X.env)).all (fun x => !x.1) && (backToKw cpos (keywordEach [] X.env)).all (fun x => x.1.isSome)
      && decide ((e :: es).length + ([] : List Keyword).length + (if ([] : List Keyword).isEmpty then 0 else 1) < 30)) = true := by rfl)
    (hline : (apos.endLine == cpos.line) = true := by rfl) (hs : starEach (e :: es) X.env = (false, eval e X.env) :: starEach es X.env := by rfl) (hplain : (backTo cpos (starEach es X.env)).any (·.1) = false := by rfl) :
    PE X (.Call (.Attribute o name apos) (e :: es) [] cpos) (tBM K T r to t) := by
  subst hK
  exact pe_bm pa slot hty hm ho ha hbase hfew hline hs hplain
theorem kpe_bm0 (pa : PlainAttrs T) (slot : Slot T name id) (hty : typeOf (.builtin id) = pure (.type "method_descriptor")) (hm : MtR X id r) (ho : PE X o to) (hK : X.K = K := by rfl)
    (hbase : attributeBase o name X.env (eval o X.env) = eval o X.env := by rfl) (hline : (apos.endLine == cpos.line) = true := by rfl) : PE X (.Call (.Attribute o name apos) [] [] cpos) (tBM0 K T r to) := by
  subst hK
  exact pe_bm0 pa slot hty hm ho hbase hline
def rJoinK (K : PySem.W.Frag) : V → List V → Hp → VK → Prop := fun x xs H Q => ∃ a p, ∃ ys : List Str, x = .str a ∧ xs = [.ref p] ∧ (SqL K H p (ys.map V.str) ∨ SqT K H p (ys.map V.str)) ∧
      (ys.map (·.length)).sum + ys.length * a.length ≤ 16777216 ∧ Q (.str (Txt.join a ys)) H
theorem kpe_join (ho : PE X o to) (he : PE X e te) (hK : X.K = K := by rfl) (hs : starEach [e] X.env = [(false, eval e X.env)] := by rfl) (hbase : attributeBase o "join" X.env (eval o X.env) = eval o X.env := by rfl) (hline : (apos.endLine == pos.line) = true := by rfl) :
    PE X (.Call (.Attribute o "join" apos) [e] [] pos) (tM1 (rJoinK K) to te) := by
  subst hK
  exact pe_join ho he hs hbase hline
end
end
theorem yes_ite {σ : L2.St} {H : Hp} {A B : Hp → Prop} (h : A H) : tYes σ H (fun b H => if b = true then A H else B H) := by
  show if true = true then A H else B H
  rw [if_pos rfl]
  exact h

theorem LcR.nil_or {B : Nat → Bool → Prop} {R : Nat → Ty} {H : Hp} {n : Nat} {ys : List V} (h : LcR B R H n ys) : (ys = [] ∧ ∀ i, i < n → B i false) ∨ (ys ≠ [] ∧ ∃ i, i < n ∧ B i true) := by
  induction h with
  | nil => exact .inl ⟨rfl, fun i hi => by omega⟩
  | @keep n ys y _ b _ ih => exact .inr ⟨by simp, n, by omega, b⟩
  | @skip n ys _ b ih =>
    rcases ih with ⟨h1, h2⟩ | ⟨h1, i, h2, h3⟩
    · refine .inl ⟨h1, fun i hi => ?_⟩
      by_cases q : i = n
      · subst q
        exact b
      · exact h2 i (by omega)
    · exact .inr ⟨h1, i, by omega, h3⟩
theorem LcR.each {B : Nat → Bool → Prop} {R : Nat → Ty} {H : Hp} {n : Nat} {ys : List V} (h : LcR B R H n ys) {y : V} (hy : y ∈ ys) : ∃ i, i < n ∧ B i true ∧ R i y H := by
  induction h with
  | nil => cases hy
  | @keep n ys z _ b r ih =>
    rcases List.mem_append.mp hy with hy | hy
    · obtain ⟨i, h1, h2⟩ := ih hy
      exact ⟨i, by omega, h2⟩
    · obtain rfl := List.mem_singleton.mp hy
      exact ⟨n, by omega, b, r⟩
  | skip _ _ ih =>
    obtain ⟨i, h1, h2⟩ := ih hy
    exact ⟨i, by omega, h2⟩
/-- flat values as data -/
def flatD : V → PyData
  | .bl b => .bool b
  | .int i => .int i
  | .str z => .str z
  | _ => .none
def okV : V → Bool
  | .non => true
  | .bl _ => true
  | .int _ => true
  | .str z => PyData.strOk z
  | _ => false
theorem flat_dp {K : PySem.W.Frag} {H : Hp} : ∀ {ys : List V}, (∀ y ∈ ys, okV y = true) → DpAll K H ys (ys.map flatD)
  | [], _ => .nil
  | y :: ys, h => .cons (by
      have := h y (List.mem_cons_self ..)
      cases y with
      | non => exact .non
      | bl b => exact .bl b
      | int i => exact .int i
      | str z => exact .str z
      | _ => cases this) (flat_dp fun z hz => h z (List.mem_cons_of_mem _ hz))
theorem flat_lay : ∀ {ys : List V}, (∀ y ∈ ys, okV y = true) → PyData.canLayAll0 (ys.map flatD) = true ∧ PyData.depthAll (ys.map flatD) = 0
  | [], _ => ⟨by simp [PyData.canLayAll0], by simp [PyData.depthAll]⟩
  | y :: ys, h => by
    obtain ⟨h1, h2⟩ := flat_lay (ys := ys) fun z hz => h z (List.mem_cons_of_mem _ hz)
    have := h y (List.mem_cons_self ..)
    rw [List.map_cons]
    cases y with
    | non => exact ⟨by simp [flatD, PyData.canLayAll0, PyData.canLay0, h1], by simp [flatD, PyData.depthAll, PyData.depth, h2]⟩
    | bl b => exact ⟨by simp [flatD, PyData.canLayAll0, PyData.canLay0, h1], by simp [flatD, PyData.depthAll, PyData.depth, h2]⟩
    | int i => exact ⟨by simp [flatD, PyData.canLayAll0, PyData.canLay0, h1], by simp [flatD, PyData.depthAll, PyData.depth, h2]⟩
    | str z => exact ⟨by simp [flatD, PyData.canLayAll0, PyData.canLay0, h1]; exact this, by simp [flatD, PyData.depthAll, PyData.depth, h2]⟩
    | _ => cases this
theorem flat_shaped {ys : List V} (h : ∀ y ∈ ys, okV y = true) : SeqAt.shaped (.list (ys.map flatD)) = true ∧ SeqAt.shaped (.tuple (ys.map flatD)) = true := by
  obtain ⟨h1, h2⟩ := flat_lay h
  unfold SeqAt.shaped
  simp [PyData.canLay0, PyData.depth, h1, h2]

/-! ### texts; comprehensions over a drawn range; some of a list -/
def StrT (P : Str → Prop) : Ty := fun v _ => ∃ z, v = .str z ∧ P z
theorem StrT.firm {P : Str → Prop} : Firm (StrT P) := fun _ _ _ _ h => h
section
variable {K : PySem.W.Frag} {σ : L2.St} {H : Hp} {ta tb tc te : TE} {tr : TA} {Φ : Ty}
theorem evg_adds {P R : Str → Prop} (ha : EvG ta σ H (StrT P)) (hb : EvG tb σ H (StrT R)) (hl : ∀ x y, P x → R y → x.length + y.length ≤ 100000) (m : ∀ x y, P x → R y → ∀ H1, Gx H H1 → Φ (.str (x ++ y)) H1) :
    EvG (tOp (fun x y H Q => ∃ i j, x = .str i ∧ y = .str j ∧ i.length + j.length ≤ sizeLine ∧ Q (.str (i ++ j)) H) ta tb) σ H Φ := fun H1 e Q q =>
  ha H1 e _ fun _ H2 e2 ⟨i, z, p⟩ => hb H2 (e.trans e2) _ fun _ H3 e3 ⟨j, z2, r⟩ => ⟨i, j, z, z2, Evl.sz_of (hl i j p r), q _ H3 (e2.trans e3) (m i j p r H3 ((e.trans e2).trans e3))⟩
theorem evg_listS {z : Str} (h : EvG ta σ H (Eq1 (.str z))) (hz : z.length ≤ 100000) (m : ∀ c ∈ z.cps.toList, ∀ H1, Φ (.str ⟨#[c]⟩) H1) :
    EvG (tCB (fun xs H Q => ∃ z, xs = [.str z] ∧ z.length ≤ sizeLine ∧ ∀ l, H l = none → Q (.ref l) (upd H l (.lst (signsV z)))) (tCons ta tNil)) σ H (LofT Φ z.cps.size) := fun H1 e Q q =>
  h H1 e _ fun v H2 e2 hv => by
    have hv : v = .str z := hv
    subst hv
    refine ⟨z, rfl, Evl.sz_of hz, fun l hl => q _ _ (e2.trans (Gx.new hl)) ⟨l, rfl, _, upd_same, by unfold signsV; rw [List.length_map, Array.length_toList], fun x hx => ?_⟩⟩
    obtain ⟨c, hc, rfl⟩ := List.mem_map.mp hx
    exact m c hc _
theorem evn_lcR {j : Nat} {P : Nat → Prop} {R : Ty} (h : EvGs tr σ H (fun vs _ => ∃ n : Nat, vs = [.int n] ∧ P n)) (hP : ∀ n, P n → n ≤ 1000) (he : ∀ x H1, Gx H H1 → EvG te ((wipe σ [j]).set j (some x)) H1 R) (m : Firm R) :
    EvN (tLc (iRng1 tr) (gName j) tYes te [j]) σ H (fun p H' => ∃ ys, H' p = some (.lst ys) ∧ P ys.length ∧ ∀ y ∈ ys, R y H') := by
  intro H1 e Q q
  refine h H1 e _ fun vs H2 e2 ⟨n, z, pn⟩ => ⟨n, z, by omega, by have := hP n pn; omega, ?_⟩
  have hn : (n : Int).toNat = n := by omega
  rw [hn]
  show tLc (fun _ H R => R (Itr 0 n) H) (gName j) tYes te [j] σ H2 Q
  refine EvN.use (evn_lcA (n := n) (Y := fun i x _ => x = .int (0 + (i : Nat))) (R := fun _ => R) ?_ (by have := hP n pn; omega) (fun _ _ _ _ _ h => h) (fun i x H3 _ e3 _ => he x H3 ((e.trans e2).trans e3)) fun _ => m) ?_
  · intro H3 e3 R q
    exact q (Itr 0 n) H3 (fun _ => True) _ (Gx.refl _) walk_range (fun _ _ => trivial) fun i H4 x H5 _ _ ⟨z4, hx⟩ => by subst z4; exact ⟨Gx.refl _, hx⟩
  · rintro p H3 e3 n3 ⟨ys, hp, hl, hy⟩
    refine q p H3 (e2.trans e3) (e2.free n3) ⟨ys, hp, by rw [hl]; exact pn, fun y hy' => ?_⟩
    obtain ⟨i, hi⟩ := List.getElem?_of_mem hy'
    exact hy i y hi
theorem evg_some {n : Nat} {k : Int} (m : Mono Φ) (hd : EvG ta σ H DiceT) (hl : EvG tb σ H (LofT Φ n)) (hk : EvG tc σ H (IntT fun i => i = k)) (h0 : 0 ≤ k ∧ n ≤ 1000) :
    EvG (tCall (spSome K) [] E0 (tCons ta (tCons tb (tCons tc tNil)))) σ H (LofT Φ (if n < k.toNat then n else k.toNat)) := fun H1 e Q q =>
  hd H1 e _ fun _ H2 e2 ⟨d, z, hd⟩ => hl H2 (e.trans e2) _ fun _ H3 e3 ⟨l, z2, xs, h1, h2⟩ => hk H3 ((e.trans e2).trans e3) _ fun _ H4 e4 ⟨i, z3, hi⟩ => by
    have hi : i = k := hi
    subst z
    subst z2
    subst z3
    subst hi
    refine ⟨d, l, xs, i, rfl, (e3.trans e4) _ _ hd, SqL.of (e4 _ _ h1), h0.1, by rw [h2.1]; exact h0.2, fun p ys rest H5 e5 _ hp hyl pm => ?_⟩
    refine q _ H5 (((e2.trans e3).trans e4).trans e5) ⟨p, rfl, ys, hp, ?_, fun y hy => m _ _ _ (e4.trans e5) (h2.2 y (pm.mem_iff.mp (List.mem_append_left _ hy)))⟩
    rw [h2.1] at hyl
    split at hyl <;> split <;> omega
end

/-- some data -/
def DatP (K : PySem.W.Frag) (P : PyData → Prop) : Ty := fun v H => ∃ d, Dp K H v d ∧ SeqAt.shaped d = true ∧ P d
section
variable {K : PySem.W.Frag} {σ : L2.St} {H : Hp} {ta tb : TE} {P R : PyData → Prop}
theorem DatP.mono : Mono (DatP K P) := fun _ _ _ e ⟨d, h1, h2, h3⟩ => ⟨d, Dp.gx e h1, h2, h3⟩
theorem evg_eqP (ha : EvG ta σ H (DatP K P)) (hb : EvG tb σ H (DatP K R)) : EvG (tOp (rEqD K) ta tb) σ H (BlT fun b => ∃ d e, P d ∧ R e ∧ b = PyData.eqv d e) := fun H1 e1 Q q =>
  ha H1 e1 _ fun v H2 e2 ⟨d, f, sd, pd⟩ => hb H2 (e1.trans e2) _ fun v2 H3 e3 ⟨e, g, se, re⟩ => ⟨d, e, Dp.gx e3 f, g, sd, se, q _ H3 (e2.trans e3) ⟨_, rfl, d, e, pd, re, rfl⟩⟩
theorem evg_neP (ha : EvG ta σ H (DatP K P)) (hb : EvG tb σ H (DatP K R)) : EvG (tOp (rNeD K) ta tb) σ H (BlT fun b => ∃ d e, P d ∧ R e ∧ b = !PyData.eqv d e) := fun H1 e1 Q q =>
  ha H1 e1 _ fun v H2 e2 ⟨d, f, sd, pd⟩ => hb H2 (e1.trans e2) _ fun v2 H3 e3 ⟨e, g, se, re⟩ => ⟨d, e, Dp.gx e3 f, g, sd, se, q _ H3 (e2.trans e3) ⟨_, rfl, d, e, pd, re, rfl⟩⟩
theorem dat_p {d : PyData} (h : EvG ta σ H (DatT K d)) (hs : SeqAt.shaped d = true) : EvG ta σ H (DatP K fun e => e = d) := h.imp fun v H2 _ f => ⟨d, f, hs, rfl⟩
end

theorem strs_of {P : Str → Prop} {H : Hp} : ∀ {ys : List V}, (∀ y ∈ ys, StrT P y H) → ∃ zs : List Str, ys = zs.map V.str ∧ ∀ z ∈ zs, P z
  | [], _ => ⟨[], rfl, fun z h => by cases h⟩
  | y :: ys, h => by
    obtain ⟨zs, h1, h2⟩ := strs_of (ys := ys) fun z hz => h z (List.mem_cons_of_mem _ hz)
    obtain ⟨z, rfl, hz⟩ := h y (List.mem_cons_self ..)
    exact ⟨z :: zs, by rw [h1]; rfl, fun w hw => by
      rcases List.mem_cons.mp hw with rfl | hw
      · exact hz
      · exact h2 w hw⟩
theorem sum_le {n : Nat} : ∀ {zs : List Str}, (∀ z ∈ zs, z.length ≤ n) → (zs.map (·.length)).sum ≤ n * zs.length
  | [], _ => by simp
  | z :: zs, h => by
    have h1 := sum_le (zs := zs) fun w hw => h w (List.mem_cons_of_mem _ hw)
    have h2 := h z (List.mem_cons_self ..)
    rw [List.map_cons, List.sum_cons, List.length_cons, Nat.mul_add]
    omega
/-- sep.join(new list of texts) -/
theorem evg_join {K : PySem.W.Frag} {σ : L2.St} {H : Hp} {te : TE} {a : Str} {P : Str → Prop} {N : Nat → Prop} {Φ : Ty} {n m : Nat} (h : EvN te σ H (fun p H' => ∃ ys, H' p = some (.lst ys) ∧ N ys.length ∧ ∀ y ∈ ys, StrT P y H')) (hN : ∀ k, N k → k ≤ n) (hP : ∀ z, P z → z.length ≤ m) (hs : m * n + n * a.length ≤ 16777216)
    (k : ∀ zs : List Str, N zs.length → (∀ z ∈ zs, P z) → ∀ H1, Φ (.str (Txt.join a zs)) H1) : EvG (tM1 (rJoinK K) (tC (.str a)) te) σ H Φ := fun H1 e Q q =>
  ⟨⟨a, rfl⟩, h H1 e _ fun p H2 e2 _ ⟨ys, hp, hn, hy⟩ => by
    obtain ⟨zs, rfl, hz⟩ := strs_of hy
    rw [List.length_map] at hn
    have h1 := sum_le (n := m) (zs := zs) fun z hz' => hP z (hz z hz')
    have h2 := hN _ hn
    have h3 : m * zs.length ≤ m * n := Nat.mul_le_mul_left m h2
    have h4 : zs.length * a.length ≤ n * a.length := Nat.mul_le_mul_right _ h2
    exact ⟨a, p, zs, rfl, rfl, Or.inl (SqL.of hp), by omega, q _ H2 e2 (k zs hn hz H2)⟩⟩

/-! ### more rules with the written part told; slices, stars, stores -/
section
variable {X : Cx} {K : PySem.W.Frag}
theorem kpe_revL {e : Expr} {te : TE} {k : Nat} {p1 p2 p3 pos : Pos} (he : PE X e te) (hK : X.K = K := by rfl) : PE X (.Subscript e (.Slice none none (some (.UnaryOp .USub (.Constant (.int 1) k p1) p2)) p3) pos) (tRevL K te) := by
  subst hK
  exact pe_revL he
theorem kpa_star {e : Expr} {es : List Expr} {te : TE} {t : TA} {p : Pos} (he : PE X e te) (hr : PA X es t) (hK : X.K = K := by rfl) (hs : starEach (.Starred e p :: es) X.env = (true, eval e X.env) :: starEach es X.env := by rfl) : PA X (.Starred e p :: es) (StX.tStar K te t) := by
  subst hK
  exact StX.pa_star he hr hs
theorem ksl_tupA (hK : X.K = K := by rfl) : SlR X (rSlA K) := by subst hK; exact sl_tupA
end
theorem Dp.ints {K : PySem.W.Frag} {H : Hp} : ∀ (l : List Nat), DpAll K H (l.map fun (n : Nat) => V.int (n : Int)) (l.map fun (n : Nat) => PyData.int (n : Int))
  | [] => .nil
  | n :: l => .cons (.int _) (Dp.ints l)
abbrev intsV (l : List Nat) : List V := l.map fun (n : Nat) => V.int (n : Int)
section
variable {K : PySem.W.Frag} {σ : L2.St} {H : Hp} {ta tb tc te tl : TE} {tr : TA} {tz : TS} {D : Ends} {Φ : Ty}
theorem hsix {n k : Nat} (h : k ≤ n) (d : Nat) : HT.sIx n d (some (k : Int)) = k := by
  rw [HT.sIx_nat]
  omega
theorem cut_drop {xs : List V} {k : Nat} (h : k ≤ xs.length) : cutV xs (some (k : Int)) none = xs.drop k := by
  unfold cutV
  rw [hsix h, HT.sIx_none, List.take_of_length_le]
  rw [List.length_drop]
  omega
theorem cut_take {xs : List V} {k : Nat} (h : k ≤ xs.length) : cutV xs none (some (k : Int)) = xs.take k := by
  unfold cutV
  rw [hsix h, HT.sIx_none, Nat.sub_zero, List.drop_zero]
theorem cut_mid {xs : List V} {k m : Nat} (h : k ≤ xs.length) (h2 : m ≤ xs.length) : cutV xs (some (k : Int)) (some (m : Int)) = (xs.drop k).take (m - k) := by
  unfold cutV
  rw [hsix h, hsix h2]
/-- a list whose items are known -/
def LstK (K : PySem.W.Frag) (xs : List V) : Ty := fun v H => ∃ p, v = .ref p ∧ SqL K H p xs
def TupK (K : PySem.W.Frag) (xs : List V) : Ty := fun v H => ∃ p, v = .ref p ∧ SqT K H p xs
theorem LstK.mono {xs : List V} : Mono (LstK K xs) := fun _ _ _ e ⟨p, z, h⟩ => ⟨p, z, e.l h⟩
theorem TupK.mono {xs : List V} : Mono (TupK K xs) := fun _ _ _ e ⟨p, z, h⟩ => ⟨p, z, e.t h⟩
abbrev NewL (xs : List V) : Addr → Hp → Prop := fun p H => H p = some (.lst xs)
abbrev NewT (xs : List V) : Addr → Hp → Prop := fun p H => H p = some (.tup xs)
theorem newl_k {xs : List V} (h : EvN te σ H (NewL xs)) : EvG te σ H (LstK K xs) := h.g fun p _ _ _ _ _ f => ⟨p, rfl, SqL.of f⟩
theorem newt_k {xs : List V} (h : EvN te σ H (NewT xs)) : EvG te σ H (TupK K xs) := h.g fun p _ _ _ _ _ f => ⟨p, rfl, SqT.of f⟩
/-- xs[k:], xs[:k] of a list -/
theorem evn_drop {xs : List V} {k : Nat} (h : EvG tl σ H (LstK K xs)) (hk : EvG ta σ H (IntT fun i => i = (k : Int))) (hle : k ≤ xs.length) : EvN (tSl (rSlL K) tl (tPart ta) tNoPart) σ H (NewL (xs.drop k)) := fun H1 e Q q =>
  h H1 e _ fun v H2 e2 ⟨p, z, hp⟩ => hk H2 (e.trans e2) _ fun w H3 e3 ⟨i, z2, hi⟩ => ⟨i, z2, p, xs, z, e3.l hp, fun l hl => by
    have hi : i = (k : Int) := hi
    rw [hi, cut_drop hle]
    exact q l _ ((e2.trans e3).trans (Gx.new hl)) ((e2.trans e3).free hl) upd_same⟩
theorem evn_take {xs : List V} {k : Nat} (h : EvG tl σ H (LstK K xs)) (hk : EvG ta σ H (IntT fun i => i = (k : Int))) (hle : k ≤ xs.length) : EvN (tSl (rSlL K) tl tNoPart (tPart ta)) σ H (NewL (xs.take k)) := fun H1 e Q q =>
  h H1 e _ fun v H2 e2 ⟨p, z, hp⟩ => hk H2 (e.trans e2) _ fun w H3 e3 ⟨i, z2, hi⟩ => ⟨i, z2, p, xs, z, e3.l hp, fun l hl => by
    have hi : i = (k : Int) := hi
    rw [hi, cut_take hle]
    exact q l _ ((e2.trans e3).trans (Gx.new hl)) ((e2.trans e3).free hl) upd_same⟩
theorem evn_rev {xs : List V} (h : EvG tl σ H (LstK K xs)) : EvN (tRevL K tl) σ H (NewL xs.reverse) := fun H1 e Q q =>
  h H1 e _ fun v H2 e2 ⟨p, z, hp⟩ => ⟨p, xs, z, hp, fun l hl => q l _ (e2.trans (Gx.new hl)) (e2.free hl) upd_same⟩
theorem evn_tupleL {xs : List V} (h : EvG tl σ H (LstK K xs)) : EvN (tCB (rTupK K) (tCons tl tNil)) σ H (NewT xs) := fun H1 e Q q =>
  h H1 e _ fun v H2 e2 ⟨p, z, hp⟩ => ⟨p, xs, by rw [z], .inl ⟨hp, fun l hl => q l _ (e2.trans (Gx.new hl)) (e2.free hl) upd_same⟩⟩
theorem evg_len {xs : List V} (h : EvG tl σ H (fun v H => ∃ p, v = .ref p ∧ (SqL K H p xs ∨ SqT K H p xs))) : EvG (tCB (rLenK K) (tCons tl tNil)) σ H (IntT fun i => i = (xs.length : Int)) := fun H1 e Q q =>
  h H1 e _ fun v H2 e2 ⟨p, z, hp⟩ => ⟨p, xs, by rw [z], hp, q _ H2 e2 ⟨_, rfl, rfl⟩⟩
theorem evg_lenL {xs : List V} (h : EvG tl σ H (LstK K xs)) : EvG (tCB (rLenK K) (tCons tl tNil)) σ H (IntT fun i => i = (xs.length : Int)) := evg_len (h.imp fun v H _ ⟨p, z, hp⟩ => ⟨p, z, .inl hp⟩)
theorem evg_lenT {xs : List V} (h : EvG tl σ H (TupK K xs)) : EvG (tCB (rLenK K) (tCons tl tNil)) σ H (IntT fun i => i = (xs.length : Int)) := evg_len (h.imp fun v H _ ⟨p, z, hp⟩ => ⟨p, z, .inr hp⟩)
theorem evg_ixL {xs : List V} {k : Nat} {x : V} (h : EvG tl σ H (LstK K xs)) (hk : EvG ta σ H (IntT fun i => i = (k : Int))) (hx : xs[k]? = some x) : EvG (tOp (rIxL K) tl ta) σ H (Eq1 x) := fun H1 e Q q =>
  h H1 e _ fun v H2 e2 ⟨p, z, hp⟩ => hk H2 (e.trans e2) _ fun w H3 e3 ⟨i, z2, hi⟩ => ⟨p, xs, i, x, z, z2, e3.l hp, at_of hi hx, q _ H3 (e2.trans e3) rfl⟩
theorem evg_ixT {xs : List V} {k : Nat} {x : V} (h : EvG tl σ H (TupK K xs)) (hk : EvG ta σ H (IntT fun i => i = (k : Int))) (hx : xs[k]? = some x) : EvG (tOp (rIxT K) tl ta) σ H (Eq1 x) := fun H1 e Q q =>
  h H1 e _ fun v H2 e2 ⟨p, z, hp⟩ => hk H2 (e.trans e2) _ fun w H3 e3 ⟨i, z2, hi⟩ => ⟨p, xs, i, x, z, z2, e3.t hp, at_of hi hx, q _ H3 (e2.trans e3) rfl⟩
/-- a value that is known, as a tuple | a list -/
theorem eq_tup {xs : List V} {p : Addr} (h : EvG te σ H (Eq1 (.ref p))) (hp : SqT K H p xs) : EvG te σ H (TupK K xs) := h.imp fun v H2 e z => ⟨p, z, e.t hp⟩
theorem eq_lst {xs : List V} {p : Addr} (h : EvG te σ H (Eq1 (.ref p))) (hp : SqL K H p xs) : EvG te σ H (LstK K xs) := h.imp fun v H2 e z => ⟨p, z, e.l hp⟩
theorem evg_add1 {a b : Int} (ha : EvG ta σ H (IntT fun i => i = a)) (hb : EvG tb σ H (IntT fun i => i = b)) : EvG (tOp (rI0 fun i j => .int (i + j)) ta tb) σ H (IntT fun i => i = a + b) :=
  evg_I0 ha hb fun i j h1 h2 _ _ => ⟨_, rfl, by rw [h1, h2]⟩
theorem evg_sub1 {a b : Int} (ha : EvG ta σ H (IntT fun i => i = a)) (hb : EvG tb σ H (IntT fun i => i = b)) : EvG (tOp (rI0 fun i j => .int (i - j)) ta tb) σ H (IntT fun i => i = a - b) :=
  evg_I0 ha hb fun i j h1 h2 _ _ => ⟨_, rfl, by rw [h1, h2]⟩
theorem evg_neg1 {a : Int} (ha : EvG ta σ H (IntT fun i => i = a)) : EvG (tUn (rU fun i => .int (-i)) ta) σ H (IntT fun i => i = -a) :=
  evg_U ha fun i h1 _ _ => ⟨_, rfl, by rw [h1]⟩
theorem evg_cmp1 {f : Int → Int → Bool} {a b : Int} (ha : EvG ta σ H (IntT fun i => i = a)) (hb : EvG tb σ H (IntT fun i => i = b)) : EvG (tOp (rI0 fun i j => .bl (f i j)) ta tb) σ H (BlE (f a b)) :=
  evg_I0 ha hb fun i j h1 h2 _ _ => ⟨_, rfl, by rw [h1, h2]⟩
theorem int_e {i : Int} (h : EvG te σ H (Eq1 (.int i))) : EvG te σ H (IntT fun j => j = i) := h.imp fun _ _ _ z => ⟨i, z, rfl⟩
theorem e_int {i : Int} (h : EvG te σ H (IntT fun j => j = i)) : EvG te σ H (Eq1 (.int i)) := h.imp fun _ _ _ ⟨j, z, hj⟩ => by
  have hj : j = i := hj
  show _ = _
  rw [z, hj]
/-- xs[k] = v, a list of one's own -/
theorem g_put {l : Addr} {xs : List V} {k : Nat} {v : V} (h : EvG te σ H (Eq1 v)) (ho : EvG ta σ H (Eq1 (.ref l))) (hi : EvG tb σ H (IntT fun i => i = (k : Int))) (hl : H l = some (.lst xs)) (hk : k < xs.length)
    (z : ∀ H1, Gx H H1 → tz D σ (upd H1 l (.lst (xs.set k v)))) : tSeq (tAsg te (gSub ta tb rSetL)) tz D σ H :=
  h H (Gx.refl H) _ fun v1 H1 e1 z1 => ho H1 e1 _ fun v2 H2 e2 z2 => hi H2 (e1.trans e2) _ fun v3 H3 e3 ⟨i, z3, hi⟩ => by
    have z1 : v1 = v := z1
    have z2 : v2 = .ref l := z2
    have hi : i = (k : Int) := hi
    subst z1
    subst z2
    subst z3
    subst hi
    exact ⟨l, xs, _, k, rfl, rfl, ((e1.trans e2).trans e3) _ _ hl, Evl.ixN_nat hk, z H3 ((e1.trans e2).trans e3)⟩
end

section
variable {K : PySem.W.Frag} {σ : L2.St} {H : Hp} {ta tb tc te tl : TE} {tr : TA} {tz tu : TS} {D : Ends} {Φ : Ty} {tt : TT} {j : Nat}
/-- for x in range(n - 1, -1, -1) -/
theorem g_forD {n : Nat} (h : EvGs tr σ H (fun vs _ => vs = [.int ((n : Int) - 1), .int (-1), .int (-1)])) (hn : n ≤ 100000) (Pv : Nat → L2.St → Hp → Prop) (h0 : ∀ H1, Gx H H1 → Pv 0 σ H1)
    (hs : ∀ (i : Nat) σ' H', i < n → Pv i σ' H' → tu { D with nx := Pv (i + 1), ct := Pv (i + 1), bk := fun σ H => tz D σ H } (σ'.set j (some (.int ((n - 1 - i : Nat) : Int)))) H')
    (hd : ∀ σ' H', Pv n σ' H' → tz D σ' H') : tSeq (tFor (iRng3 tr) (gName j) tu) tz D σ H := h H (Gx.refl H) _ fun vs H1 e hv => by
  have hr : RgC ((n : Int) - 1) (-1) (-1) (((n : Int) - 1) - (-1)).toNat := RgC.neg (by omega) (by omega) (by omega) (by omega)
  have hn' : (((n : Int) - 1) - (-1)).toNat = n := by omega
  rw [hn'] at hr
  refine ⟨_, _, _, n, hv, hr, for_it walk_rangeC (D := { D with nx := tz D }) Pv (h0 H1 e) (fun _ _ _ _ _ => trivial) (fun i x σ' H2 H3 hi p y => ?_) hd⟩
  obtain ⟨rfl, rfl⟩ := y
  have := hs i σ' H3 hi p
  rw [show ((n - 1 - i : Nat) : Int) = (n : Int) - 1 + (i : Nat) * -1 by omega] at this
  exact this
theorem g_putN {l : Addr} {xs : List V} {k : Nat} {Φ : Addr → Hp → Prop} (h : EvN te σ H Φ) (ho : ∀ σ' : L2.St, σ' = σ → EvG ta σ H (Eq1 (.ref l))) (hi : EvG tb σ H (IntT fun i => i = (k : Int))) (hl : H l = some (.lst xs)) (hk : k < xs.length)
    (z : ∀ p H1 H2, Gx H H1 → H p = none → Φ p H1 → Gx H1 H2 → tz D σ (upd H2 l (.lst (xs.set k (.ref p))))) : tSeq (tAsg te (gSub ta tb rSetL)) tz D σ H :=
  h H (Gx.refl H) _ fun p H1 e1 n1 f => ho σ rfl H1 e1 _ fun v2 H2 e2 z2 => hi H2 (e1.trans e2) _ fun v3 H3 e3 ⟨i, z3, hi⟩ => by
    have z2 : v2 = .ref l := z2
    have hi : i = (k : Int) := hi
    subst z2
    subst z3
    subst hi
    exact ⟨l, xs, _, k, rfl, rfl, ((e1.trans e2).trans e3) _ _ hl, Evl.ixN_nat hk, z p H1 H3 e1 n1 f (e2.trans e3)⟩
theorem g_asg1 {i : Nat} (h : EvG te σ H Φ) (k : ∀ v H1, Gx H H1 → Φ v H1 → D.nx (σ.set i (some v)) H1) : tAsg te (gName i) D σ H := h H (Gx.refl H) _ fun v H1 e f => k v H1 e f
theorem g_asgN1 {i : Nat} {Φ : Addr → Hp → Prop} (h : EvN te σ H Φ) (k : ∀ p H1, Gx H H1 → H p = none → Φ p H1 → D.nx (σ.set i (some (.ref p))) H1) : tAsg te (gName i) D σ H := h H (Gx.refl H) _ fun v H1 e n f => k v H1 e n f
theorem evgs_star {xs : List V} {Ψ : List V → Hp → Prop} (h : EvG te σ H (LstK K xs)) (hr : ∀ H1, Gx H H1 → EvGs tr σ H1 (fun ys H2 => Ψ (xs ++ ys) H2)) : EvGs (StX.tStar K te tr) σ H Ψ := fun H1 e Q q =>
  h H1 e _ fun v H2 e2 ⟨p, z, hp⟩ => ⟨p, xs, z, .inr hp, hr H2 (e.trans e2) H2 (Gx.refl _) _ fun ys H3 e3 f => q _ H3 (e2.trans e3) f⟩
theorem evgs_starT {xs : List V} {Ψ : List V → Hp → Prop} (h : EvG te σ H (TupK K xs)) (hr : ∀ H1, Gx H H1 → EvGs tr σ H1 (fun ys H2 => Ψ (xs ++ ys) H2)) : EvGs (StX.tStar K te tr) σ H Ψ := fun H1 e Q q =>
  h H1 e _ fun v H2 e2 ⟨p, z, hp⟩ => ⟨p, xs, z, .inl hp, hr H2 (e.trans e2) H2 (Gx.refl _) _ fun ys H3 e3 f => q _ H3 (e2.trans e3) f⟩
/-- arguments that are known -/
theorem evgs_e1 {x : V} (h : EvG te σ H (Eq1 x)) : EvGs (tCons te tNil) σ H (fun vs _ => vs = [x]) := evgs_cons h fun v H1 _ z => evgs_nil fun _ _ => by
  have z : v = x := z
  show [v] = [x]
  rw [z]
theorem evgs_ec {x : V} {xs : List V} (h : EvG te σ H (Eq1 x)) (k : EvGs tr σ H (fun vs _ => vs = xs)) : EvGs (tCons te tr) σ H (fun vs _ => vs = x :: xs) := evgs_cons h fun v H1 e z => fun H2 e2 Q q => k H2 (e.trans e2) Q fun vs H3 e3 w => q vs H3 e3 (by
  have z : v = x := z
  have w : vs = xs := w
  show v :: vs = x :: xs
  rw [z, w])
theorem evgs_en : EvGs tNil σ H (fun vs _ => vs = []) := evgs_nil fun _ _ => rfl
theorem evg_ifE {b : Bool} (h : EvB tt σ H (fun c => c = b)) (h1 : b = true → ∀ H1, Gx H H1 → EvG ta σ H1 Φ) (h2 : b = false → ∀ H1, Gx H H1 → EvG tb σ H1 Φ) : EvG (tIf tt ta tb) σ H Φ := fun H1 e Q q =>
  h H1 e _ fun c H2 e2 hc => by
    subst hc
    cases c with
    | true => exact iteT (h1 rfl H2 (e.trans e2) H2 (Gx.refl _) Q fun v H3 e3 f => q v H3 (e2.trans e3) f)
    | false => exact iteF (h2 rfl H2 (e.trans e2) H2 (Gx.refl _) Q fun v H3 e3 f => q v H3 (e2.trans e3) f)
end
theorem Kx.rdT {H H' : Hp} {a : Addr} {xs : List V} (e : Kx H H') (h : Rd H a (.tup xs)) : Rd H' a (.tup xs) := by
  rcases h with h | ⟨o, h⟩
  · exact .inl (e.tup h)
  · exact .inr ⟨o, e.keep h fun _ z => by cases z⟩
theorem Kx.t {K : PySem.W.Frag} {H H' : Hp} {a : Addr} {xs : List V} (e : Kx H H') (h : SqT K H a xs) : SqT K H' a xs := by
  rcases h with h | h
  · exact .inl (e.rdT h)
  · exact .inr h
theorem intsV_eqv : ∀ (l m : List Nat), PyData.eqvAll (l.map fun (n : Nat) => PyData.int (n : Int)) (m.map fun (n : Nat) => PyData.int (n : Int)) = decide (l = m)
  | [], [] => by simp [PyData.eqvAll]
  | [], b :: m => by simp [PyData.eqvAll]
  | a :: l, [] => by simp [PyData.eqvAll]
  | a :: l, b :: m => by
    show (PyData.eqv (.int a) (.int b) && PyData.eqvAll _ _) = _
    rw [intsV_eqv l m]
    show (((a : Int) == (b : Int)) && decide (l = m)) = decide (a :: l = b :: m)
    by_cases h : a = b
    · subst h
      by_cases h2 : l = m
      · subst h2
        simp
      · simp [h2]
    · have h' : ¬ ((a : Int) = (b : Int)) := by omega
      simp [h, h']
theorem ints_lay : ∀ (l : List Nat), PyData.canLayAll0 (l.map fun (n : Nat) => PyData.int (n : Int)) = true ∧ PyData.depthAll (l.map fun (n : Nat) => PyData.int (n : Int)) = 0
  | [] => ⟨by simp [PyData.canLayAll0], by simp [PyData.depthAll]⟩
  | n :: l => by
    obtain ⟨h1, h2⟩ := ints_lay l
    exact ⟨by simp [PyData.canLayAll0, PyData.canLay0, h1], by simp [PyData.depthAll, PyData.depth, h2]⟩
theorem ints_shaped (l : List Nat) : SeqAt.shaped (.list (l.map fun (n : Nat) => PyData.int (n : Int))) = true ∧ SeqAt.shaped (.tuple (l.map fun (n : Nat) => PyData.int (n : Int))) = true := by
  obtain ⟨h1, h2⟩ := ints_lay l
  unfold SeqAt.shaped
  simp [PyData.canLay0, PyData.depth, h1, h2]

theorem ints_of {ys : List V} {n : Nat} {f : Nat → Nat} (hl : ys.length = n) (h : ∀ (i : Nat) (y : V), ys[i]? = some y → y = V.int ((f i : Nat) : Int)) : ys = intsV ((List.range n).map f) := by
  apply List.ext_getElem?
  intro i
  unfold intsV
  rw [List.map_map, List.getElem?_map]
  cases q : ys[i]? with
  | some y =>
    have hi : i < n := by rw [← hl]; exact (List.getElem?_eq_some_iff.mp q).1
    rw [h i y q, List.getElem?_range hi]
    rfl
  | none =>
    have : ys.length ≤ i := List.getElem?_eq_none_iff.mp q
    rw [List.getElem?_eq_none (by rw [List.length_range]; omega)]
    rfl
section
variable {K : PySem.W.Frag} {σ : L2.St} {H : Hp} {ta tb tc te tl : TE}
theorem evg_lastT {xs : List V} {x : V} (h : EvG tl σ H (TupK K xs)) (hk : EvG ta σ H (IntT fun i => i = -1)) (hx : xs.getLast? = some x) : EvG (tOp (rIxT K) tl ta) σ H (Eq1 x) := fun H1 e Q q =>
  h H1 e _ fun v H2 e2 ⟨p, z, hp⟩ => hk H2 (e.trans e2) _ fun w H3 e3 ⟨i, z2, hi⟩ => ⟨p, xs, i, x, z, z2, e3.t hp, by
    have hi : i = -1 := hi
    have hne : xs ≠ [] := fun z => by rw [z] at hx; cases hx
    rw [hi]
    unfold atI ixN
    have hl : 0 < xs.length := List.length_pos_iff.mpr hne
    rw [if_neg (by omega), if_pos (by omega)]
    show xs[(-1 + (xs.length : Int)).toNat]? = some x
    rw [show (-1 + (xs.length : Int)).toNat = xs.length - 1 by omega, ← List.getLast?_eq_getElem?]
    exact hx, q _ H3 (e2.trans e3) rfl⟩
end

theorem g_put1 {σ : L2.St} {H : Hp} {ta tb te : TE} {D : Ends} {l : Addr} {xs : List V} {k : Nat} {v : V} (h : EvG te σ H (Eq1 v)) (ho : EvG ta σ H (Eq1 (.ref l))) (hi : EvG tb σ H (IntT fun i => i = (k : Int))) (hl : H l = some (.lst xs)) (hk : k < xs.length)
    (z : ∀ H1, Gx H H1 → D.nx σ (upd H1 l (.lst (xs.set k v)))) : tAsg te (gSub ta tb rSetL) D σ H := g_put (tz := tNext) h ho hi hl hk z

/-! ### dicts: comprehensions, locks, pairs -/
theorem kpg_tup {X : Cx} {K : PySem.W.Frag} {es : List Expr} {k : Nat} {t : TGs} {n : Nat} {pos : Pos} (hc : X.calm = true) (h : PGs X es t) (hK : X.K = K := by rfl)
    (hn : (assignEach es X.env).length = n := by rfl) (hst : (assignEach es X.env).findIdx? (·.1) = none := by rfl) : PG X (.Tuple es k pos) (gTup K n t) := by
  subst hK
  exact pg_tup hc h hn hst
theorem kcr_sortedS {X : Cx} {K : PySem.W.Frag} (hK : X.K = K := by rfl) : CallR X (.builtin "sorted") (rSortedS K) := by subst hK; exact cr_sortedS
/-- the dict that a comprehension makes -/
def dcL (B : Nat → Bool) (k : Nat → Key) (v : Nat → V) : Nat → List (Key × V)
  | 0 => []
  | n + 1 => if B n = true then putK (dcL B k v n) (k n) (v n) else dcL B k v n
theorem putK_len {κ : Type} [DecidableEq κ] (kvs : List (κ × V)) (k : κ) (v : V) : (putK kvs k v).length ≤ kvs.length + 1 := by
  unfold putK
  split
  · rw [List.length_map]
    omega
  · rw [List.length_append]
    exact Nat.le_refl _
theorem dcL_len (B : Nat → Bool) (k : Nat → Key) (v : Nat → V) : ∀ n, (dcL B k v n).length ≤ n
  | 0 => Nat.le_refl _
  | n + 1 => by
    have h := dcL_len B k v n
    show (if B n = true then putK (dcL B k v n) (k n) (v n) else dcL B k v n).length ≤ n + 1
    split
    · have := putK_len (dcL B k v n) (k n) (v n)
      omega
    · omega
section
variable {K : PySem.W.Frag} {σ : L2.St} {H : Hp} {te td tk tv : TE} {wi : TI} {g : TG} {tt : TT} {vs : List Nat} {n : Nat} {d : Addr}
theorem evn_dc {Y : Nat → Ty} {S : Nat → L2.St → Hp → Prop} {B : Nat → Bool} {k : Nat → Key} {v : Nat → V} (hw : EvW wi σ H n Y) (hn : n ≤ 100000)
    (hg : ∀ i x H1, i < n → Gx H H1 → Y i x H1 → ∀ Q : L2.St → Hp → Prop, (∀ σ2, wipe σ2 vs = wipe σ vs → S i σ2 H1 → Q σ2 H1) → g x (wipe σ vs) H1 Q)
    (ht : ∀ i σ2 H1, i < n → Gx H H1 → S i σ2 H1 → EvB tt σ2 H1 (fun c => c = B i)) (ms : ∀ i σ2 H1 H2, Gx H1 H2 → S i σ2 H1 → S i σ2 H2)
    (hk : ∀ i σ2 H1, i < n → Gx H H1 → S i σ2 H1 → B i = true → EvG tk σ2 H1 (Eq1 (kV (k i)))) (hv : ∀ i σ2 H1, i < n → Gx H H1 → S i σ2 H1 → B i = true → EvG tv σ2 H1 (Eq1 (v i))) :
    EvN (tDc wi g tt tk tv vs) σ H (fun p H' => H' p = some (.dK (dcL B k v n))) := by
  intro H1 e Q q
  refine hw H1 e _ fun J H2 G Y' e2 W hG hY => ?_
  intro D hD
  refine ⟨fun i m H' => m = n - i ∧ i ≤ n ∧ Gx H2 H' ∧ H' D = some (.dK (dcL B k v i)), ⟨n, by omega, by omega, Gx.new hD, upd_same⟩, ?_⟩
  rintro i m H3 ⟨rfl, hi, e3, hys⟩
  by_cases hlt : i < n
  · refine .inr ⟨W.goes i H3 hlt (hG H3 e3), fun H' => Gx H2 H' ∧ H' D = some (.dK (dcL B k v (i + 1))), fun H' p' => ⟨n - (i + 1), by omega, rfl, hlt, p'.1, p'.2⟩, fun x H4 y => ?_⟩
    obtain ⟨e4, y⟩ := hY i H3 x H4 hlt e3 (W.yields i H3 x H4 hlt (hG H3 e3) y)
    have e5 := ((e.trans e2).trans e3).trans e4
    refine hg i x H4 hlt e5 y _ fun σ2 w s2 => ⟨w, ht i σ2 H4 hlt e5 s2 H4 (Gx.refl _) _ fun b H5 e6 hb => ?_⟩
    subst hb
    cases hB : B i with
    | true =>
      refine iteT (hk i σ2 H5 hlt (e5.trans e6) (ms i σ2 H4 H5 e6 s2) hB H5 (Gx.refl _) _ fun y1 H6 e7 z1 => hv i σ2 H6 hlt ((e5.trans e6).trans e7) (ms i σ2 H4 H6 (e6.trans e7) s2) hB H6 (Gx.refl _) _ fun y2 H7 e8 z2 => ?_)
      have z1 : y1 = kV (k i) := z1
      have z2 : y2 = v i := z2
      have e9 := ((e4.trans e6).trans e7).trans e8
      refine ⟨dcL B k v i, k i, z1, e9 _ _ hys, Evl.sz_lt (by have := dcL_len B k v i; omega), (e3.trans e9).mut hD, ?_⟩
      rw [upd_same, z2]
      show some (HO.dK _) = some (HO.dK (if B i = true then _ else _))
      rw [if_pos hB]
    | false =>
      have e9 := e4.trans e6
      refine iteF ⟨e3.trans e9, ?_⟩
      show _ = some (HO.dK (if B i = true then _ else _))
      rw [if_neg (by rw [hB]; decide)]
      exact e9 _ _ hys
  · have : i = n := by omega
    subst this
    exact .inl ⟨W.stops H3 (hG H3 e3), q D H3 (e2.trans e3) (e2.free hD) hys⟩
/-- a dict that is walked stands under a lock -/
theorem evn_lock {kvs : List (Key × V)} {Φ : Addr → Hp → Prop} (hd : H d = some (.dK kvs)) (h : ∀ od, EvN te σ (upd H d (.frz od (.dK kvs))) Φ) (m : ∀ p H2, Φ p H2 → p ≠ d → Φ p (upd H2 d (.dK kvs))) : EvN (tLockE te) σ H Φ := fun H1 e Q q =>
  ⟨d, .dK kvs, e _ _ hd, trivial, fun od => h od _ (fun a o ha => by
      by_cases z : a = d
      · subst z
        rw [upd_same] at ha ⊢
        exact ha
      · rw [upd_ne z] at ha ⊢
        exact e _ _ ha) _ fun p H2 e2 np f => by
    have hpd : p ≠ d := fun z => by
      subst z
      rw [upd_same] at np
      cases np
    refine ⟨e2 _ _ upd_same, q p _ (fun a o ha => ?_) (by rw [upd_ne hpd] at np; exact np) (m p H2 f hpd)⟩
    by_cases z : a = d
    · subst z
      rw [e _ _ hd] at ha
      cases ha
      exact upd_same
    · rw [upd_ne z]
      exact e2 _ _ (by rw [upd_ne z]; exact ha)⟩
theorem evw_items {kvs : List (Key × V)} {o : Obj} (h : EvG td σ H (Eq1 (.ref d))) (hd : H d = some (.frz o (.dK kvs))) : EvW (iItems td) σ H kvs.length (fun i x H => ∃ T k v, x = .ref T ∧ H T = some (.tup [kV k, v]) ∧ kvs[i]? = some (k, v)) := fun H1 e R q =>
  h H1 e _ fun v H2 e2 hv => ⟨d, o, kvs, hv, (e.trans e2) _ _ hd, q _ H2 _ _ e2 walk_items (fun H3 e3 => ((e.trans e2).trans e3) _ _ hd) fun i H3 x H4 hi _ ⟨T, x1, y1, hx, hT, h4, h5, h6⟩ => by
    subst h4
    have hk : kvs[i]? = some kvs[i] := List.getElem?_eq_getElem hi
    have h5 : kvs[i]?.map (fun kv => kV kv.1) = some x1 := h5
    have h6 : kvs[i]?.map Prod.snd = some y1 := h6
    rw [hk] at h5 h6
    cases h5
    cases h6
    exact ⟨Gx.new hT, T, (kvs[i]).1, (kvs[i]).2, hx, upd_same, hk⟩⟩
/-- a target of two names -/
theorem tg_pair {a b : Nat} {x : V} {T : Addr} {x1 x2 : V} {H1 : Hp} (hx : x = .ref T) (hT : SqT K H1 T [x1, x2]) {σ0 : L2.St} {Q : L2.St → Hp → Prop} (q : Q ((σ0.set a (some x1)).set b (some x2)) H1) : gTup K 2 (gCons (gName a) (gCons (gName b) gNil)) x σ0 H1 Q :=
  ⟨T, [x1, x2], hx, hT, rfl, x1, [x2], rfl, x2, [], rfl, rfl, q⟩
end

theorem range_getD {α : Type} (l : List α) (d : α) : (List.range l.length).map (fun i => l.getD i d) = l := by
  apply List.ext_getElem?
  intro i
  rw [List.getElem?_map]
  by_cases h : i < l.length
  · rw [List.getElem?_range h, List.getElem?_eq_getElem h]
    show some (l.getD i d) = _
    rw [List.getD_eq_getElem?_getD, List.getElem?_eq_getElem h]
    rfl
  · rw [List.getElem?_eq_none (by rw [List.length_range]; omega), List.getElem?_eq_none (by omega)]
    rfl
/-- keys that differ: the pairs in order -/
theorem dcL_of {α : Type} (P : α → Bool) (k : α → Key) (v : α → V) (d : α) (l : List α) (hn : (l.map k).Nodup) : ∀ n, n ≤ l.length → dcL (fun i => P (l.getD i d)) (fun i => k (l.getD i d)) (fun i => v (l.getD i d)) n = (((l.take n).filter P).map fun x => (k x, v x))
  | 0, _ => by simp [dcL]
  | n + 1, h => by
    have ih := dcL_of P k v d l hn n (by omega)
    have hx : l[n]? = some (l.getD n d) := by
      rw [List.getD_eq_getElem?_getD, List.getElem?_eq_getElem (by omega)]
      rfl
    have ht : l.take (n + 1) = l.take n ++ [l.getD n d] := by
      rw [List.take_add_one, hx]
      rfl
    show (if P (l.getD n d) = true then putK (dcL _ _ _ n) (k (l.getD n d)) (v (l.getD n d)) else dcL _ _ _ n) = _
    rw [ih, ht, List.filter_append, List.map_append]
    by_cases hp : P (l.getD n d) = true
    · rw [if_pos hp]
      have hv : valV (((l.take n).filter P).map fun x => (k x, v x)) (k (l.getD n d)) = none := by
        unfold valV
        rw [Option.map_eq_none_iff, List.find?_eq_none]
        intro x hx' hk
        obtain ⟨y, hy, rfl⟩ := List.mem_map.mp hx'
        have hk : k y = k (l.getD n d) := of_decide_eq_true hk
        have hy2 : y ∈ l.take n := (List.mem_filter.mp hy).1
        obtain ⟨i, hi⟩ := List.getElem?_of_mem hy2
        have hin : i < n := by
          have := (List.getElem?_eq_some_iff.mp hi).1
          rw [List.length_take] at this
          omega
        rw [List.getElem?_take_of_lt hin] at hi
        have := nd_ix hn (i := i) (j := n) (x := k y) (by rw [List.getElem?_map, hi]; rfl) (by rw [List.getElem?_map, hx, hk]; rfl)
        omega
      rw [putK_new _ hv, List.filter_cons_of_pos hp]
      rfl
    · rw [if_neg hp, List.filter_cons_of_neg hp]
      simp
section
variable {K : PySem.W.Frag} {σ : L2.St} {H : Hp} {tl : TE} {tz tb : TS} {D : Ends} {g : TG}
theorem g_forT {a : Addr} {xs : List V} (h : EvG tl σ H (Eq1 (.ref a))) (hx : SqT K H a xs) (Pv : Nat → L2.St → Hp → Prop) (h0 : ∀ H1, Gx H H1 → Pv 0 σ H1) (hG : ∀ i σ' H', Pv i σ' H' → SqT K H' a xs)
    (hs : ∀ (i : Nat) x σ' H', xs[i]? = some x → Pv i σ' H' → g x σ' H' fun σ2 H2 => tb { D with nx := Pv (i + 1), ct := Pv (i + 1), bk := fun σ H => tz D σ H } σ2 H2)
    (hd : ∀ σ' H', Pv xs.length σ' H' → tz D σ' H') : tSeq (tFor (iTup K tl) g tb) tz D σ H := h H (Gx.refl H) _ fun v H1 e z =>
  ⟨a, z, ⟨xs, e.t hx⟩, for_tup (K := K) (a := a) (xs := xs) (D := { D with nx := tz D }) Pv (h0 H1 e) (fun i σ' H' _ p => hG i σ' H' p) hs hd⟩
theorem evn_dnew : EvN tDNewK σ H (fun p H' => H' p = some (.dK [])) := fun H1 _ Q q d hd => q d _ (Gx.new hd) hd upd_same
end

theorem evb_is {σ : L2.St} {H : Hp} {tt : TT} {a b : Bool} (h : EvB tt σ H (fun c => c = a)) (e : a = b) : EvB tt σ H (fun c => c = b) := by
  subst e
  exact h

theorem list_of {α : Type} {ys : List V} {l : List α} {f : α → V} (hl : ys.length = l.length) (h : ∀ (i : Nat) (y : V), ys[i]? = some y → ∃ c, l[i]? = some c ∧ y = f c) : ys = l.map f := by
  apply List.ext_getElem?
  intro i
  rw [List.getElem?_map]
  cases q : ys[i]? with
  | some y =>
    obtain ⟨c, hc, rfl⟩ := h i y q
    rw [hc]
    rfl
  | none =>
    have : ys.length ≤ i := List.getElem?_eq_none_iff.mp q
    rw [List.getElem?_eq_none (by omega)]
    rfl
theorem evg_joinE {K : PySem.W.Frag} {σ : L2.St} {H : Hp} {te : TE} {a : Str} {zs : List Str} (h : EvN te σ H (NewL (zs.map V.str))) (hs : (zs.map (·.length)).sum + zs.length * a.length ≤ 16777216) : EvG (tM1 (rJoinK K) (tC (.str a)) te) σ H (Eq1 (.str (Txt.join a zs))) := fun H1 e Q q =>
  ⟨⟨a, rfl⟩, h H1 e _ fun p H2 e2 _ hp => ⟨a, p, zs, rfl, rfl, Or.inl (SqL.of hp), hs, q _ H2 e2 rfl⟩⟩
theorem evg_addsE {σ : L2.St} {H : Hp} {ta tb : TE} {x y : Str} (ha : EvG ta σ H (Eq1 (.str x))) (hb : EvG tb σ H (Eq1 (.str y))) (hl : x.length + y.length ≤ 100000) :
    EvG (tOp (fun x y H Q => ∃ i j, x = .str i ∧ y = .str j ∧ i.length + j.length ≤ sizeLine ∧ Q (.str (i ++ j)) H) ta tb) σ H (Eq1 (.str (x ++ y))) :=
  evg_adds (P := fun z => z = x) (R := fun z => z = y) (ha.imp fun _ _ _ z => ⟨x, z, rfl⟩) (hb.imp fun _ _ _ z => ⟨y, z, rfl⟩) (fun a b h1 h2 => by rw [h1, h2]; exact hl) fun a b h1 h2 _ _ => by rw [h1, h2]
theorem LcR.det {B : Nat → Bool → Prop} {R : Nat → Ty} {H : Hp} {n : Nat} {ys : List V} {f : Nat → Bool} {v : Nat → V} (h : LcR B R H n ys) (hB : ∀ i b, i < n → B i b → b = f i) (hR : ∀ i y, i < n → R i y H → y = v i) : ys = ((List.range n).filter f).map v := by
  induction h with
  | nil => rfl
  | @keep n ys y _ b r ih =>
    rw [List.range_succ, List.filter_append, List.map_append, ← ih (fun i b hi => hB i b (by omega)) fun i y hi => hR i y (by omega)]
    have h1 : f n = true := (hB n true (by omega) b).symm
    rw [List.filter_cons_of_pos h1, hR n y (by omega) r]
    rfl
  | @skip n ys _ b ih =>
    rw [List.range_succ, List.filter_append, List.map_append, ← ih (fun i b hi => hB i b (by omega)) fun i y hi => hR i y (by omega)]
    have h1 : ¬ f n = true := by rw [← hB n false (by omega) b]; decide
    rw [List.filter_cons_of_neg h1]
    simp
theorem evg_eqS {σ : L2.St} {H : Hp} {ta tb : TE} {x y : Str} (ha : EvG ta σ H (Eq1 (.str x))) (hb : EvG tb σ H (Eq1 (.str y))) : EvG (tOp rEq ta tb) σ H (BlE (decide (x = y))) := fun H1 e Q q =>
  ha H1 e _ fun v H2 e2 z => hb H2 (e.trans e2) _ fun v2 H3 e3 z2 => by
    have z : v = .str x := z
    have z2 : v2 = .str y := z2
    subst z
    subst z2
    refine ⟨rfl, q _ H3 (e2.trans e3) ⟨_, rfl, ?_⟩⟩
    by_cases h : x = y
    · subst h
      simp
    · simp [h]
end Ly

set_option Elab.async false
set_option maxRecDepth 100000
/-! Terms: what the functions on rows of nodes give, in plain Lean. -/
namespace TM
open PySem L2 Ly
abbrev Nd := Str × Nat
/-- the stack of the roots that wait for a word (the leftmost last), and the children of each place, from the right -/
def chF : List Nat → Nat → Option (List Nat × List (List Nat))
  | [], _ => some ([], [])
  | a :: as, off => match chF as (off + 1) with
    | none => none
    | some (w, f) => if w.length < a then none else some (w.take (w.length - a) ++ [off], (w.drop (w.length - a)).reverse :: f)
theorem chF_cons {a : Nat} {as : List Nat} {off : Nat} : chF (a :: as) off = match chF as (off + 1) with
    | none => none
    | some (w, f) => if w.length < a then none else some (w.take (w.length - a) ++ [off], (w.drop (w.length - a)).reverse :: f) := rfl
theorem chF_len : ∀ {as : List Nat} {off : Nat} {w : List Nat} {f : List (List Nat)}, chF as off = some (w, f) → f.length = as.length ∧ w.length ≤ as.length
  | [], _, _, _, h => by
    cases h
    exact ⟨rfl, Nat.le_refl _⟩
  | a :: as, off, w, f, h => by
    rw [chF_cons] at h
    cases q : chF as (off + 1) with
    | none => rw [q] at h; cases h
    | some p =>
      obtain ⟨w', f'⟩ := p
      rw [q] at h
      simp only at h
      split at h
      · cases h
      · cases h
        obtain ⟨h1, h2⟩ := chF_len q
        refine ⟨by rw [List.length_cons, List.length_cons, h1], ?_⟩
        rw [List.length_append, List.length_take]
        show min _ _ + 1 ≤ as.length + 1
        omega
/-- the children of all places, or none -/
def chOf (nds : List Nd) : Option (List (List Nat)) := match chF (nds.map (·.2)) 0 with
  | some (w, f) => if w = [0] then some f else none
  | none => none
/-- the places behind the parts -/
def enF : List (List Nat) → Nat → List Nat
  | [], _ => []
  | c :: cs, off => (match c.getLast? with
    | none => off + 1
    | some k => (enF cs (off + 1)).getD (k - (off + 1)) 0) :: enF cs (off + 1)
theorem enF_len : ∀ (cs : List (List Nat)) (off : Nat), (enF cs off).length = cs.length
  | [], _ => rfl
  | c :: cs, off => by
    show (enF cs (off + 1)).length + 1 = cs.length + 1
    rw [enF_len cs]
/-- words and arities in the order of their first places, or none if a word has two -/
def arF : List Nd → List Nd → Option (List Nd)
  | [], acc => some acc
  | (w, a) :: r, acc => match acc.lookup w with
    | none => arF r (acc ++ [(w, a)])
    | some b => if b = a then arF r acc else none
def plc (nds : List Nd) (w : Str) : List Nat := (List.range nds.length).filter fun i => (nds[i]?.map (·.1)) == some w
/-! ### data -/
def ndD (n : Nd) : PyData := .tuple [.str n.1, .int n.2]
def nodesD (nds : List Nd) : PyData := .tuple (nds.map ndD)
def intsD (l : List Nat) : PyData := .tuple (l.map fun (n : Nat) => PyData.int (n : Int))
def chD (cs : List (List Nat)) : List PyData := cs.map intsD

/-! ### rows of nodes in the heap -/
/-- a node -/
def NodeV (K : PySem.W.Frag) (n : Nd) : Ty := fun v H => ∃ p, v = .ref p ∧ SqT K H p [.str n.1, .int n.2]
/-- a tuple of nodes -/
def Nodes (K : PySem.W.Frag) (H : Hp) (nds : List Nd) (xs : List V) : Prop := xs.length = nds.length ∧ ∀ (i : Nat) (n : Nd), nds[i]? = some n → ∃ x, xs[i]? = some x ∧ NodeV K n x H
structure NodesAt (K : PySem.W.Frag) (H : Hp) (a : Addr) (nds : List Nd) : Prop where
  ex : ∃ xs, SqT K H a xs ∧ Nodes K H nds xs
theorem NodesAt.tup_of {K : PySem.W.Frag} {H : Hp} {a : Addr} {nds : List Nd} (h : NodesAt K H a nds) : ∃ xs, SqT K H a xs ∧ Nodes K H nds xs := h.ex
theorem NodeV.gx {K : PySem.W.Frag} {H H' : Hp} {n : Nd} {v : V} (e : Gx H H') (h : NodeV K n v H) : NodeV K n v H' := by
  obtain ⟨p, z, q⟩ := h
  exact ⟨p, z, e.t q⟩
theorem Nodes.gx {K : PySem.W.Frag} {H H' : Hp} {nds : List Nd} {xs : List V} (e : Gx H H') (h : Nodes K H nds xs) : Nodes K H' nds xs := ⟨h.1, fun i n q => by
  obtain ⟨x, h1, h2⟩ := h.2 i n q
  exact ⟨x, h1, h2.gx e⟩⟩
/-- a tuple of indices -/
def IntsT (K : PySem.W.Frag) (l : List Nat) : Ty := fun v H => ∃ p, v = .ref p ∧ SqT K H p (intsV l)
/-- the children of all places: a list of tuples -/
def ChL (K : PySem.W.Frag) (H : Hp) (cs : List (List Nat)) (ys : List V) : Prop := ys.length = cs.length ∧ ∀ (i : Nat) (c : List Nat), cs[i]? = some c → ∃ y, ys[i]? = some y ∧ IntsT K c y H
def spChildren (K : PySem.W.Frag) : Sp := fun vs H Q _ => ∃ (n : Addr) (nds : List Nd), vs = [.ref n] ∧ NodesAt K H n nds ∧ nds.length ≤ 1000 ∧
  (chOf nds = none → ∀ H', Gx H H' → Q .non H') ∧ ∀ cs, chOf nds = some cs → ∀ p ys H', Gx H H' → H p = none → H' p = some (.lst ys) → ChL K H' cs ys → Q (.ref p) H'
theorem IntsT.firm {K : PySem.W.Frag} {l : List Nat} : Firm (IntsT K l) := fun _ _ _ e ⟨p, z, h⟩ => ⟨p, z, e.t h⟩
theorem chF_none {k : Nat} : ∀ {as : List Nat} {off : Nat}, chF (as.drop k) (off + k) = none → chF as off = none := by
  induction k with
  | zero => exact fun h => h
  | succ k ih =>
    intro as off h
    cases as with
    | nil => cases h
    | cons a as =>
      have h1 : chF as (off + 1) = none := ih (by
        rw [show off + 1 + k = off + (k + 1) by omega]
        exact h)
      rw [chF_cons, h1]

/-- children stand behind their node, within the row -/
def ChOk (cs : List (List Nat)) : Prop := ∀ (i : Nat) (c : List Nat), cs[i]? = some c → ∀ k ∈ c, i < k ∧ k < cs.length
/-- the children of all places: a tuple of tuples -/
def ChT (K : PySem.W.Frag) (H : Hp) (a : Addr) (cs : List (List Nat)) : Prop := ∃ ys, SqT K H a ys ∧ ChL K H cs ys
theorem ChL.firm {K : PySem.W.Frag} {H H' : Hp} {cs : List (List Nat)} {ys : List V} (e : Kx H H') (h : ChL K H cs ys) : ChL K H' cs ys := ⟨h.1, fun i c q => by
  obtain ⟨y, h1, h2⟩ := h.2 i c q
  exact ⟨y, h1, IntsT.firm _ _ _ e h2⟩⟩
theorem ChT.firm {K : PySem.W.Frag} {H H' : Hp} {a : Addr} {cs : List (List Nat)} (e : Kx H H') (h : ChT K H a cs) : ChT K H' a cs := by
  obtain ⟨ys, h1, h2⟩ := h
  exact ⟨ys, e.t h1, h2.firm e⟩
def spEnds (K : PySem.W.Frag) : Sp := fun vs H Q _ => ∃ (a : Addr) (cs : List (List Nat)), vs = [.ref a] ∧ ChT K H a cs ∧ ChOk cs ∧ cs.length ≤ 1000 ∧ ∀ p H', Gx H H' → H p = none → H' p = some (.lst (intsV (enF cs 0))) → Q (.ref p) H'
/-- the list of ends while it is made: from place m on it is ready -/
def enL (cs : List (List Nat)) (m : Nat) : List Nat := ((List.range m).map (· + 1)) ++ enF (cs.drop m) m
theorem enL_len {cs : List (List Nat)} {m : Nat} (h : m ≤ cs.length) : (enL cs m).length = cs.length := by
  unfold enL
  rw [List.length_append, List.length_map, List.length_range, enF_len, List.length_drop]
  omega
theorem enL_nil {cs : List (List Nat)} {m : Nat} (h : cs[m]? = some []) : enL cs (m + 1) = enL cs m := by
  have hm : m < cs.length := (List.getElem?_eq_some_iff.mp h).1
  have hd : cs.drop m = [] :: cs.drop (m + 1) := by
    rw [List.drop_eq_getElem_cons hm]
    congr 1
    exact (List.getElem?_eq_some_iff.mp h).2
  unfold enL
  rw [hd, List.range_succ, List.map_append, List.append_assoc]
  rfl
theorem enL_set {cs : List (List Nat)} {m k : Nat} {c : List Nat} (h : cs[m]? = some c) (hk : c.getLast? = some k) (hmk : m < k) : (enL cs (m + 1)).set m ((enL cs (m + 1)).getD k 0) = enL cs m := by
  have hm : m < cs.length := (List.getElem?_eq_some_iff.mp h).1
  have hd : cs.drop m = c :: cs.drop (m + 1) := by
    rw [List.drop_eq_getElem_cons hm]
    congr 1
    exact (List.getElem?_eq_some_iff.mp h).2
  unfold enL
  rw [hd, List.range_succ, List.map_append, List.append_assoc]
  have hl : ((List.range m).map (· + 1)).length = m := by rw [List.length_map, List.length_range]
  rw [List.set_append_right _ _ (by omega), hl, Nat.sub_self]
  congr 1
  show (_ :: _ : List Nat) = _
  show _ = (match c.getLast? with
    | none => m + 1
    | some k => (enF (cs.drop (m + 1)) (m + 1)).getD (k - (m + 1)) 0) :: enF (cs.drop (m + 1)) (m + 1)
  rw [hk]
  congr 1
  show (((List.range m).map (· + 1)) ++ ([m + 1] ++ enF (cs.drop (m + 1)) (m + 1))).getD k 0 = (enF (cs.drop (m + 1)) (m + 1)).getD (k - (m + 1)) 0
  rw [List.getD_eq_getElem?_getD, List.getD_eq_getElem?_getD, List.getElem?_append_right (by omega), hl, List.getElem?_append_right (by show 1 ≤ _; omega)]
  show (enF (cs.drop (m + 1)) (m + 1))[k - m - 1]?.getD 0 = _
  rw [show k - m - 1 = k - (m + 1) by omega]

/-! ### words and their arities -/
def kvD (l : List Nd) : List (Key × V) := l.map fun n => ((Sum.inr n.1 : Key), V.int (n.2 : Int))
theorem kvD_val : ∀ (l : List Nd) (w : Str), valV (kvD l) (Sum.inr w) = (l.lookup w).map fun (n : Nat) => V.int (n : Int)
  | [], w => rfl
  | (x, a) :: l, w => by
    show valV ((Sum.inr x, V.int a) :: kvD l) (Sum.inr w) = _
    by_cases h : x = w
    · subst h
      rw [valV_pos rfl]
      simp [List.lookup]
    · rw [valV_neg (fun z => h (by injection z)), kvD_val l w]
      have : (w == x) = false := beq_eq_false_iff_ne.mpr fun z => h z.symm
      simp [List.lookup, this]
theorem kvD_app (l m : List Nd) : kvD (l ++ m) = kvD l ++ kvD m := List.map_append
theorem kvD_new {l : List Nd} {w : Str} {a : Nat} (h : l.lookup w = none) : putK (kvD l) (Sum.inr w) (V.int a) = kvD (l ++ [(w, a)]) := by
  rw [putK_new _ (by rw [kvD_val, h]; rfl), kvD_app]
  rfl
theorem kvD_same {l : List Nd} {w : Str} {a : Nat} (hn : (l.map (·.1)).Nodup) (h : l.lookup w = some a) : putK (kvD l) (Sum.inr w) (V.int a) = kvD l := by
  have hv : valV (kvD l) (Sum.inr w) = some (V.int a) := by rw [kvD_val, h]; rfl
  unfold putK
  rw [valV_any, hv, if_pos (show (some (V.int (a : Int))).isSome = true from rfl)]
  unfold kvD
  rw [List.map_map]
  apply List.map_congr_left
  rintro ⟨x, b⟩ hx
  show (if (Sum.inr x : Key) = Sum.inr w then ((Sum.inr x : Key), V.int a) else _) = _
  by_cases q : x = w
  · subst q
    rw [if_pos rfl]
    have hb : b = a := by
      clear hv
      induction l with
      | nil => cases hx
      | cons y l ih =>
        obtain ⟨z, c⟩ := y
        rw [List.map_cons, List.nodup_cons] at hn
        rcases List.mem_cons.mp hx with e | e
        · cases e
          simp [List.lookup] at h
          exact h
        · have hne : ¬ z = x := fun q => hn.1 (by
            show z ∈ _
            rw [q]
            exact List.mem_map.mpr ⟨(x, b), e, rfl⟩)
          have : (x == z) = false := beq_eq_false_iff_ne.mpr fun q => hne q.symm
          simp [List.lookup, this] at h
          exact ih hn.2 e h
    rw [hb]
  · rw [if_neg (fun z => q (by injection z))]
theorem lookup_mem : ∀ {l : List Nd} {w : Str} {a : Nat}, l.lookup w = some a → (w, a) ∈ l
  | [], _, _, h => by cases h
  | (x, b) :: l, w, a, h => by
    by_cases q : w = x
    · subst q
      simp [List.lookup] at h
      subst h
      exact List.mem_cons_self ..
    · have : (w == x) = false := beq_eq_false_iff_ne.mpr q
      simp [List.lookup, this] at h
      exact List.mem_cons_of_mem _ (lookup_mem h)
theorem lookup_of_mem : ∀ {l : List Nd} {w : Str} {a : Nat}, (l.map (·.1)).Nodup → (w, a) ∈ l → l.lookup w = some a
  | [], _, _, _, h => by cases h
  | (x, b) :: l, w, a, hn, h => by
    rw [List.map_cons, List.nodup_cons] at hn
    rcases List.mem_cons.mp h with e | e
    · cases e
      simp [List.lookup]
    · have hne : ¬ w = x := fun q => hn.1 (by
        show x ∈ _
        rw [← q]
        exact List.mem_map.mpr ⟨(w, a), e, rfl⟩)
      have : (w == x) = false := beq_eq_false_iff_ne.mpr hne
      simp [List.lookup, this]
      exact lookup_of_mem hn.2 e
/-- a dict of words, ascending -/
def Asc (l l' : List Nd) : Prop := l'.Perm l ∧ PyProof.Rows.sortedS (l'.map (·.1)) = true
def spAsc : Sp := fun vs H Q _ => ∃ (d : Addr) (l : List Nd), vs = [.ref d] ∧ H d = some (.dK (kvD l)) ∧ l.length < 64 ∧ (l.map (·.1)).Nodup ∧ ∀ p l' H', Gx H H' → H p = none → Asc l l' → H' p = some (.dK (kvD l')) → Q (.ref p) H'
def isLeaf (w : Str) : Bool := decide (w = "_" ∨ w = "#")
def spArities (K : PySem.W.Frag) : Sp := fun vs H Q _ => ∃ (n : Addr) (nds : List Nd), vs = [.ref n] ∧ NodesAt K H n nds ∧ nds.length < 64 ∧ (arF nds [] = none → ∀ H', Gx H H' → Q .non H') ∧
  ∀ l, arF nds [] = some l → ∀ p l' H', Gx H H' → H p = none → Asc (l.filter fun n => !isLeaf n.1) l' → H' p = some (.dK (kvD l')) → Q (.ref p) H'
theorem arF_nodup : ∀ {nds acc l : List Nd}, (acc.map (·.1)).Nodup → arF nds acc = some l → (l.map (·.1)).Nodup ∧ l.length ≤ acc.length + nds.length
  | [], acc, l, hn, h => by
    cases h
    exact ⟨hn, by simp⟩
  | (w, a) :: r, acc, l, hn, h => by
    have h : (match acc.lookup w with
      | none => arF r (acc ++ [(w, a)])
      | some b => if b = a then arF r acc else none) = some l := h
    cases q : acc.lookup w with
    | none =>
      rw [q] at h
      have hw : w ∉ acc.map (·.1) := fun hm => by
        obtain ⟨⟨x, b⟩, hx, rfl⟩ := List.mem_map.mp hm
        have := List.lookup_eq_none_iff.mp q _ hx
        simp at this
      obtain ⟨h1, h2⟩ := arF_nodup (nds := r) (acc := acc ++ [(w, a)]) (l := l) (by
        rw [List.map_append, List.nodup_append]
        refine ⟨hn, by simp, fun x hx y hy => ?_⟩
        simp at hy
        subst hy
        intro z
        subst z
        exact hw hx) h
      refine ⟨h1, ?_⟩
      rw [List.length_append] at h2
      simp at h2 ⊢
      omega
    | some b =>
      rw [q] at h
      simp only at h
      split at h
      · obtain ⟨h1, h2⟩ := arF_nodup hn h
        exact ⟨h1, by rw [List.length_cons]; omega⟩
      · cases h
theorem inV_leaf (z : Str) : inV (.str z) [.str "_", .str "#"] = isLeaf z := by
  show ((("_" : Str) == z) || ((("#" : Str) == z) || false)) = decide (z = "_" ∨ z = "#")
  rw [Bool.or_false]
  by_cases h1 : z = ("_" : Str)
  · subst h1
    simp
  · by_cases h2 : z = ("#" : Str)
    · subst h2
      simp
    · rw [decide_eq_false (fun q => q.elim h1 h2), beq_eq_false_iff_ne.mpr (fun q => h1 q.symm), beq_eq_false_iff_ne.mpr (fun q => h2 q.symm)]
      rfl

/-! ### rows -/
/-- a node as it must be -/
def GoodNd (n : Nd) : Prop := isNode2 (.str n.1) (.int (n.2 : Int)) = true ∧ n.1.length ≤ 1000
/-- a value, and whether it is a row of nodes of a term -/
inductive RowIn (K : PySem.W.Frag) (H : Hp) : V → Bool → Prop
  | other {x : V} {k : Kd} : Pl K H x k → k ≠ .tup → RowIn K H x false
  | size {a : Addr} {xs : List V} : H a = some (.tup xs) → xs.length < 1 ∨ 40 < xs.length → RowIn K H (.ref a) false
  | items {a : Addr} {xs : List V} {bs : List Bool} : H a = some (.tup xs) → (1 ≤ xs.length ∧ xs.length ≤ 40) → bs.length = xs.length ∧ (∀ (i : Nat) (x : V), xs[i]? = some x → ∃ b, bs[i]? = some b ∧ NodeIn K H x b) ∧ bs.all id = false → RowIn K H (.ref a) false
  | nodes {a : Addr} {nds : List Nd} : (∃ xs, H a = some (.tup xs) ∧ xs.length = nds.length ∧ ∀ (i : Nat) (n : Nd), nds[i]? = some n → ∃ p, xs[i]? = some (.ref p) ∧ H p = some (.tup [.str n.1, .int (n.2 : Int)])) → (1 ≤ nds.length ∧ nds.length ≤ 40) → (∀ n ∈ nds, GoodNd n) → RowIn K H (.ref a) ((chOf nds).isSome && (arF nds []).isSome)
def spRow (K : PySem.W.Frag) : Sp := fun vs H Q _ => ∃ x b, vs = [x] ∧ RowIn K H x b ∧ ∀ H', Gx H H' → Q (.bl b) H'
end TM

set_option Elab.async false
set_option maxRecDepth 100000
/-! Trees: rows of nodes are trees in preorder. -/
namespace TM
open PySem L2 Ly
inductive Tr where
  | nd (w : Str) (ts : List Tr)
mutual
def Tr.nodes : Tr → List Nd
  | .nd w ts => (w, ts.length) :: nodesL ts
def nodesL : List Tr → List Nd
  | [] => []
  | t :: ts => t.nodes ++ nodesL ts
end
def Tr.size (t : Tr) : Nat := t.nodes.length
/-- the places of the roots of a row of trees that begins at a place -/
def roots : List Tr → Nat → List Nat
  | [], _ => []
  | t :: ts, off => off :: roots ts (off + t.size)
mutual
def Tr.ch : Tr → Nat → List (List Nat)
  | .nd _ ts, off => roots ts (off + 1) :: chL ts (off + 1)
def chL : List Tr → Nat → List (List Nat)
  | [], _ => []
  | t :: ts, off => t.ch off ++ chL ts (off + t.size)
end
theorem roots_len : ∀ (ts : List Tr) (off : Nat), (roots ts off).length = ts.length
  | [], _ => rfl
  | t :: ts, off => by
    show (roots ts _).length + 1 = ts.length + 1
    rw [roots_len ts]
mutual
theorem Tr.chF_of (t : Tr) : ∀ (rest : List Nat) (off : Nat) (w : List Nat) (f : List (List Nat)), chF rest (off + t.size) = some (w, f) → chF (t.nodes.map (·.2) ++ rest) off = some (w ++ [off], t.ch off ++ f) := by
  cases t with
  | nd wd ts =>
    intro rest off w f h
    have ih := chF_ofL ts rest (off + 1) w f (by
      have e : off + Tr.size (.nd wd ts) = off + 1 + (nodesL ts).length := by
        show off + ((nodesL ts).length + 1) = _
        omega
      rw [← e]
      exact h)
    show chF (ts.length :: ((nodesL ts).map (·.2) ++ rest)) off = _
    rw [chF_cons, ih]
    have hl : (roots ts (off + 1)).reverse.length = ts.length := by rw [List.length_reverse, roots_len]
    have hn : ¬ (w ++ (roots ts (off + 1)).reverse).length < ts.length := by rw [List.length_append, hl]; omega
    simp only
    rw [if_neg hn]
    have h1 : (w ++ (roots ts (off + 1)).reverse).length - ts.length = w.length := by rw [List.length_append, hl]; omega
    rw [h1, List.take_left, List.drop_left, List.reverse_reverse]
    rfl
theorem chF_ofL (ts : List Tr) : ∀ (rest : List Nat) (off : Nat) (w : List Nat) (f : List (List Nat)), chF rest (off + (nodesL ts).length) = some (w, f) → chF ((nodesL ts).map (·.2) ++ rest) off = some (w ++ (roots ts off).reverse, chL ts off ++ f) := by
  cases ts with
  | nil =>
    intro rest off w f h
    show chF rest off = some (w ++ [], [] ++ f)
    rw [List.append_nil]
    exact h
  | cons t ts =>
    intro rest off w f h
    have h1 := chF_ofL ts rest (off + t.size) w f (by
      have e : off + (nodesL (t :: ts)).length = off + t.size + (nodesL ts).length := by
        show off + (t.nodes ++ nodesL ts).length = _
        rw [List.length_append]
        show off + (t.size + _) = _
        omega
      rw [← e]
      exact h)
    have h2 := Tr.chF_of t ((nodesL ts).map (·.2) ++ rest) off _ _ h1
    show chF ((t.nodes ++ nodesL ts).map (·.2) ++ rest) off = some (w ++ (off :: roots ts (off + t.size)).reverse, (t.ch off ++ chL ts (off + t.size)) ++ f)
    rw [List.map_append, List.append_assoc, h2, List.reverse_cons, List.append_assoc, List.append_assoc]
end
theorem roots_app : ∀ (ts us : List Tr) (off : Nat), roots (ts ++ us) off = roots ts off ++ roots us (off + (nodesL ts).length)
  | [], us, off => rfl
  | t :: ts, us, off => by
    show off :: roots (ts ++ us) (off + t.size) = off :: (roots ts (off + t.size) ++ _)
    rw [roots_app ts us]
    congr 3
    show off + t.size + (nodesL ts).length = off + (t.nodes ++ nodesL ts).length
    rw [List.length_append]
    show _ = off + (t.size + _)
    omega
theorem nodesL_app : ∀ (ts us : List Tr), nodesL (ts ++ us) = nodesL ts ++ nodesL us
  | [], us => rfl
  | t :: ts, us => by
    show t.nodes ++ nodesL (ts ++ us) = (t.nodes ++ nodesL ts) ++ nodesL us
    rw [nodesL_app ts us, List.append_assoc]
theorem chL_app : ∀ (ts us : List Tr) (off : Nat), chL (ts ++ us) off = chL ts off ++ chL us (off + (nodesL ts).length)
  | [], us, off => rfl
  | t :: ts, us, off => by
    show t.ch off ++ chL (ts ++ us) (off + t.size) = (t.ch off ++ chL ts (off + t.size)) ++ _
    rw [chL_app ts us, List.append_assoc]
    congr 3
    show off + t.size + (nodesL ts).length = off + (t.nodes ++ nodesL ts).length
    rw [List.length_append]
    show _ = off + (t.size + _)
    omega
/-- a row that is read is a row of trees -/
theorem chF_trees : ∀ {nds : List Nd} {off : Nat} {w : List Nat} {f : List (List Nat)}, chF (nds.map (·.2)) off = some (w, f) → ∃ ts, nds = nodesL ts ∧ w = (roots ts off).reverse ∧ f = chL ts off
  | [], off, w, f, h => by
    cases h
    exact ⟨[], rfl, rfl, rfl⟩
  | (wd, a) :: nds, off, w, f, h => by
    have h : chF (a :: nds.map (·.2)) off = some (w, f) := h
    rw [chF_cons] at h
    cases q : chF (nds.map (·.2)) (off + 1) with
    | none => rw [q] at h; cases h
    | some p =>
      obtain ⟨w', f'⟩ := p
      rw [q] at h
      simp only at h
      obtain ⟨ts, rfl, rfl, rfl⟩ := chF_trees q
      have hl : (roots ts (off + 1)).reverse.length = ts.length := by rw [List.length_reverse, roots_len]
      rw [hl] at h
      split at h
      · cases h
      · rename_i hge
        cases h
        have ht : ts = ts.take a ++ ts.drop a := (List.take_append_drop a ts).symm
        have hta : (ts.take a).length = a := by rw [List.length_take]; omega
        refine ⟨.nd wd (ts.take a) :: ts.drop a, ?_, ?_, ?_⟩
        · show (wd, a) :: nodesL ts = ((wd, (ts.take a).length) :: nodesL (ts.take a)) ++ nodesL (ts.drop a)
          rw [hta, List.cons_append, ← nodesL_app, ← ht]
        · show _ = (off :: roots (ts.drop a) (off + Tr.size (.nd wd (ts.take a)))).reverse
          rw [List.reverse_cons]
          congr 1
          have h1 : roots ts (off + 1) = roots (ts.take a) (off + 1) ++ roots (ts.drop a) (off + 1 + (nodesL (ts.take a)).length) := by
            rw [← roots_app, ← ht]
          have h2 : off + Tr.size (.nd wd (ts.take a)) = off + 1 + (nodesL (ts.take a)).length := by
            show off + ((nodesL (ts.take a)).length + 1) = _
            omega
          rw [h1, h2, List.reverse_append, List.take_left']
          rw [List.length_reverse, roots_len, List.length_drop]
        · show _ = (roots (ts.take a) (off + 1) :: chL (ts.take a) (off + 1)) ++ chL (ts.drop a) (off + Tr.size (.nd wd (ts.take a)))
          have h1 : roots ts (off + 1) = roots (ts.take a) (off + 1) ++ roots (ts.drop a) (off + 1 + (nodesL (ts.take a)).length) := by
            rw [← roots_app, ← ht]
          have h2 : off + Tr.size (.nd wd (ts.take a)) = off + 1 + (nodesL (ts.take a)).length := by
            show off + ((nodesL (ts.take a)).length + 1) = _
            omega
          rw [List.cons_append, h2, ← chL_app, ← ht]
          congr 1
          rw [h1, List.reverse_append, List.drop_left', List.reverse_reverse]
          rw [List.length_reverse, roots_len, List.length_drop]
theorem chOf_tree {nds : List Nd} {cs : List (List Nat)} (h : chOf nds = some cs) : ∃ t : Tr, nds = t.nodes ∧ cs = t.ch 0 := by
  unfold chOf at h
  cases q : chF (nds.map (·.2)) 0 with
  | none => rw [q] at h; cases h
  | some p =>
    obtain ⟨w, f⟩ := p
    rw [q] at h
    simp only at h
    split at h
    · rename_i hw
      cases h
      obtain ⟨ts, rfl, h1, rfl⟩ := chF_trees q
      have hl : ts.length = 1 := by
        have := congrArg List.length h1
        rw [hw, List.length_reverse, roots_len] at this
        exact this.symm
      match ts, hl with
      | [t], _ => exact ⟨t, by show t.nodes ++ [] = _; rw [List.append_nil], by show t.ch 0 ++ [] = _; rw [List.append_nil]⟩
    · cases h
theorem Tr.chOf (t : Tr) : TM.chOf t.nodes = some (t.ch 0) := by
  unfold TM.chOf
  have := Tr.chF_of t [] 0 [] [] rfl
  rw [List.append_nil, List.append_nil] at this
  rw [this]
  rfl

/-! ### texts, heights, ends -/
mutual
def Tr.text : Tr → Str
  | .nd w [] => w
  | .nd w (t :: ts) => w ++ "(" ++ Txt.join ", " (t.text :: textsL ts) ++ ")"
def textsL : List Tr → List Str
  | [] => []
  | t :: ts => t.text :: textsL ts
end
mutual
def Tr.ht : Tr → Nat
  | .nd _ ts => htL ts
def htL : List Tr → Nat
  | [] => 0
  | t :: ts => max (t.ht + 1) (htL ts)
end
mutual
def Tr.ends : Tr → Nat → List Nat
  | .nd _ ts, off => (off + 1 + (nodesL ts).length) :: endsL ts (off + 1)
def endsL : List Tr → Nat → List Nat
  | [], _ => []
  | t :: ts, off => t.ends off ++ endsL ts (off + t.size)
end
mutual
def Tr.All (P : Str → Prop) : Tr → Prop
  | .nd w ts => P w ∧ AllL P ts
def AllL (P : Str → Prop) : List Tr → Prop
  | [] => True
  | t :: ts => t.All P ∧ AllL P ts
end
theorem textsL_map : ∀ ts : List Tr, textsL ts = ts.map Tr.text
  | [] => rfl
  | t :: ts => by
    show t.text :: textsL ts = _
    rw [textsL_map ts]
    rfl
theorem text_nd {w : Str} {ts : List Tr} (h : ts ≠ []) : Tr.text (.nd w ts) = w ++ "(" ++ Txt.join ", " (ts.map Tr.text) ++ ")" := by
  cases ts with
  | nil => exact absurd rfl h
  | cons t ts =>
    show w ++ "(" ++ Txt.join ", " (t.text :: textsL ts) ++ ")" = _
    rw [textsL_map]
    rfl
theorem htL_lt : ∀ {ts : List Tr} {t : Tr}, t ∈ ts → t.ht < htL ts
  | u :: ts, t, h => by
    show t.ht < max (u.ht + 1) (htL ts)
    rcases List.mem_cons.mp h with rfl | h
    · omega
    · have := htL_lt h
      omega
theorem AllL_mem {P : Str → Prop} : ∀ {ts : List Tr}, AllL P ts → ∀ t ∈ ts, t.All P
  | u :: ts, h, t, ht => by
    rcases List.mem_cons.mp ht with rfl | ht
    · exact h.1
    · exact AllL_mem h.2 t ht
/-- the tree s stands at the place p of a row -/
def Sub (nds : List Nd) (cs : List (List Nat)) (p : Nat) (s : Tr) : Prop := s.nodes <+: nds.drop p ∧ s.ch p <+: cs.drop p
theorem Sub.root (t : Tr) : Sub t.nodes (t.ch 0) 0 t := ⟨by rw [List.drop_zero]; exact List.prefix_refl _, by rw [List.drop_zero]; exact List.prefix_refl _⟩
theorem get_of_prefix {α : Type} {x : α} {r l : List α} {p : Nat} (h : x :: r <+: l.drop p) : l[p]? = some x := by
  obtain ⟨q, hq⟩ := h
  have : (l.drop p)[0]? = some x := by rw [← hq]; rfl
  rw [List.getElem?_drop] at this
  simpa using this
theorem Sub.at {nds : List Nd} {cs : List (List Nat)} {p : Nat} {w : Str} {ts : List Tr} (h : Sub nds cs p (.nd w ts)) : nds[p]? = some (w, ts.length) ∧ cs[p]? = some (roots ts (p + 1)) := ⟨get_of_prefix h.1, get_of_prefix h.2⟩
theorem drop_of_prefix {α : Type} {x r l : List α} {p : Nat} (h : x ++ r <+: l.drop p) : x <+: l.drop p ∧ r <+: l.drop (p + x.length) := by
  obtain ⟨q, hq⟩ := h
  refine ⟨⟨r ++ q, by rw [← hq, List.append_assoc]⟩, ⟨q, ?_⟩⟩
  rw [← List.drop_drop, ← hq, List.append_assoc, List.drop_left]
mutual
theorem Tr.ch_len (t : Tr) : ∀ off, (t.ch off).length = t.size := by
  cases t with
  | nd w ts =>
    intro off
    show (chL ts (off + 1)).length + 1 = (nodesL ts).length + 1
    rw [chL_len ts]
theorem chL_len (ts : List Tr) : ∀ off, (chL ts off).length = (nodesL ts).length := by
  cases ts with
  | nil =>
    intro off
    rfl
  | cons t ts =>
    intro off
    show (t.ch off ++ chL ts (off + t.size)).length = (t.nodes ++ nodesL ts).length
    rw [List.length_append, List.length_append, Tr.ch_len t, chL_len ts]
    rfl
end
theorem subL {nds : List Nd} {cs : List (List Nat)} : ∀ {ts : List Tr} {off : Nat}, nodesL ts <+: nds.drop off → chL ts off <+: cs.drop off → ∀ (i p : Nat), (roots ts off)[i]? = some p → ∃ c, ts[i]? = some c ∧ Sub nds cs p c
  | [], off, _, _, i, p, h => by cases h
  | t :: ts, off, h1, h2, i, p, h => by
    have h1 : t.nodes ++ nodesL ts <+: nds.drop off := h1
    have h2 : t.ch off ++ chL ts (off + t.size) <+: cs.drop off := h2
    obtain ⟨a1, a2⟩ := drop_of_prefix h1
    obtain ⟨b1, b2⟩ := drop_of_prefix h2
    rw [Tr.ch_len] at b2
    cases i with
    | zero =>
      have h : some off = some p := h
      cases h
      exact ⟨t, rfl, a1, b1⟩
    | succ i =>
      have h : (roots ts (off + t.size))[i]? = some p := h
      obtain ⟨c, h3, h4⟩ := subL a2 b2 i p h
      exact ⟨c, h3, h4⟩
theorem Sub.child {nds : List Nd} {cs : List (List Nat)} {p : Nat} {w : Str} {ts : List Tr} (h : Sub nds cs p (.nd w ts)) (i q : Nat) (hq : (roots ts (p + 1))[i]? = some q) : ∃ c, ts[i]? = some c ∧ Sub nds cs q c := by
  have h1 : [(w, ts.length)] ++ nodesL ts <+: nds.drop p := h.1
  have h2 : [roots ts (p + 1)] ++ chL ts (p + 1) <+: cs.drop p := h.2
  exact subL (drop_of_prefix h1).2 (drop_of_prefix h2).2 i q hq
/-- how long a text can be -/
theorem join_len : ∀ (zs : List Str), (Str.join ", " zs).length ≤ (zs.map (·.length)).sum + 2 * zs.length
  | [] => Nat.le_refl _
  | [z] => by
    show z.length ≤ z.length + 0 + 2 * 1
    omega
  | z :: y :: r => by
    have ih := join_len (y :: r)
    have e : (Str.join ", " (z :: y :: r)).length = z.length + 2 + (Str.join ", " (y :: r)).length := by
      show ((z.cps ++ (", " : Str).cps) ++ (Str.join ", " (y :: r)).cps).size = _
      rw [Array.size_append, Array.size_append]
      rfl
    rw [e, List.map_cons, List.sum_cons, List.length_cons]
    omega
mutual
theorem Tr.text_len {m : Nat} (t : Tr) : t.All (fun w => w.length ≤ m) → t.text.length + 2 ≤ (m + 4) * t.size := by
  cases t with
  | nd w ts =>
    intro h
    have h1 : w.length ≤ m := h.1
    have h2 := texts_len ts h.2
    have hs : Tr.size (.nd w ts) = (nodesL ts).length + 1 := rfl
    cases ts with
    | nil =>
      show w.length + 2 ≤ _
      rw [hs, Nat.mul_add (m + 4)]
      omega
    | cons t ts =>
      rw [text_nd (by simp), TL.join_eq, hs, Nat.mul_add (m + 4)]
      have h3 := join_len ((t :: ts).map Tr.text)
      rw [textsL_map] at h2
      have e : (w ++ "(" ++ Str.join ", " ((t :: ts).map Tr.text) ++ ")").length = w.length + 1 + (Str.join ", " ((t :: ts).map Tr.text)).length + 1 := by
        show (((w.cps ++ ("(" : Str).cps) ++ (Str.join ", " ((t :: ts).map Tr.text)).cps) ++ (")" : Str).cps).size = _
        rw [Array.size_append, Array.size_append, Array.size_append]
        rfl
      rw [e]
      rw [List.length_map] at h3
      omega
theorem texts_len {m : Nat} (ts : List Tr) : AllL (fun w => w.length ≤ m) ts → ((textsL ts).map (·.length)).sum + 2 * ts.length ≤ (m + 4) * (nodesL ts).length := by
  cases ts with
  | nil =>
    intro _
    exact Nat.zero_le _
  | cons t ts =>
    intro h
    have h1 := Tr.text_len t h.1
    have h2 := texts_len ts h.2
    show (t.text.length + ((textsL ts).map (·.length)).sum) + 2 * (ts.length + 1) ≤ (m + 4) * (t.nodes ++ nodesL ts).length
    rw [List.length_append, Nat.mul_add (m + 4)]
    have : (m + 4) * t.size = (m + 4) * t.nodes.length := rfl
    omega
end

theorem Tr.size_pos (t : Tr) : 1 ≤ t.size := by
  cases t with
  | nd w ts =>
    show 1 ≤ (nodesL ts).length + 1
    omega
theorem lenL : ∀ ts : List Tr, ts.length ≤ (nodesL ts).length
  | [] => Nat.le_refl _
  | t :: ts => by
    show ts.length + 1 ≤ (t.nodes ++ nodesL ts).length
    rw [List.length_append]
    have := lenL ts
    have h : 1 ≤ t.nodes.length := t.size_pos
    omega
theorem sizeL_mem : ∀ {ts : List Tr} {t : Tr}, t ∈ ts → t.size ≤ (nodesL ts).length
  | u :: ts, t, h => by
    show t.size ≤ (u.nodes ++ nodesL ts).length
    rw [List.length_append]
    rcases List.mem_cons.mp h with rfl | h
    · show t.nodes.length ≤ _
      omega
    · have := sizeL_mem h
      omega
def spText (K : PySem.W.Frag) (h : Nat) : Sp := fun vs H Q _ => ∃ (n c : Addr) (p : Nat) (nds : List Nd) (cs : List (List Nat)) (s : Tr), vs = [.ref n, .ref c, .int (p : Int)] ∧ NodesAt K H n nds ∧ ChT K H c cs ∧ Sub nds cs p s ∧ s.ht < h ∧ s.All (fun w => w.length ≤ 100) ∧ s.size ≤ 100 ∧ ∀ H', Gx H H' → Q (.str s.text) H'
def spPlaces (K : PySem.W.Frag) : Sp := fun vs H Q _ => ∃ (n : Addr) (nds : List Nd) (w : Str), vs = [.ref n, .str w] ∧ NodesAt K H n nds ∧ nds.length ≤ 1000 ∧ ∀ p H', Gx H H' → H p = none → H' p = some (.tup (intsV (plc nds w))) → Q (.ref p) H'
theorem ChT.gx {K : PySem.W.Frag} {H H' : Hp} {a : Addr} {cs : List (List Nat)} (e : Gx H H') (h : ChT K H a cs) : ChT K H' a cs := h.firm e.k
theorem NodesAt.gx {K : PySem.W.Frag} {H H' : Hp} {a : Addr} {nds : List Nd} (e : Gx H H') (h : NodesAt K H a nds) : NodesAt K H' a nds := by
  obtain ⟨xs, h1, h2⟩ := h.ex
  exact ⟨⟨xs, e.t h1, h2.gx e⟩⟩
end TM

set_option Elab.async false
set_option maxRecDepth 100000
set_option maxHeartbeats 2000000
/-! enumerate(a tuple) -/
namespace Ly
open PySem PySem.Spec PyProof.Rows L2
open AutoSeq1 (wpAny_loadPart')
theorem enumT_new (tp : Addr) (vals : Array Value) (ob : Obj) (hcl : ob.cls = .type "tuple") (hda : ∃ nn, ob.data = .seq vals nn) :
    Meets (Builtin.«enumerate.__new__» ⟨[.type "enumerate", .ref tp], []⟩) (fun _ R st => st.heap.get? tp = some ob ∧
      R (.ok (.ret (.ref (st.heap.push { cls := .type "tuple_iterator", data := .fields #[.ref tp, .int 0 0] }).objs.size)))
        { st with heap := (st.heap.push { cls := .type "tuple_iterator", data := .fields #[.ref tp, .int 0 0] }).push { cls := .type "enumerate", data := .fields #[.none, .bool false, .ref st.heap.objs.size, rawInt 0, .none, .none] } }) :=
  .of_wp fun prog w A R st hh => by
    obtain ⟨hp, gs, dr, tk, os⟩ := st
    obtain ⟨hob, hh⟩ := hh
    obtain ⟨oc, od, dt, sl⟩ := ob
    obtain ⟨nn, hda⟩ := hda
    simp only at hcl hda
    subst hcl hda
    have ss := sub_enumerate
    have it : Heap.IsTuple (Shared.heap ⟨hp, gs, dr, tk, os⟩) tp vals := ⟨_, hob, rfl, nn, rfl⟩
    wp_walk using wpAny_loadPart' hob
    refine wpAny_stack_any fun _ => wpAny_pure ?_
    split
    · rename_i cc _ _ _ _ _
      cases (cc == Value.type "enumerate")
      all_goals
        wp_walk using wpAny_loadPart' hob, wpAny_pyIter_tuple it
        exact ⟨_, rfl, hh⟩
    · wp_walk using wpAny_loadPart' hob, wpAny_pyIter_tuple it
      exact ⟨_, rfl, hh⟩

theorem enumT_call {prog : Program} {w : World} {A : Around} {E : Value → Shared → Prop} {s : Shared} {tp : Addr} {vals : Array Value} {Q : Value → Shared → Prop} (ht : s.heap.IsTuple tp vals)
    (k : ∀ h', IsEnum h' (s.heap.objs.size + 1) s.heap.objs.size 0 .none → h'.IsTupleIter s.heap.objs.size tp 0 → (∀ b ob, s.heap.get? b = some ob → h'.get? b = some ob) → Q (.ref (s.heap.objs.size + 1)) { s with heap := h' }) :
    wpAny (model prog w) A (call (.type "enumerate") [.ref tp]) Q E s := by
  obtain ⟨ob, hob, hcl, nn, hda⟩ := ht
  have sz : (s.heap.push { cls := .type "tuple_iterator", data := .fields #[.ref tp, .int 0 0] }).objs.size = s.heap.objs.size + 1 := Heap.size_push ..
  refine callType_new F.called_enumerate (by decide) (F.typeCall_enumerate_1 _) (F.newCall_enumerate_1 _) (fun o => F.args_object_init_2 o _) F.entry_enumerate_new (enumT_new tp vals ob hcl ⟨nn, hda⟩) ⟨hob, ?_⟩
  show _ ∧ _
  rw [sz]
  have en : IsEnum ((s.heap.push { cls := .type "tuple_iterator", data := .fields #[.ref tp, .int 0 0] }).push { cls := .type "enumerate", data := .fields #[.none, .bool false, .ref s.heap.objs.size, rawInt 0, .none, .none] }) (s.heap.objs.size + 1) s.heap.objs.size 0 .none := by
    have q := Heap.get?_push_size (s.heap.push { cls := .type "tuple_iterator", data := .fields #[.ref tp, .int 0 0] }) (o := { cls := .type "enumerate", data := .fields #[.none, .bool false, .ref s.heap.objs.size, rawInt 0, .none, .none] }) rfl
    rw [sz] at q
    exact q
  exact ⟨⟨_, en, rfl⟩, k _ en ⟨_, Heap.get?_push_of_some _ (Heap.get?_push_size _ rfl), rfl, rfl⟩ fun b o x => Heap.get?_push_of_some _ (Heap.get?_push_of_some _ x)⟩
/-- the tuple at a, its items in new pairs with their places -/
def Ityt (K : PySem.W.Frag) (a : Addr) : It :=
  ⟨fun i H => ∃ xs x, SqT K H a xs ∧ xs[i]? = some x, fun i H v H' => ∃ T x, v = .ref T ∧ H T = none ∧ H' = upd H T (.tup [.int (i : Nat), x]) ∧ ∀ xs, SqT K H a xs → xs[i]? = some x, fun i H => ∃ xs, SqT K H a xs ∧ xs.length = i⟩
theorem turn_enumT {P : Program} {w : World} {K : PySem.W.Frag} {elts : List Expr} {kk : Nat} {tpos : Pos} (a e it : Addr) :
    Turn P w K (.Tuple elts kk tpos) (Ityt K a) [e, it] e (fun i h => (∃ old, IsEnum h e it ((i : Nat) : Int) old) ∧ h.IsTupleIter it a i ∧ e ≠ it ∧ a ≠ it ∧ a ≠ e) where
  mem := by simp
  obj := fun i h st b hb => by
    obtain ⟨⟨old, he⟩, ⟨o, ho, hc, hd⟩, _⟩ := st
    rcases (by simpa using hb : b = e ∨ b = it) with rfl | rfl
    · exact ⟨_, he, fun v q => nomatch q⟩
    · exact ⟨o, ho, fun v q => by rw [hd] at q; cases q⟩
  keep := fun i h h' st k => by
    obtain ⟨⟨old, he⟩, hi, r⟩ := st
    exact ⟨⟨old, k e (by simp) _ he⟩, hi.at fun o q => k it (by simp) o q, r⟩
  item := by
    intro X hP hw hK hc i pins s σ H E I hf st hg
    subst hP hw hK
    obtain ⟨⟨old, he⟩, hit, hne, hat, hae⟩ := st
    obtain ⟨xs, x, hq, hx⟩ := hg
    obtain ⟨its, rv, p, hz⟩ := I.tuple hq
    obtain ⟨u, hu, ru⟩ := rv.get hx
    have hel : e < s.heap.objs.size := Heap.lt_size he
    have hil : it < s.heap.objs.size := by
      obtain ⟨_, q, _⟩ := hit
      exact Heap.lt_size q
    have hin : i < its.toArray.size := by
      have := (List.getElem?_eq_some_iff.mp hu).1
      simpa using this
    have hh : X.A.handled = none := I.ok.hd hc
    refine wpAny_pyNext_enum_itemD (Draws.tuple (A := X.A.in1) hh it a hat its.toArray) he ⟨hit, p⟩ hin hne (by simp [hne, Ne.symm hae]) fun y h' tk hy ho hst hT hsz hk => ?_
    have hyu : y = u := by
      have hy : its.toArray[i]? = some y := hy
      rw [show its.toArray[i]? = its[i]? by simp, hu] at hy
      exact (Option.some.inj hy).symm
    subst hyu
    refine ⟨_, rfl, wpAny_letOwnedTupleGo_enum (s := { s with heap := h', toks := tk + 1 }) ho fun h'' he' sb => ?_⟩
    have hT2 : h''.get? s.heap.objs.size = some { cls := .type "tuple", data := .seq #[.int i tk, y] } := (sb.2 _ (Nat.ne_of_gt hel)).trans hT
    have fresh : ObjOk X.prog X.w (upd H s.heap.objs.size (.tup [.int (i : Nat), x])) h'' s.heap.objs.size (.tup [.int (i : Nat), x]) :=
      ⟨by show 2 ≤ sizeLine; decide, [.int i tk, y], .cons ⟨_, rfl⟩ (.cons ru .nil), ⟨_, hT2, rfl, _, rfl⟩⟩
    have J : Inv X pins σ (upd H s.heap.objs.size (.tup [.int (i : Nat), x])) { s with heap := h'', toks := tk + 1 } :=
      I.turnedNew (ch := [e, it]) (fun b o hb q => (sb.2 b (fun z => hb (by simp [z]))).trans (hk b o (fun z => hb (by simp [z])) (fun z => hb (by simp [z])) q)) hf (Nat.le_refl _) fresh
    refine ⟨.ref s.heap.objs.size, _, J, rfl, ⟨_, x, rfl, I.hok.fresh (Nat.le_refl _), rfl, fun ys hy => by rw [I.tuple_inj hy hq]; exact hx⟩, ⟨⟨y, ?_⟩, hst.1.at fun o q => (sb.2 it (Ne.symm hne)).trans q, hne, hat, hae⟩, fun b hb => ?_⟩
    · rw [show ((i + 1 : Nat) : Int) = (i : Int) + 1 by omega]
      exact he'
    · have lt : b < s.heap.objs.size := by
        rcases (by simpa using hb : b = e ∨ b = it) with rfl | rfl
        · exact hel
        · exact hil
      rw [upd_ne (Nat.ne_of_lt lt)]
      exact (hf b hb).1
  done := by
    intro X hP hw hK hc i pins s σ H E I hf st hg
    subst hP hw hK
    obtain ⟨⟨old, he⟩, hit, hne, hat, hae⟩ := st
    obtain ⟨xs, hq, hx⟩ := hg
    obtain ⟨its, rv, p, hz⟩ := I.tuple hq
    obtain ⟨f0, f1, f2, f3, f4, f5⟩ := hf it (by simp)
    have hl := rv.length
    have hh : X.A.handled = none := I.ok.hd hc
    have hi : i = its.toArray.size := by
      rw [← hx, hl]
      simp
    rw [hi] at he hit
    exact wpAny_pyNext_enum_endD (Draws.tuple (A := X.A.in1) hh it a hat its.toArray) he ⟨hit, p⟩ fun h' eb => ⟨rfl, I.turned (t' := s.toks) (fun b o hb q => eb b o hb q) f0 f1 f3 f4 f5⟩
  self := fun A i s Q E st h => by
    obtain ⟨⟨_, he⟩, _⟩ := st
    exact wpAny_pyIter_enum he h

def iEnumT (K : PySem.W.Frag) (ta : TA) : TI := fun σ H R => ta σ H fun vs H1 => ∃ a xs, vs = [.ref a] ∧ SqT K H1 a xs ∧ R (Ityt K a) H1
theorem pi_enumT {X : Cx} {e : Expr} {ta : TA} {p pos tpos : Pos} {elts : List Expr} {kk : Nat} (hg : Gl X "enumerate") (hm : X.mg "enumerate" = none) (ha : PA X [e] ta) (hs : starEach [e] X.env = [(false, eval e X.env)] := by rfl) :
    PI X (.Tuple elts kk tpos) (.Call (.Name "enumerate" p) [e] [] pos) (iEnumT X.K ta) := by
  refine ⟨fun pins s σ H R I h => ?_⟩
  refine Call_ (ld_blt I hg hm boot_enumerate (PyProof.Rows.callWith_type1 (thn (ha.run pos pins s σ H _ I h) fun us s1 ⟨vs, H1, I1, r1, a, xs, ex, hq, q⟩ => ?_) hs rfl))
  subst ex
  obtain ⟨u, rfl, ru⟩ := vals1 r1
  obtain rfl : u = Value.ref a := ru
  obtain ⟨its, rv, tup, hz⟩ := I1.tuple hq
  have hal : a < s1.heap.objs.size := tup.lt
  refine enumT_call tup fun h' he hit hk => wpAny_pyIter_enum he ?_
  have J : Inv X pins σ H1 { s1 with heap := h' } := I1.kept (t' := s1.toks) hk
  refine ⟨s1.heap.objs.size + 1, [s1.heap.objs.size + 1, s1.heap.objs.size], _, _, H1, rfl, J, turn_enumT a (s1.heap.objs.size + 1) s1.heap.objs.size, ⟨⟨.none, he⟩, hit, Nat.succ_ne_self _, Nat.ne_of_lt hal, Nat.ne_of_lt (Nat.lt_succ_of_lt hal)⟩, fun b hb => ?_, q⟩
  have le : s1.heap.objs.size ≤ b := by
    rcases (by simpa using hb : b = s1.heap.objs.size + 1 ∨ b = s1.heap.objs.size) with rfl | rfl
    · exact Nat.le_succ _
    · exact Nat.le_refl _
  exact I1.fpOk le (I1.hok.fresh le)
theorem kpi_enumT {X : Cx} {K : PySem.W.Frag} {e : Expr} {ta : TA} {p pos tpos : Pos} {elts : List Expr} {kk : Nat} (hg : Gl X "enumerate") (hm : X.mg "enumerate" = none) (ha : PA X [e] ta) (hK : X.K = K := by rfl) (hs : starEach [e] X.env = [(false, eval e X.env)] := by rfl) :
    PI X (.Tuple elts kk tpos) (.Call (.Name "enumerate" p) [e] [] pos) (iEnumT K ta) := by
  subst hK
  exact pi_enumT hg hm ha hs
theorem walk_enumT {K : PySem.W.Frag} {a : Addr} {xs : List V} : Walk (Ityt K a) xs.length (fun H => SqT K H a xs) (YPair (fun i => some (.int (i : Nat))) (fun i => xs[i]?)) :=
  ⟨fun i _ hi q => ⟨xs, xs[i], q, by simp [hi]⟩, fun _ q => ⟨xs, q, rfl⟩, fun i H v H' _ q ⟨T, x, h1, h2, h3, h4⟩ => ⟨T, .int (i : Nat), x, h1, h2, h3, rfl, h4 xs q⟩⟩
theorem evw_enumT {K : PySem.W.Frag} {σ : L2.St} {H : Hp} {tl : TE} {xs : List V} (h : EvG tl σ H (TupK K xs)) : EvW (iEnumT K (tCons tl tNil)) σ H xs.length (fun i x H => ∃ T y, x = .ref T ∧ H T = some (.tup [.int (i : Nat), y]) ∧ xs[i]? = some y) := fun H1 e R q =>
  h H1 e _ fun v H2 e2 ⟨p, z, hp⟩ => ⟨p, xs, by rw [z], hp, q _ H2 _ _ e2 walk_enumT (fun H3 e3 => e3.t hp) fun i H3 x H4 hi _ ⟨T, x1, y1, hx, hT, h4, h5, h6⟩ => by
    subst h4
    have h5 : some (V.int (i : Nat)) = some x1 := h5
    cases h5
    exact ⟨Gx.new hT, T, y1, hx, upd_same, h6⟩⟩
end Ly

set_option Elab.async false
set_option maxRecDepth 100000
set_option maxHeartbeats 1000000
/-! Terms as objects. -/
namespace TM
open PySem L2 Ly
/-- heaps in which all stays but lists and instances -/
def Sx (H H' : Hp) : Prop := ∀ a o, H a = some o → (∀ xs, o ≠ .lst xs) → (∀ C dx fs, o ≠ .ins C dx fs) → H' a = some o
theorem Sx.refl (H : Hp) : Sx H H := fun _ _ h _ _ => h
theorem Sx.trans {H H1 H2 : Hp} (a : Sx H H1) (b : Sx H1 H2) : Sx H H2 := fun x o h h1 h2 => b x o (a x o h h1 h2) h1 h2
theorem sx_of {H H' : Hp} (e : Gx H H') : Sx H H' := fun a o h _ _ => e a o h
theorem sx_put {H : Hp} {a C dx : Addr} {fs : List (Str × V)} {o : HO} (h : H a = some (.ins C dx fs)) : Sx H (upd H a o) := fun b u hb _ h2 => by
  by_cases z : b = a
  · subst z
    rw [h] at hb
    cases hb
    exact absurd rfl (h2 C dx fs)
  · rw [upd_ne z]
    exact hb
theorem Sx.t {K : PySem.W.Frag} {H H' : Hp} {a : Addr} {xs : List V} (e : Sx H H') (h : SqT K H a xs) : SqT K H' a xs := by
  rcases h with (h | ⟨o, h⟩) | h
  · exact .inl (.inl (e _ _ h (fun _ z => by cases z) fun _ _ _ z => by cases z))
  · exact .inl (.inr ⟨o, e _ _ h (fun _ z => by cases z) fun _ _ _ z => by cases z⟩)
  · exact .inr h
theorem Sx.d {H H' : Hp} {a : Addr} {kvs : List (Key × V)} (e : Sx H H') (h : H a = some (.dK kvs)) : H' a = some (.dK kvs) := e _ _ h (fun _ z => by cases z) fun _ _ _ z => by cases z
theorem NodesAt.sx {K : PySem.W.Frag} {H H' : Hp} {a : Addr} {nds : List Nd} (e : Sx H H') (h : NodesAt K H a nds) : NodesAt K H' a nds := by
  obtain ⟨xs, h1, h2, h3⟩ := h.ex
  refine ⟨⟨xs, e.t h1, h2, fun i n q => ?_⟩⟩
  obtain ⟨x, h4, p, z, h5⟩ := h3 i n q
  exact ⟨x, h4, p, z, e.t h5⟩
theorem ChT.sx {K : PySem.W.Frag} {H H' : Hp} {a : Addr} {cs : List (List Nat)} (e : Sx H H') (h : ChT K H a cs) : ChT K H' a cs := by
  obtain ⟨ys, h1, h2, h3⟩ := h
  refine ⟨ys, e.t h1, h2, fun i c q => ?_⟩
  obtain ⟨y, h4, p, z, h5⟩ := h3 i c q
  exact ⟨y, h4, p, z, e.t h5⟩
/-- a row of nodes told: the tuple and its nodes, tracked -/
def RowAt (H : Hp) (a : Addr) (nds : List Nd) : Prop := ∃ xs, H a = some (.tup xs) ∧ xs.length = nds.length ∧ ∀ (i : Nat) (n : Nd), nds[i]? = some n → ∃ p, xs[i]? = some (.ref p) ∧ H p = some (.tup [.str n.1, .int (n.2 : Int)])
theorem RowAt.nodes {K : PySem.W.Frag} {H : Hp} {a : Addr} {nds : List Nd} (h : RowAt H a nds) : NodesAt K H a nds := by
  obtain ⟨xs, h1, h2, h3⟩ := h
  refine ⟨⟨xs, SqT.of h1, h2, fun i n q => ?_⟩⟩
  obtain ⟨p, h4, h5⟩ := h3 i n q
  exact ⟨_, h4, p, rfl, SqT.of h5⟩
theorem RowAt.sx {H H' : Hp} {a : Addr} {nds : List Nd} (e : Sx H H') (h : RowAt H a nds) : RowAt H' a nds := by
  obtain ⟨xs, h1, h2, h3⟩ := h
  refine ⟨xs, e _ _ h1 (fun _ z => by cases z) (fun _ _ _ z => by cases z), h2, fun i n q => ?_⟩
  obtain ⟨p, h4, h5⟩ := h3 i n q
  exact ⟨p, h4, e _ _ h5 (fun _ z => by cases z) (fun _ _ _ z => by cases z)⟩
theorem RowAt.firm {H H' : Hp} {a : Addr} {nds : List Nd} (e : Kx H H') (h : RowAt H a nds) : RowAt H' a nds := by
  obtain ⟨xs, h1, h2, h3⟩ := h
  refine ⟨xs, e.tup h1, h2, fun i n q => ?_⟩
  obtain ⟨p, h4, h5⟩ := h3 i n q
  exact ⟨p, h4, e.tup h5⟩
theorem RowAt.gx {H H' : Hp} {a : Addr} {nds : List Nd} (e : Gx H H') (h : RowAt H a nds) : RowAt H' a nds := h.firm e.k
/-- the attributes of a term -/
def tfs (n c e s u l : Addr) : List (Str × V) := [("own_nodes", .ref n), ("own_children", .ref c), ("own_ends", .ref e), ("own_symbols", .ref s), ("own_unknown", .ref u), ("own_lost", .ref l)]
/-- what a tree needs to be a term -/
structure Good (t : Tr) : Prop where
  nodes : ∀ n ∈ t.nodes, GoodNd n
  size : t.size ≤ 40
  ar : ∃ l, arF t.nodes [] = some l
/-- the parts of a term -/
structure TermB (K : PySem.W.Frag) (H : Hp) (n c e s u l : Addr) (t : Tr) : Prop where
  nd : RowAt H n t.nodes
  ch : ChT K H c (t.ch 0)
  en : SqT K H e (intsV (t.ends 0))
  sy : ∃ r r', arF t.nodes [] = some r ∧ Asc (r.filter fun n => !isLeaf n.1) r' ∧ H s = some (.dK (kvD r'))
  un : SqT K H u (intsV (plc t.nodes "_"))
  lo : SqT K H l (intsV (plc t.nodes "#"))
structure TermAt (K : PySem.W.Frag) (C : Addr) (H : Hp) (a : Addr) (t : Tr) : Prop where
  ex : ∃ dx n c e s u l, H a = some (.ins C dx (tfs n c e s u l)) ∧ TermB K H n c e s u l t
  good : Good t
theorem TermB.sx {K : PySem.W.Frag} {H H' : Hp} {n c e s u l : Addr} {t : Tr} (x : Sx H H') (h : TermB K H n c e s u l t) : TermB K H' n c e s u l t := by
  obtain ⟨h1, h2, h3, ⟨r, r', h4, h5, h6⟩, h7, h8⟩ := h
  exact ⟨h1.sx x, h2.sx x, x.t h3, ⟨r, r', h4, h5, x.d h6⟩, x.t h7, x.t h8⟩
theorem TermAt.firm {K : PySem.W.Frag} {C : Addr} {H H' : Hp} {a : Addr} {t : Tr} (x : Kx H H') (h : TermAt K C H a t) : TermAt K C H' a t := by
  obtain ⟨⟨dx, n, c, e, s, u, l, h1, h2⟩, g⟩ := h
  refine ⟨⟨dx, n, c, e, s, u, l, x.keep h1 (fun _ z => by cases z), ?_⟩, g⟩
  obtain ⟨h1, h2, h3, ⟨r, r', h4, h5, h6⟩, h7, h8⟩ := h2
  exact ⟨h1.firm x, h2.firm x, x.t h3, ⟨r, r', h4, h5, x.keep h6 (fun _ z => by cases z)⟩, x.t h7, x.t h8⟩
theorem TermAt.gx {K : PySem.W.Frag} {C : Addr} {H H' : Hp} {a : Addr} {t : Tr} (x : Gx H H') (h : TermAt K C H a t) : TermAt K C H' a t := h.firm x.k
def TermT (K : PySem.W.Frag) (C : Addr) (t : Tr) : Ty := fun v H => ∃ a, v = .ref a ∧ TermAt K C H a t
theorem TermT.firm {K : PySem.W.Frag} {C : Addr} {t : Tr} : Firm (TermT K C t) := fun _ _ _ e ⟨a, z, h⟩ => ⟨a, z, h.firm e⟩
mutual
theorem Tr.ends_len (t : Tr) : ∀ off, (t.ends off).length = t.size := by
  cases t with
  | nd w ts =>
    intro off
    show (endsL ts (off + 1)).length + 1 = (nodesL ts).length + 1
    rw [endsL_len ts]
theorem endsL_len (ts : List Tr) : ∀ off, (endsL ts off).length = (nodesL ts).length := by
  cases ts with
  | nil =>
    intro off
    rfl
  | cons t ts =>
    intro off
    show (t.ends off ++ endsL ts (off + t.size)).length = (t.nodes ++ nodesL ts).length
    rw [List.length_append, List.length_append, Tr.ends_len t, endsL_len ts]
    rfl
end
theorem roots_ge : ∀ {ts : List Tr} {off k : Nat}, k ∈ roots ts off → off ≤ k
  | t :: ts, off, k, h => by
    rcases List.mem_cons.mp h with rfl | h
    · exact Nat.le_refl _
    · have := roots_ge h
      omega
theorem last_end : ∀ (ts : List Tr) (off k : Nat) (r : List Nat), (roots ts off).getLast? = some k → (endsL ts off ++ r).getD (k - off) 0 = off + (nodesL ts).length
  | [], _, _, _, h => by cases h
  | [t], off, k, r, h => by
    have h : some off = some k := h
    cases h
    cases t with
    | nd w us =>
      rw [Nat.sub_self]
      show off + 1 + (nodesL us).length = off + (((w, us.length) :: nodesL us) ++ []).length
      rw [List.append_nil, List.length_cons]
      omega
  | t :: u :: ts, off, k, r, h => by
    have h : (roots (u :: ts) (off + t.size)).getLast? = some k := by
      have h : (off :: roots (u :: ts) (off + t.size)).getLast? = some k := h
      rw [List.getLast?_cons] at h
      cases q : (roots (u :: ts) (off + t.size)).getLast? with
      | none =>
        have := congrArg List.length (List.getLast?_eq_none_iff.mp q)
        rw [roots_len] at this
        cases this
      | some x =>
        rw [q] at h
        exact h
    have hge := roots_ge (List.mem_of_getLast? h)
    have ih := last_end (u :: ts) (off + t.size) k r h
    show ((t.ends off ++ endsL (u :: ts) (off + t.size)) ++ r).getD (k - off) 0 = off + (t.nodes ++ nodesL (u :: ts)).length
    rw [List.append_assoc, List.getD_eq_getElem?_getD, List.getElem?_append_right (by rw [Tr.ends_len]; omega), Tr.ends_len, show k - off - t.size = k - (off + t.size) by omega, ← List.getD_eq_getElem?_getD, ih, List.length_append]
    show off + t.nodes.length + _ = _
    omega
mutual
theorem Tr.enF_of (t : Tr) : ∀ (f : List (List Nat)) (off : Nat), enF (t.ch off ++ f) off = t.ends off ++ enF f (off + t.size) := by
  cases t with
  | nd w ts =>
    intro f off
    have ih := enF_ofL ts f (off + 1)
    have hs : off + Tr.size (.nd w ts) = off + 1 + (nodesL ts).length := by
      show off + ((nodesL ts).length + 1) = _
      omega
    show ((match (roots ts (off + 1)).getLast? with
      | none => off + 1
      | some k => (enF (chL ts (off + 1) ++ f) (off + 1)).getD (k - (off + 1)) 0) :: enF (chL ts (off + 1) ++ f) (off + 1)) = ((off + 1 + (nodesL ts).length) :: endsL ts (off + 1)) ++ enF f (off + Tr.size (.nd w ts))
    rw [ih, hs, List.cons_append]
    congr 1
    cases hq : (roots ts (off + 1)).getLast? with
    | none =>
      have h0 : roots ts (off + 1) = [] := List.getLast?_eq_none_iff.mp hq
      have hl := congrArg List.length h0
      rw [roots_len] at hl
      have : ts = [] := List.eq_nil_of_length_eq_zero hl
      subst this
      rfl
    | some k => exact last_end ts (off + 1) k _ hq
theorem enF_ofL (ts : List Tr) : ∀ (f : List (List Nat)) (off : Nat), enF (chL ts off ++ f) off = endsL ts off ++ enF f (off + (nodesL ts).length) := by
  cases ts with
  | nil =>
    intro f off
    rfl
  | cons t ts =>
    intro f off
    have h1 := Tr.enF_of t (chL ts (off + t.size) ++ f) off
    have h2 := enF_ofL ts f (off + t.size)
    show enF ((t.ch off ++ chL ts (off + t.size)) ++ f) off = (t.ends off ++ endsL ts (off + t.size)) ++ enF f (off + (t.nodes ++ nodesL ts).length)
    rw [List.append_assoc, h1, h2, List.append_assoc, List.length_append]
    congr 3
    show off + t.nodes.length + _ = _
    omega
end
theorem Tr.enF (t : Tr) : TM.enF (t.ch 0) 0 = t.ends 0 := by
  have h := Tr.enF_of t [] 0
  rw [List.append_nil] at h
  rw [h]
  show t.ends 0 ++ [] = _
  rw [List.append_nil]
/-! children stand behind their node -/
theorem roots_lt : ∀ {ts : List Tr} {off k : Nat}, k ∈ roots ts off → k < off + (nodesL ts).length
  | t :: ts, off, k, h => by
    show k < off + (t.nodes ++ nodesL ts).length
    rw [List.length_append]
    have h1 : 1 ≤ t.nodes.length := t.size_pos
    rcases List.mem_cons.mp h with rfl | h
    · omega
    · have := roots_lt h
      have e : t.size = t.nodes.length := rfl
      omega
mutual
theorem Tr.ch_ok (t : Tr) : ∀ (off i : Nat) (c : List Nat), (t.ch off)[i]? = some c → ∀ k ∈ c, off + i < k ∧ k < off + t.size := by
  cases t with
  | nd w ts =>
    intro off i c h k hk
    have hs : off + Tr.size (.nd w ts) = off + 1 + (nodesL ts).length := by
      show off + ((nodesL ts).length + 1) = _
      omega
    cases i with
    | zero =>
      have h : some (roots ts (off + 1)) = some c := h
      cases h
      have h1 := roots_ge hk
      have h2 := roots_lt hk
      omega
    | succ i =>
      have h : (chL ts (off + 1))[i]? = some c := h
      have := chL_ok ts (off + 1) i c h k hk
      omega
theorem chL_ok (ts : List Tr) : ∀ (off i : Nat) (c : List Nat), (chL ts off)[i]? = some c → ∀ k ∈ c, off + i < k ∧ k < off + (nodesL ts).length := by
  cases ts with
  | nil =>
    intro off i c h
    cases h
  | cons t ts =>
    intro off i c h k hk
    have h : (t.ch off ++ chL ts (off + t.size))[i]? = some c := h
    have e : (nodesL (t :: ts)).length = t.size + (nodesL ts).length := by
      show (t.nodes ++ nodesL ts).length = _
      rw [List.length_append]
      rfl
    by_cases hi : i < t.size
    · rw [List.getElem?_append_left (by rw [Tr.ch_len]; exact hi)] at h
      have := Tr.ch_ok t off i c h k hk
      omega
    · rw [List.getElem?_append_right (by rw [Tr.ch_len]; omega), Tr.ch_len] at h
      have := chL_ok ts (off + t.size) (i - t.size) c h k hk
      omega
end
theorem Tr.chOk (t : Tr) : ChOk (t.ch 0) := fun i c h k hk => by
  have := Tr.ch_ok t 0 i c h k hk
  rw [Tr.ch_len]
  omega
end TM
namespace Ly
open PySem PySem.Spec PyProof.Rows L2
/-! ### classes of the text -/
/-- a class, for those who make instances -/
structure CalC (P : Program) (w : World) (K : PySem.W.Frag) (mg : Str → Option Value) (base : Heap) (CX : CXT) (x : Str) (C : Addr) (k : Nat) (ps : List Str) (sp : Sp) : Prop where
  ex : ∃ (f : Addr) (fd : FuncData), Mk K C f ∧ FnOk P w K mg base CX k f fd ps sp ∧ mg x = some (.ref C) ∧ Binds K fd ps []
/-- a class of errors over ValueError without __init__ -/
structure ExC (K : PySem.W.Frag) (mg : Str → Option Value) (nm : Str) (C : Addr) : Prop where
  x : PySem.W.excIn K C [.type "ValueError", .type "Exception", .type "BaseException", .type "object"] "ValueError.__new__" = true
  g : mg nm = some (.ref C)
  k : PySem.W.keepIn K (.ref C) = true
  b : PySem.W.subIn K (.ref C) (.type "BaseException") = some true
  t : PySem.W.typeIn K (.ref C) = some (.type "type")
section
variable {X : Cx} {CX : CXT} {k : Nat} {ps : List Str} {sp : Sp} {x : Str} {C : Addr} {p pos : Pos} {e : Expr} {es : List Expr} {t : TA} {E : XK}
theorem pe_mkc (M : CalC X.prog X.w X.K X.mg X.base CX x C k ps sp) (hr : Room (k + 1) X.A) (hg : Gl X x) (hx : Passes CX X E) (ha : PA X (e :: es) t) (hdb : (x == ("__debug__" : Str)) = false := by decide)
    (he : starEach (e :: es) X.env = (false, eval e X.env) :: starEach es X.env := by rfl) (hpl : (backTo pos (starEach es X.env)).any (·.1) = false := by rfl) :
    PE X (.Call (.Name x p) (e :: es) [] pos) (tMake C sp [] E t) := by
  obtain ⟨f, fd, M, F, hm, hb⟩ := M.ex
  exact pe_make M F hr hg hm hb .nil hx ha hdb he hpl
end
section
variable {K : PySem.W.Frag} {σ : L2.St} {H : Hp} {tv : TE} {tz : TS} {D : Ends} {Φ : Ty} {i : Nat} {a C dx : Addr} {fs : List (Str × V)} {f : Str}
theorem g_fld (h : EvG tv σ H Φ) (hs : σ[i]? = some (some (.ref a))) (ha : H a = some (.ins C dx fs)) (cl : Cls K C) (na : NoAttr K C f) (hl : fs.length < 1000) (k : ∀ y H1, Gx H H1 → Φ y H1 → tz D σ (upd H1 a (.ins C dx (putF f y fs)))) :
    tSeq (sFld K (tVar i) tv f) tz D σ H := h H (Gx.refl H) _ fun y H1 e g => ⟨_, hs, a, C, dx, fs, rfl, e _ _ ha, cl, na, hl, k y H1 e g⟩
theorem g_fld1 (h : EvG tv σ H Φ) (hs : σ[i]? = some (some (.ref a))) (ha : H a = some (.ins C dx fs)) (cl : Cls K C) (na : NoAttr K C f) (hl : fs.length < 1000) (k : ∀ y H1, Gx H H1 → Φ y H1 → D.nx σ (upd H1 a (.ins C dx (putF f y fs)))) :
    sFld K (tVar i) tv f D σ H := h H (Gx.refl H) _ fun y H1 e g => ⟨_, hs, a, C, dx, fs, rfl, e _ _ ha, cl, na, hl, k y H1 e g⟩
theorem evg_fld {v : V} {ta : TE} (h : EvG ta σ H (Eq1 (.ref a))) (ha : H a = some (.ins C dx fs)) (cl : Cls K C) (na : NoAttr K C f) (hl : fs.lookup f = some v) : EvG (tFld K ta f) σ H (Eq1 v) := fun H1 e Q q =>
  h H1 e _ fun u H2 e2 z => ⟨a, C, dx, fs, v, z, (e.trans e2) _ _ ha, cl, na, hl, q _ H2 e2 rfl⟩
end
theorem kps_fld {X : Cx} {K : PySem.W.Frag} {o value : Expr} {ta tv : TE} {f : Str} {pos pos' : Pos} (ha : PE X o ta) (hv : PE X value tv) (hs : swapsWith value (some (.Attribute o f pos')) pos.line X.env = pure false) (hK : X.K = K := by rfl) : PS X (.Assign [.Attribute o f pos'] value pos) (sFld K ta tv f) := by
  subst hK
  exact ps_fld ha hv hs
end Ly
namespace TM
open PySem L2 Ly
/-- what the text has of the class Term -/
structure TermC (K : PySem.W.Frag) (mg : Str → Option Value) (C CN CI : Addr) : Prop where
  cl : Cls K C
  n1 : NoAttr K C "own_nodes"
  n2 : NoAttr K C "own_children"
  n3 : NoAttr K C "own_ends"
  n4 : NoAttr K C "own_symbols"
  n5 : NoAttr K C "own_unknown"
  n6 : NoAttr K C "own_lost"
  gT : mg "Term" = some (.ref C)
  own : Own K C
  isT : PySem.W.kitOne K (.ref C) (.ref C) = some true
  clN : Cls K CN
  nN : NoAttr K CN "told_nodes"
  gN : mg "Nodes" = some (.ref CN)
  ownN : Own K CN
  isN : PySem.W.kitOne K (.ref CN) (.ref CN) = some true
  noTN : PySem.W.kitOne K (.ref C) (.ref CN) = some false
  noN : ∀ n ∈ ["NoneType", "bool", "int", "str", "list", "tuple", "dict"], PySem.W.kitOne K (.type n) (.ref CN) = some false
  noT : ∀ n ∈ ["NoneType", "bool", "int", "str", "list", "tuple", "dict"], PySem.W.kitOne K (.type n) (.ref C) = some false
  inv : ExC K mg "InvalidTerm" CI
def kdTy : Kd → String
  | .non => "NoneType"
  | .bl => "bool"
  | .int => "int"
  | .str => "str"
  | .lst => "list"
  | .tup => "tuple"
  | .dic => "dict"
  | .own => "object"
theorem kd_ty {K : PySem.W.Frag} {H : Hp} {v : V} {k : Kd} (h : Pl K H v k) (hk : k ≠ .own) : TyX K H v (.type (kdTy k)) ∧ kdTy k ∈ ["NoneType", "bool", "int", "str", "list", "tuple", "dict"] := by
  cases h with
  | non => exact ⟨.base .non, by decide⟩
  | bl b => exact ⟨.base (.bl b), by decide⟩
  | int i => exact ⟨.base (.int i), by decide⟩
  | str x => exact ⟨.base (.str x), by decide⟩
  | lst e => exact ⟨.base (.lst e), by decide⟩
  | tup e => exact ⟨.base (.tup e), by decide⟩
  | dK e => exact ⟨.base (.dK e), by decide⟩
  | own e o => exact absurd rfl hk
/-- all but one thing stays -/
def Gxa (a : Addr) (H H' : Hp) : Prop := ∀ b o, b ≠ a → H b = some o → H' b = some o
def spNodesInit (CN : Addr) : Sp := fun vs H Q _ => ∃ (a dx : Addr) (v : V), vs = [.ref a, v] ∧ H a = some (.ins CN dx []) ∧ ∀ H', Gxa a H H' → H' a = some (.ins CN dx [("told_nodes", v)]) → Q .non H'
/-- what Term(..) is given: a row that is told, or any value -/
inductive TermIn (K : PySem.W.Frag) (CN : Addr) (H : Hp) : V → Option Tr → Prop
  | told {a dx n : Addr} {t : Tr} : H a = some (.ins CN dx [("told_nodes", .ref n)]) → RowAt H n t.nodes → Good t → TermIn K CN H (.ref a) (some t)
  | row {n : Addr} {t : Tr} : RowAt H n t.nodes → Good t → TermIn K CN H (.ref n) (some t)
  | none {x : V} {kd : Kd} : RowIn K H x false → Pl K H x kd → kd ≠ .own → TermIn K CN H x none
def spInit (K : PySem.W.Frag) (C CN CI : Addr) : Sp := fun vs H Q E => ∃ (a dx : Addr) (x : V) (o : Option Tr), vs = [.ref a, x] ∧ H a = some (.ins C dx []) ∧ TermIn K CN H x o ∧
  (∀ t, o = some t → ∀ H', Gxa a H H' → TermAt K C H' a t → Q .non H') ∧ (o = none → ∀ H', Gxa a H H' → E (.ref CI) none H')
end TM
namespace TM
open PySem L2 Ly
theorem Gxa.refl (a : Addr) (H : Hp) : Gxa a H H := fun _ _ _ h => h
theorem Gxa.gx {a : Addr} {H H1 H2 : Hp} (e : Gxa a H H1) (g : Gx H1 H2) : Gxa a H H2 := fun b o n h => g _ _ (e b o n h)
theorem Gxa.put {a : Addr} {H H1 : Hp} {o : HO} (e : Gxa a H H1) : Gxa a H (upd H1 a o) := fun b u n h => by
  rw [upd_ne n]
  exact e b u n h
/-- from the place where an instance is made -/
theorem Gxa.made {x dx C : Addr} {H H' : Hp} (hx : H x = none) (hd : H dx = none) (e : Gxa x (upd (upd H dx (.own x)) x (.ins C dx [])) H') : Gx H H' := fun b o h => by
  have n1 : b ≠ x := fun z => by rw [z, hx] at h; cases h
  have n2 : b ≠ dx := fun z => by rw [z, hd] at h; cases h
  exact e b o n1 (by rw [upd_ne n1, upd_ne n2]; exact h)
theorem gx_made {x dx C : Addr} {H : Hp} (hx : H x = none) (hd : H dx = none) : Gx H (upd (upd H dx (.own x)) x (.ins C dx [])) := Gxa.made hx hd (Gxa.refl _ _)
/-- isinstance with a class of the text -/
theorem evg_isc {K : PySem.W.Frag} {σ : L2.St} {H : Hp} {te : TE} {C : Addr} {b : Bool} (h : EvG te σ H (fun v H => ∃ t, TyX K H v t ∧ PySem.W.kitOne K t (.ref C) = some b)) : EvG (tCB (rIsi K) (tCons te (tCons (tC (.ref C)) tNil))) σ H (BlE b) := fun H1 e Q q =>
  h H1 e _ fun v H2 e2 ⟨t, ty, kt⟩ => ⟨v, .ref C, t, .ref C, b, rfl, .own C, ty, kt, q _ H2 e2 ⟨_, rfl, rfl⟩⟩
/-- tuple(list) with what is known of the items -/
theorem evg_tupleP {K : PySem.W.Frag} {σ : L2.St} {H : Hp} {tl : TE} {Ψ : List V → Hp → Prop} (m : ∀ ys H1 H2, Gx H1 H2 → Ψ ys H1 → Ψ ys H2) (h : EvG tl σ H (fun v H => ∃ p ys, v = .ref p ∧ SqL K H p ys ∧ Ψ ys H)) :
    EvG (tCB (rTupK K) (tCons tl tNil)) σ H (fun v H => ∃ p ys, v = .ref p ∧ H p = some (.tup ys) ∧ Ψ ys H) := fun H1 e Q q =>
  h H1 e _ fun v H2 e2 ⟨p, ys, z, hp, f⟩ => ⟨p, ys, by rw [z], .inl ⟨hp, fun l hl => q _ _ (e2.trans (Gx.new hl)) ⟨l, ys, rfl, upd_same, m _ _ _ (Gx.new hl) f⟩⟩⟩
end TM
namespace TM
open PySem L2 Ly
section
variable {K : PySem.W.Frag} {σ : L2.St} {H : Hp} {ta tb : TE} {sp : Sp} {E : XK} {v w : V} {Φ : Ty}
theorem evg_call1 (h : EvG ta σ H (Eq1 v)) (k : ∀ H1, Gx H H1 → ∀ Q : VK, (∀ y H2, Gx H1 H2 → Φ y H2 → Q y H2) → sp [v] H1 Q E) : EvG (tCall sp [] E (tCons ta tNil)) σ H Φ := fun H1 e Q q =>
  h H1 e _ fun u H2 e2 z => by
    have z : u = v := z
    rw [z]
    exact k H2 (e.trans e2) Q fun y H3 e3 f => q y H3 (e2.trans e3) f
theorem evg_call2 (h : EvG ta σ H (Eq1 v)) (h2 : EvG tb σ H (Eq1 w)) (k : ∀ H1, Gx H H1 → ∀ Q : VK, (∀ y H2, Gx H1 H2 → Φ y H2 → Q y H2) → sp [v, w] H1 Q E) : EvG (tCall sp [] E (tCons ta (tCons tb tNil))) σ H Φ := fun H1 e Q q =>
  h H1 e _ fun u H2 e2 z => h2 H2 (e.trans e2) _ fun u2 H3 e3 z2 => by
    have z : u = v := z
    have z2 : u2 = w := z2
    rw [z, z2]
    exact k H3 ((e.trans e2).trans e3) Q fun y H4 e4 f => q y H4 ((e2.trans e3).trans e4) f
end
section
variable {n c e s u l : V}
abbrev fs1 (n : V) : List (Str × V) := [("own_nodes", n)]
abbrev fs2 (n c : V) : List (Str × V) := [("own_nodes", n), ("own_children", c)]
abbrev fs3 (n c e : V) : List (Str × V) := [("own_nodes", n), ("own_children", c), ("own_ends", e)]
abbrev fs4 (n c e s : V) : List (Str × V) := [("own_nodes", n), ("own_children", c), ("own_ends", e), ("own_symbols", s)]
abbrev fs5 (n c e s u : V) : List (Str × V) := [("own_nodes", n), ("own_children", c), ("own_ends", e), ("own_symbols", s), ("own_unknown", u)]
abbrev fs6 (n c e s u l : V) : List (Str × V) := [("own_nodes", n), ("own_children", c), ("own_ends", e), ("own_symbols", s), ("own_unknown", u), ("own_lost", l)]
theorem putF1 : putF "own_nodes" n [] = fs1 n := rfl
theorem putF2 : putF "own_children" c (fs1 n) = fs2 n c := rfl
theorem putF3 : putF "own_ends" e (fs2 n c) = fs3 n c e := rfl
theorem putF4 : putF "own_symbols" s (fs3 n c e) = fs4 n c e s := rfl
theorem putF5 : putF "own_unknown" u (fs4 n c e s) = fs5 n c e s u := rfl
theorem putF6 : putF "own_lost" l (fs5 n c e s u) = fs6 n c e s u l := rfl
end
/-- an instance grown and changed -/
theorem sx_step {H H1 : Hp} {a C dx : Addr} {fs fs' : List (Str × V)} (e : Gx H H1) (h : H a = some (.ins C dx fs)) : Sx H (upd H1 a (.ins C dx fs')) := (sx_of e).trans (sx_put (e _ _ h))
end TM
namespace TM
open PySem L2 Ly
theorem g_if1 {σ : L2.St} {H : Hp} {tt : TT} {tu tw : TS} {D : Ends} {R : Bool → Prop} (h : EvB tt σ H R) (k1 : R true → ∀ H1, Gx H H1 → tu D σ H1) (k2 : R false → ∀ H1, Gx H H1 → tw D σ H1) : tIfS tt tu tw D σ H := h H (Gx.refl H) _ fun b H1 e f => by
  cases b with
  | true => exact k1 f H1 e
  | false => exact k2 f H1 e
theorem RowIn.gx {K : PySem.W.Frag} {H H' : Hp} {x : V} {b : Bool} (e : Gx H H') (h : RowIn K H x b) : RowIn K H' x b := by
  cases h with
  | other p q => exact .other (p.gx e) q
  | size p q => exact .size (e _ _ p) q
  | items p q r => exact .items (e _ _ p) q ⟨r.1, fun i x hx => by
      obtain ⟨b, h1, h2⟩ := r.2.1 i x hx
      exact ⟨b, h1, NodeIn.mono _ _ _ e h2⟩, r.2.2⟩
  | nodes p q r =>
    obtain ⟨xs, h1, h2, h3⟩ := p
    refine .nodes ⟨xs, e _ _ h1, h2, fun i n hn => ?_⟩ q r
    obtain ⟨p, h4, h5⟩ := h3 i n hn
    exact ⟨p, h4, e _ _ h5⟩
end TM

set_option Elab.async false
set_option maxRecDepth 100000
set_option maxHeartbeats 1000000
/-! Operators of own classes, by their methods. -/
namespace Ly
open PySem PySem.Spec PyProof.Rows L2
/-- a method of a class of the text -/
structure CalM (P : Program) (w : World) (K : PySem.W.Frag) (mg : Str → Option Value) (base : Heap) (CX : CXT) (C : Addr) (m : Str) (k : Nat) (ps : List Str) (sp : Sp) : Prop where
  ex : ∃ (f : Addr) (fd : FuncData), Meth K C m f ∧ PySem.W.fnIn K f = true ∧ FnOk P w K mg base CX k f fd ps sp ∧ Binds K fd ps []
section
variable {X : Cx} {CX : CXT} {k : Nat} {C f : Addr} {fd : FuncData} {ps : List Str} {sp : Sp} {E : XK} {m : Str} {pins : List (Addr × Obj)} {σ : L2.St} {H : Hp} {s : Shared} {Q : VK}
/-- the callee runs, deeper in -/
theorem run_at {A : Around} {us : List Value} {vs : List V} (hfr : A.frames = X.A.frames) (F : FnOk X.prog X.w X.K X.mg X.base CX k f fd ps sp) (hr : Room k A) (hb : Binds X.K fd ps []) (hx : Passes CX X E)
    (I : Inv X pins σ H s) (r : Vals vs us) (h : sp vs H Q E) : wpAny (model X.prog X.w) A (call (.ref f) us) (EP X pins σ Q) X.xe s := by
  have hl : us.length = ps.length := by rw [← r.length]; exact F.len _ _ _ _ h
  have e0 : Env0 X.prog X.w X.K X.mg X.base A X.stack s H := by
    have e := I.env0
    exact ⟨by rw [hfr]; exact e.frames, e.mod, e.bs, e.bsz, e.funs, e.frf, e.hok, e.bare⟩
  have hbs := hb s us I.kIn (by rw [List.append_nil]; exact hl)
  rw [List.append_nil] at hbs
  refine wpAny_call (codeAny_mono (F.run A X.stack s H ⟨us, []⟩ us vs Q E hr e0 hbs r h) fun r s' hq => ?_)
  cases r with
  | error e => exact hx pins σ H s e s' I hq
  | ok fl =>
    cases fl with
    | ret u => exact I.after hq
    | next => exact False.elim hq
    | brk => exact False.elim hq
    | cont => exact False.elim hq
/-- len(x) by __len__ -/
def rLenO (C : Addr) (sp : Sp) (E : XK) : List V → Hp → VK → Prop := fun xs H Q => ∃ a dx fs, xs = [.ref a] ∧ H a = some (.ins C dx fs) ∧ sp [.ref a] H (fun v H' => ∃ n : Int, v = .int n ∧ 0 ≤ n ∧ n < 2 ^ 63 ∧ Q (.int n) H') E
theorem call_lenO (M : CalM X.prog X.w X.K X.mg X.base CX C "__len__" k ps sp) (hr : Room (k + 1) X.A) (hx : Passes CX X E) : CallR X (.builtin "len") (rLenO C sp E) := by
  intro pins s σ H xs us Q I r h
  obtain ⟨a, dx, fs, rfl, ha, q⟩ := h
  obtain ⟨u, rfl, ru⟩ := vals1 r
  obtain rfl : u = Value.ref a := ru
  obtain ⟨f, fd, hm, hf, F, hb⟩ := M.ex
  obtain ⟨mA, J, _⟩ := ins_get I.hok ha
  obtain ⟨od, J, _⟩ := J.look
  obtain ⟨m, hF⟩ := I.fr
  refine PySem.W.len_K hF I.ok.mod.kin J hm.at_ hm.fn ?_
  refine thn (run_at (vs := [.ref a]) rfl F hr.in1 hb hx I (.cons rfl .nil) q) fun v s' ⟨y, H', I', ry, n, z, h0, h1, q'⟩ => ?_
  subst z
  obtain ⟨t, rfl⟩ : ∃ t, v = Value.int n t := ry
  exact ⟨⟨h0, h1⟩, ⟨.int n, H', I'.tok _, ⟨_, rfl⟩, q'⟩⟩
end
end Ly
namespace Ly
open PySem PySem.Spec PyProof.Rows L2
section
variable {X : Cx} {CX : CXT} {k i : Nat} {C : Addr} {ps : List Str} {sp : Sp} {E : XK} {x nm : Str} {p pos : Pos} {e : Expr} {es : List Expr} {t : TA}
/-- c(..), the slot holds the class -/
def tMakeL (i : Nat) (C : Addr) (sp : Sp) (E : XK) (t : TA) : TE := fun σ H Q => σ[i]? = some (some (.ref C)) ∧ tMake C sp [] E t σ H Q
theorem pe_mkL (M : CalC X.prog X.w X.K X.mg X.base CX nm C k ps sp) (hr : Room (k + 1) X.A) (hN : X.N[i]? = some x) (hv : Vis X.env.scope x) (hx : Passes CX X E) (ha : PA X (e :: es) t)
    (hdb : (x == ("__debug__" : Str)) = false := by decide) (hcd : (x == ("__classdict__" : Str)) = false := by decide)
    (he : starEach (e :: es) X.env = (false, eval e X.env) :: starEach es X.env := by rfl) (hpl : (backTo pos (starEach es X.env)).any (·.1) = false := by rfl) : PE X (.Call (.Name x p) (e :: es) [] pos) (tMakeL i C sp E t) := by
  refine ⟨fun pins s σ H Q I h => ?_⟩
  obtain ⟨hs, ht⟩ := h
  obtain ⟨f, fd, M, F, hm, hb⟩ := M.ex
  refine wpAny_Call_Name_kw (thn ((pe_var (pos := p) hN hv hdb hcd).run pins s σ H (fun v H1 => v = .ref C ∧ H1 = H) I ⟨.ref C, hs, rfl, rfl⟩) fun u s1 ⟨v, H1, I1, r1, q1⟩ => ?_)
  obtain ⟨rfl, rfl⟩ := q1
  cases r1
  refine PySem.W.callWith_K (h₀ := X.base) I.ok.mod.kin M.kp (thn (ha.run pos pins s1 σ _ _ I1 ht) fun us s2 ⟨vs, H2, I2, r, q⟩ => ⟨I2.kIn, ?_⟩) he hpl
  exact run_make M F hr hb .nil hx I2 r q
end
/-- [y for x in .. for y in t], t a tuple that is known -/
theorem evn_lc2 {K : PySem.W.Frag} {σ : L2.St} {H : Hp} {wi : TI} {ti : TE} {n j j1 : Nat} {vs : List Nat} {Y : Nat → Ty} (L : Nat → List V) (hw : EvW wi σ H n Y) (hwp : ∀ x, wipe ((wipe σ vs).set j (some x)) vs = wipe σ vs) (hj1 : j1 < σ.length)
    (hi : ∀ i x H1, i < n → Gx H H1 → Y i x H1 → EvG ti ((wipe σ vs).set j (some x)) H1 (TupK K (L i))) (hs : ((List.range n).flatMap L).length ≤ 100000) :
    EvN (tLc2 wi (gName j) tYes (iTup K ti) (gName j1) tYes (tVar j1) vs [j1]) σ H (NewL ((List.range n).flatMap L)) := by
  intro H1 e Q q
  refine hw H1 e _ fun J H2 G Y' e2 Wk hG hY => ?_
  intro D hD
  have pre : ∀ i, i < n → ((List.range (i + 1)).flatMap L).length ≤ 100000 := fun i hi => by
    refine Nat.le_trans (List.Sublist.length_le ?_) hs
    obtain ⟨k, rfl⟩ : ∃ k, n = i + 1 + k := ⟨n - (i + 1), by omega⟩
    rw [List.range_add (n := i + 1), List.flatMap_append]
    exact List.sublist_append_left _ _
  refine ⟨fun i m H' => m + i = n ∧ Gx H2 H' ∧ H' D = some (.lst ((List.range i).flatMap L)), ⟨n, rfl, Gx.new hD, upd_same⟩, ?_⟩
  rintro i m H3 ⟨hm, e3, hD3⟩
  by_cases hin : i = n
  · subst hin
    exact .inl ⟨Wk.stops H3 (hG H3 e3), q D H3 (e2.trans e3) (e2.free hD) hD3⟩
  · have hlt : i < n := by omega
    have hp := pre i hlt
    rw [List.range_succ, List.flatMap_append, List.length_append] at hp
    have hl1 : ([i].flatMap L) = L i := by simp
    rw [hl1] at hp
    refine .inr ⟨Wk.goes i H3 hlt (hG H3 e3), fun H' => Gx H2 H' ∧ H' D = some (.lst ((List.range (i + 1)).flatMap L)), fun H' ⟨h1, h2⟩ => ⟨m - 1, by omega, by omega, h1, h2⟩, fun x H4 y => ?_⟩
    obtain ⟨e4, y⟩ := hY i H3 x H4 hlt e3 (Wk.yields i H3 x H4 hlt (hG H3 e3) y)
    have e5 := ((e.trans e2).trans e3).trans e4
    refine ⟨hwp x, ?_⟩
    simp only [tYes, if_true]
    refine hi i x H4 hlt e5 y H4 (Gx.refl _) _ fun v H5 e6 ⟨a, z, ha⟩ => ⟨a, z, ⟨_, ha⟩, ?_⟩
    refine ⟨fun c m' H' => m' + c = (L i).length ∧ Gx H2 H' ∧ Kx H5 H' ∧ H' D = some (.lst ((List.range i).flatMap L ++ (L i).take c)), ⟨(L i).length, rfl, (e3.trans e4).trans e6, Kx.refl _, by
      rw [List.take_zero, List.append_nil]
      exact (e4.trans e6) _ _ hD3⟩, ?_⟩
    rintro c m' H6 ⟨hm', e7, k7, hD6⟩
    by_cases hc : c = (L i).length
    · refine .inl ⟨(walk_tup (xs := L i)).stops H6 (k7.t ha) |> fun z => by rw [hc]; exact z, e7, ?_⟩
      rw [hc, List.take_length] at hD6
      rw [List.range_succ, List.flatMap_append, hl1]
      exact hD6
    · have hc : c < (L i).length := by omega
      refine .inr ⟨(walk_tup (xs := L i)).goes c H6 hc (k7.t ha), fun H' => Gx H2 H' ∧ Kx H5 H' ∧ H' D = some (.lst ((List.range i).flatMap L ++ (L i).take (c + 1))), fun H' ⟨h1, h2, h3⟩ => ⟨m' - 1, by omega, by omega, h1, h2, h3⟩, fun y H7 yy => ?_⟩
      obtain ⟨z7, hy⟩ := (walk_tup (xs := L i)).yields c H6 y H7 hc (k7.t ha) yy
      subst z7
      refine ⟨wipe1, ?_⟩
      refine ⟨y, ?_, _, hD6, Evl.sz_lt (by rw [List.length_append, List.length_take]; omega), e7.mut hD, k7.trans (Kx.put hD6), ?_⟩
      · rw [List.getElem?_set_self]
        rw [wipe_length, List.length_set, wipe_length]
        exact hj1
      · rw [upd_same, List.append_assoc]
        congr 3
        rw [List.take_add_one, hy]
        rfl
end Ly
namespace TM
open PySem L2 Ly
/-- items that are nodes -/
def RowL (H : Hp) (xs : List V) (nds : List Nd) : Prop := xs.length = nds.length ∧ ∀ (i : Nat) (n : Nd), nds[i]? = some n → ∃ p, xs[i]? = some (.ref p) ∧ H p = some (.tup [.str n.1, .int (n.2 : Int)])
theorem rowAt_iff {H : Hp} {a : Addr} {nds : List Nd} : RowAt H a nds ↔ ∃ xs, H a = some (.tup xs) ∧ RowL H xs nds := Iff.rfl
theorem RowL.nil {H : Hp} : RowL H [] [] := ⟨rfl, fun i n h => by cases h⟩
theorem RowL.gx {H H' : Hp} {xs : List V} {nds : List Nd} (e : Gx H H') (h : RowL H xs nds) : RowL H' xs nds := ⟨h.1, fun i n q => by
  obtain ⟨p, h1, h2⟩ := h.2 i n q
  exact ⟨p, h1, e _ _ h2⟩⟩
theorem RowL.app {H : Hp} {xs ys : List V} {nds mds : List Nd} (h : RowL H xs nds) (k : RowL H ys mds) : RowL H (xs ++ ys) (nds ++ mds) := by
  refine ⟨by rw [List.length_append, List.length_append, h.1, k.1], fun i n q => ?_⟩
  by_cases hi : i < nds.length
  · rw [List.getElem?_append_left hi] at q
    rw [List.getElem?_append_left (by rw [h.1]; exact hi)]
    exact h.2 i n q
  · rw [List.getElem?_append_right (by omega)] at q
    rw [List.getElem?_append_right (by rw [h.1]; omega), h.1]
    exact k.2 _ n q
theorem RowL.one {H : Hp} {p : Addr} {n : Nd} (h : H p = some (.tup [.str n.1, .int (n.2 : Int)])) : RowL H [.ref p] [n] := ⟨rfl, fun i m q => by
  cases i with
  | zero => cases q; exact ⟨p, rfl, h⟩
  | succ i => cases q⟩
theorem RowL.flat {H : Hp} {L : Nat → List V} : ∀ (ts : List Tr) (o : Nat), (∀ (i : Nat) (t : Tr), ts[i]? = some t → RowL H (L (o + i)) t.nodes) → RowL H ((List.range' o ts.length).flatMap L) (nodesL ts)
  | [], _, _ => .nil
  | t :: ts, o, h => by
    show RowL H (L o ++ (List.range' (o + 1) ts.length).flatMap L) (t.nodes ++ nodesL ts)
    refine (h 0 t rfl).app (RowL.flat ts (o + 1) fun i u q => ?_)
    have := h (i + 1) u q
    rw [show o + 1 + i = o + (i + 1) by omega]
    exact this
def spTermOf (K : PySem.W.Frag) (C : Addr) : Sp := fun vs H Q _ => ∃ (n : Addr) (t : Tr), vs = [.ref n] ∧ RowAt H n t.nodes ∧ Good t ∧ ∀ p H', Gx H H' → H p = none → TermAt K C H' p t → Q (.ref p) H'
def spLen (K : PySem.W.Frag) (C : Addr) : Sp := fun vs H Q _ => ∃ (a : Addr) (t : Tr), vs = [.ref a] ∧ TermAt K C H a t ∧ ∀ H', Gx H H' → Q (.int (t.size : Int)) H'
/-- a value that is a term, or surely none -/
inductive IsTerm (K : PySem.W.Frag) (C : Addr) (H : Hp) : V → Option Tr → Prop
  | term {a : Addr} {t : Tr} : TermAt K C H a t → IsTerm K C H (.ref a) (some t)
  | none {x : V} {kd : Kd} : Pl K H x kd → kd ≠ .own → IsTerm K C H x none
theorem IsTerm.gx {K : PySem.W.Frag} {C : Addr} {H H' : Hp} {x : V} {o : Option Tr} (e : Gx H H') (h : IsTerm K C H x o) : IsTerm K C H' x o := by
  cases h with
  | term h => exact .term (h.gx e)
  | none p k => exact .none (p.gx e) k
theorem IsTerm.ty {K : PySem.W.Frag} {mg : Str → Option Value} {C CN CI : Addr} (TC : TermC K mg C CN CI) {H : Hp} {x : V} {o : Option Tr} (h : IsTerm K C H x o) : ∃ t, TyX K H x t ∧ PySem.W.kitOne K t (.ref C) = some o.isSome := by
  cases h with
  | term h =>
    obtain ⟨⟨dx, n, c, e, s, u, l, h1, _⟩, _⟩ := h
    exact ⟨_, .base (.ins h1 TC.cl TC.own.ha TC.own.hn TC.own.htk TC.own.hm), TC.isT⟩
  | none p k => exact ⟨_, (kd_ty p k).1, TC.noT _ (kd_ty p k).2⟩
/-- what build is given: the word, the arguments; the term, or none -/
inductive BuildIn (K : PySem.W.Frag) (C : Addr) (H : Hp) : V → List V → Option Tr → Prop
  | word {x : V} {kd : Kd} {xs : List V} : Pl K H x kd → Small x → isNode2 x (.int (xs.length : Int)) = false → BuildIn K C H x xs none
  | arg {x : V} {kd : Kd} {xs : List V} {os : List (Option Tr)} : Pl K H x kd → Small x → isNode2 x (.int (xs.length : Int)) = true → os.length = xs.length → (∀ (i : Nat) (y : V), xs[i]? = some y → ∃ o, os[i]? = some o ∧ IsTerm K C H y o) → os.all Option.isSome = false → BuildIn K C H x xs none
  | made {w : Str} {xs : List V} {ts : List Tr} : w.length ≤ 1000 → isNode2 (.str w) (.int (ts.length : Int)) = true → xs.length = ts.length → (∀ (i : Nat) (t : Tr), ts[i]? = some t → ∃ a, xs[i]? = some (.ref a) ∧ TermAt K C H a t) → Good (.nd w ts) → BuildIn K C H (.str w) xs (some (.nd w ts))
  | bad {w : Str} {xs : List V} {ts : List Tr} : w.length ≤ 1000 → isNode2 (.str w) (.int (ts.length : Int)) = true → xs.length = ts.length → (∀ (i : Nat) (t : Tr), ts[i]? = some t → ∃ a, xs[i]? = some (.ref a) ∧ TermAt K C H a t) → 40 < Tr.size (.nd w ts) ∨ arF (Tr.nodes (.nd w ts)) [] = none → BuildIn K C H (.str w) xs none
def spBuild1 (K : PySem.W.Frag) (C CI : Addr) : Sp := fun vs H Q E => ∃ (x : V) (p : Addr) (xs : List V) (o : Option Tr), vs = [.ref C, x, .ref p] ∧ xs.length ≤ 1000 ∧ H p = some (.tup xs) ∧ BuildIn K C H x xs o ∧
  (∀ t, o = some t → ∀ q H', Gx H H' → H q = none → TermAt K C H' q t → Q (.ref q) H') ∧ (o = none → ∀ H', Gx H H' → E (.ref CI) none H')
end TM
namespace TM
open PySem L2 Ly
theorem evg_callP {σ : L2.St} {H : Hp} {ta : TE} {sp : Sp} {E : XK} {Ψ Φ : Ty} (h : EvG ta σ H Ψ) (k : ∀ v H1, Gx H H1 → Ψ v H1 → ∀ Q : VK, (∀ y H2, Gx H1 H2 → Φ y H2 → Q y H2) → sp [v] H1 Q E) : EvG (tCall sp [] E (tCons ta tNil)) σ H Φ := fun H1 e Q q =>
  h H1 e _ fun u H2 e2 z => k u H2 (e.trans e2) z Q fun y H3 e3 f => q y H3 (e2.trans e3) f
theorem size_nd {ts : List Tr} (h : ∀ t ∈ ts, t.size ≤ 40) : (nodesL ts).length ≤ 40 * ts.length := by
  induction ts with
  | nil => exact Nat.le_refl _
  | cons t ts ih =>
    show (t.nodes ++ nodesL ts).length ≤ 40 * (ts.length + 1)
    rw [List.length_append]
    have h1 := h t (List.mem_cons_self ..)
    have h2 := ih fun u hu => h u (List.mem_cons_of_mem _ hu)
    have e : t.size = t.nodes.length := rfl
    omega
theorem good_nodesL {ts : List Tr} (h : ∀ t ∈ ts, Good t) : ∀ n ∈ nodesL ts, GoodNd n := by
  induction ts with
  | nil => exact fun n hn => by cases hn
  | cons t ts ih =>
    intro n hn
    rcases List.mem_append.mp (show n ∈ t.nodes ++ nodesL ts from hn) with q | q
    · exact (h t (List.mem_cons_self ..)).nodes n q
    · exact ih (fun u hu => h u (List.mem_cons_of_mem _ hu)) n q
/-- a row that is no term's -/
theorem row_bad {K : PySem.W.Frag} {H : Hp} {a : Addr} {t : Tr} (h : RowAt H a t.nodes) (hg : ∀ n ∈ t.nodes, GoodNd n) (hb : 40 < t.size ∨ arF t.nodes [] = none) : RowIn K H (.ref a) false := by
  obtain ⟨xs, h1, h2, h3⟩ := h
  by_cases hs : 40 < t.size
  · exact .size h1 (.inr (by rw [h2]; exact hs))
  · have hb := hb.resolve_left hs
    have := RowIn.nodes (K := K) ⟨xs, h1, h2, h3⟩ ⟨t.size_pos, by show t.size ≤ 40; omega⟩ hg
    rw [hb] at this
    simpa using this
end TM
namespace TM
open PySem L2 Ly
theorem mk_use {σ : L2.St} {H : Hp} {ta : TE} {sp : Sp} {E : XK} {C : Addr} {Ψ : Ty} {Q : VK} (h : EvG ta σ H Ψ) (k : ∀ v H1, Gx H H1 → Ψ v H1 → ∀ x dx, H1 x = none → H1 dx = none → dx ≠ x → sp [.ref x, v] (upd (upd H1 dx (.own x)) x (.ins C dx [])) (fun v H2 => v = .non ∧ Q (.ref x) H2) E) :
    tMake C sp [] E (tCons ta tNil) σ H Q := h H (Gx.refl _) _ fun v H1 e f x dx hx hd hn => k v H1 e f x dx hx hd hn
theorem mkL_use {i : Nat} {σ : L2.St} {H : Hp} {ta : TE} {sp : Sp} {E : XK} {C : Addr} {Ψ : Ty} {Q : VK} (hs : σ[i]? = some (some (.ref C))) (h : EvG ta σ H Ψ) (k : ∀ v H1, Gx H H1 → Ψ v H1 → ∀ x dx, H1 x = none → H1 dx = none → dx ≠ x → sp [.ref x, v] (upd (upd H1 dx (.own x)) x (.ins C dx [])) (fun v H2 => v = .non ∧ Q (.ref x) H2) E) :
    tMakeL i C sp E (tCons ta tNil) σ H Q := ⟨hs, mk_use h k⟩
end TM
namespace Ly
open PySem PySem.Spec PyProof.Rows L2
/-- a classmethod of a class of the text -/
structure CalK (P : Program) (w : World) (K : PySem.W.Frag) (mg : Str → Option Value) (base : Heap) (CX : CXT) (C : Addr) (m : Str) (k : Nat) (sp : Sp) : Prop where
  ex : ∃ (mc : Value) (p g : Addr), ClX.CRead K C mc ∧ ClX.CMet K C mc m p g ∧ FnR P w K mg base CX k g sp
theorem pe_cmt {X : Cx} {CX : CXT} {k : Nat} {C : Addr} {m : Str} {sp : Sp} {E : XK} {o e : Expr} {es : List Expr} {ta : TE} {t : TA} {pos apos : Pos} {pl : Sem Bool} (he : PE X o ta) (M : CalK X.prog X.w X.K X.mg X.base CX C m k sp) (hr : Room k X.A) (hx : Passes CX X E) (ha : PA X (e :: es) t)
    (hst : starEach (e :: es) X.env = (false, eval e X.env) :: starEach es X.env := by rfl) (hpl : (backTo pos (starEach es X.env)).any (·.1) = false := by rfl)
    (ht : eval (.Call (.Attribute o m apos) (e :: es) [] pos) X.env = (do
      let ov ← eval o X.env
      standAt apos.atName
      let (f, first) ← holding [ov] (getMethod ov m pl)
      callWith pos f first (backTo pos (starEach (e :: es) X.env)) (backToKw pos (keywordEach [] X.env))) := by rfl) :
    PE X (.Call (.Attribute o m apos) (e :: es) [] pos) (ClX.tCMeth C sp E ta t) := by
  obtain ⟨mc, p, g, r, c, F⟩ := M.ex
  exact ClX.pe_cmeth (pl := pl) he r c F hr hx ha hst hpl ht
end Ly
namespace TM
open PySem L2 Ly
theorem BuildIn.gx {K : PySem.W.Frag} {C : Addr} {H H' : Hp} {x : V} {xs : List V} {o : Option Tr} (e : Gx H H') (h : BuildIn K C H x xs o) : BuildIn K C H' x xs o := by
  cases h with
  | word p s b => exact .word (p.gx e) s b
  | arg p s b l k a => exact .arg (p.gx e) s b l (fun i y hy => by
      obtain ⟨o, h1, h2⟩ := k i y hy
      exact ⟨o, h1, h2.gx e⟩) a
  | made w b l k g => exact .made w b l (fun i t ht => by
      obtain ⟨a, h1, h2⟩ := k i t ht
      exact ⟨a, h1, h2.gx e⟩) g
  | bad w b l k g => exact .bad w b l (fun i t ht => by
      obtain ⟨a, h1, h2⟩ := k i t ht
      exact ⟨a, h1, h2.gx e⟩) g
def spBuild (K : PySem.W.Frag) (C CI : Addr) : Sp := fun vs H Q E => ∃ (x : V) (xs : List V) (o : Option Tr), vs = .ref C :: x :: xs ∧ xs.length ≤ 1000 ∧ BuildIn K C H x xs o ∧
  (∀ t, o = some t → ∀ q H', Gx H H' → H q = none → TermAt K C H' q t → Q (.ref q) H') ∧ (o = none → ∀ H', Gx H H' → E (.ref CI) none H')
theorem build_of {P : Program} {w : World} {K : PySem.W.Frag} {mg : Str → Option Value} {base : Heap} {CX : CXT} {k : Nat} {f C CI : Addr} (F : FnR P w K mg base CX k f (fun vs H Q E => ∃ ws rest, vs = ws ++ rest ∧ ws.length = ["cls", "word"].length ∧ rest.length ≤ sizeLine ∧ ∀ p, H p = none → spBuild1 K C CI (ws ++ [V.ref p]) (upd H p (.tup rest)) Q E)) :
    FnR P w K mg base CX k f (spBuild K C CI) := F.imp fun vs H Q E ⟨x, xs, o, hv, hl, hb, k1, k2⟩ => ⟨[.ref C, x], xs, hv, rfl, Evl.sz_of (by omega), fun p hp => ⟨x, p, xs, o, rfl, hl, upd_same, hb.gx (Gx.new hp), fun t z q H' e hq ht => k1 t z q H' ((Gx.new hp).trans e) ((Gx.new hp).free hq) ht, fun z H' e => k2 z H' ((Gx.new hp).trans e)⟩⟩
end TM

set_option Elab.async false
set_option maxRecDepth 100000
set_option maxHeartbeats 1000000
/-! Plain terms: tuples of a word and a tuple of plain terms. -/
namespace TM
open PySem L2 Ly
mutual
def PT (H : Hp) : Tr → V → Prop
  | .nd w ts, v => ∃ p q vs, v = .ref p ∧ H p = some (.tup [.str w, .ref q]) ∧ H q = some (.tup vs) ∧ PTL H ts vs
def PTL (H : Hp) : List Tr → List V → Prop
  | [], vs => vs = []
  | t :: ts, vs => ∃ v r, vs = v :: r ∧ PT H t v ∧ PTL H ts r
end
mutual
theorem PT.firm {H H' : Hp} (e : Kx H H') (t : Tr) : ∀ v, PT H t v → PT H' t v := by
  cases t with
  | nd w ts =>
    intro v h
    unfold PT at h ⊢
    obtain ⟨p, q, vs, z, h1, h2, h3⟩ := h
    exact ⟨p, q, vs, z, e.tup h1, e.tup h2, PTL.firm e ts vs h3⟩
theorem PTL.firm {H H' : Hp} (e : Kx H H') (ts : List Tr) : ∀ vs, PTL H ts vs → PTL H' ts vs := by
  cases ts with
  | nil =>
    intro vs h
    unfold PTL at h ⊢
    exact h
  | cons t ts =>
    intro vs h
    unfold PTL at h ⊢
    obtain ⟨v, r, z, h1, h2⟩ := h
    exact ⟨v, r, z, PT.firm e t v h1, PTL.firm e ts r h2⟩
end
theorem PT.gx {H H' : Hp} (e : Gx H H') {t : Tr} {v : V} (h : PT H t v) : PT H' t v := PT.firm e.k t v h
theorem PTL.gx {H H' : Hp} (e : Gx H H') {ts : List Tr} {vs : List V} (h : PTL H ts vs) : PTL H' ts vs := PTL.firm e.k ts vs h
theorem PT.ex {H : Hp} {w : Str} {ts : List Tr} {v : V} (h : PT H (.nd w ts) v) : ∃ p q vs, v = .ref p ∧ H p = some (.tup [.str w, .ref q]) ∧ H q = some (.tup vs) ∧ PTL H ts vs := by
  unfold PT at h
  exact h
theorem PT.mk {H : Hp} {w : Str} {ts : List Tr} {p q : Addr} {vs : List V} (h1 : H p = some (.tup [.str w, .ref q])) (h2 : H q = some (.tup vs)) (h3 : PTL H ts vs) : PT H (.nd w ts) (.ref p) := by
  unfold PT
  exact ⟨p, q, vs, rfl, h1, h2, h3⟩
theorem PTL.nil {H : Hp} : PTL H [] [] := by
  unfold PTL
  rfl
theorem PTL.cons {H : Hp} {t : Tr} {ts : List Tr} {v : V} {vs : List V} (h : PT H t v) (k : PTL H ts vs) : PTL H (t :: ts) (v :: vs) := by
  unfold PTL
  exact ⟨v, vs, rfl, h, k⟩
theorem PTL.len {H : Hp} : ∀ {ts : List Tr} {vs : List V}, PTL H ts vs → vs.length = ts.length
  | [], vs, h => by
    unfold PTL at h
    rw [h]
    rfl
  | t :: ts, vs, h => by
    unfold PTL at h
    obtain ⟨v, r, rfl, _, h⟩ := h
    rw [List.length_cons, List.length_cons, PTL.len h]
theorem PTL.get {H : Hp} : ∀ {ts : List Tr} {vs : List V}, PTL H ts vs → ∀ {i : Nat} {v : V}, vs[i]? = some v → ∃ t, ts[i]? = some t ∧ PT H t v
  | [], vs, h, i, v, q => by
    unfold PTL at h
    subst h
    cases q
  | t :: ts, vs, h, i, v, q => by
    unfold PTL at h
    obtain ⟨x, r, rfl, h1, h2⟩ := h
    cases i with
    | zero => cases q; exact ⟨t, rfl, h1⟩
    | succ i => exact PTL.get h2 (i := i) q
theorem PTL.of {H : Hp} {P : Tr → Prop} : ∀ {vs : List V}, (∀ v ∈ vs, ∃ t, PT H t v ∧ P t) → ∃ ts, PTL H ts vs ∧ ∀ t ∈ ts, P t
  | [], _ => ⟨[], PTL.nil, fun t h => by cases h⟩
  | v :: vs, h => by
    obtain ⟨t, h1, h2⟩ := h v (List.mem_cons_self ..)
    obtain ⟨ts, h3, h4⟩ := PTL.of fun u hu => h u (List.mem_cons_of_mem _ hu)
    refine ⟨t :: ts, h3.cons h1, fun u hu => ?_⟩
    rcases List.mem_cons.mp hu with rfl | hu
    · exact h2
    · exact h4 u hu
/-- words of a table, or leaves -/
def Fit (D : List Nd) (ls : List Str) (t : Tr) : Prop := ∀ n ∈ t.nodes, n ∈ D ∨ (n.1 ∈ ls ∧ n.2 = 0)
theorem mem_nodesL {n : Nd} : ∀ {ts : List Tr}, n ∈ nodesL ts → ∃ t ∈ ts, n ∈ t.nodes
  | t :: ts, h => by
    rcases List.mem_append.mp (show n ∈ t.nodes ++ nodesL ts from h) with q | q
    · exact ⟨t, List.mem_cons_self .., q⟩
    · obtain ⟨u, h1, h2⟩ := mem_nodesL q
      exact ⟨u, List.mem_cons_of_mem _ h1, h2⟩
theorem Fit.nd {D : List Nd} {ls : List Str} {w : Str} {ts : List Tr} (h : (w, ts.length) ∈ D ∨ (w ∈ ls ∧ ts.length = 0)) (k : ∀ t ∈ ts, Fit D ls t) : Fit D ls (.nd w ts) := fun n hn => by
  rcases List.mem_cons.mp (show n ∈ (w, ts.length) :: nodesL ts from hn) with rfl | q
  · exact h
  · obtain ⟨t, h1, h2⟩ := mem_nodesL q
    exact k t h1 n h2
theorem sizeL_le {m : Nat} : ∀ {ts : List Tr}, (∀ t ∈ ts, t.size ≤ m) → (nodesL ts).length ≤ m * ts.length
  | [], _ => Nat.zero_le _
  | t :: ts, h => by
    show (t.nodes ++ nodesL ts).length ≤ m * (ts.length + 1)
    rw [List.length_append, Nat.mul_add, Nat.mul_one]
    have h1 : t.nodes.length ≤ m := h t (List.mem_cons_self ..)
    have h2 := sizeL_le fun u hu => h u (List.mem_cons_of_mem _ hu)
    omega
theorem htL_le {m : Nat} : ∀ {ts : List Tr}, (∀ t ∈ ts, t.ht ≤ m) → htL ts ≤ m + 1
  | [], _ => Nat.zero_le _
  | t :: ts, h => by
    show max (t.ht + 1) (htL ts) ≤ m + 1
    have h1 := h t (List.mem_cons_self ..)
    have h2 := htL_le fun u hu => h u (List.mem_cons_of_mem _ hu)
    omega
/-! specs of the law's own defs -/
def spNodesOf (h : Nat) : Sp := fun vs H Q _ => ∃ (v : V) (t : Tr), vs = [v] ∧ PT H t v ∧ t.ht < h ∧ t.size ≤ 2000 ∧ ∀ p xs H', Gx H H' → H p = none → H' p = some (.lst xs) → RowL H' xs t.nodes → Q (.ref p) H'
structure Sym (D : List Nd) (ls : List Str) : Prop where
  nodup : (D.map (·.1)).Nodup
  len : D.length < 64
  ar : ∀ n ∈ D, n.2 ≤ 3
  con : ∃ w, (w, 0) ∈ D
  ll : ls.length ≤ 100
  lok : ∀ x ∈ ls, PyData.strOk x = true
def spDraw (h : Nat) : Sp := fun vs H Q _ => ∃ (c d l : Addr) (deep : Nat) (D : List Nd) (ls : List Str), vs = [.ref c, .ref d, .ref l, .int (deep : Int)] ∧ H c = some (diceO c) ∧ H d = some (.dK (kvD D)) ∧ H l = some (.lst (ls.map V.str)) ∧ Sym D ls ∧ deep < h ∧ deep ≤ 5 ∧
  ∀ v t H', Gx H H' → PT H' t v → Fit D ls t → t.size ≤ 4 ^ (deep + 1) → t.ht ≤ deep → Q v H'
def spSmall : Sp := fun vs H Q _ => ∃ (c d l : Addr) (deep most : Nat) (D : List Nd) (ls : List Str), vs = [.ref c, .ref d, .ref l, .int (deep : Int), .int (most : Int)] ∧ H c = some (diceO c) ∧ H d = some (.dK (kvD D)) ∧ H l = some (.lst (ls.map V.str)) ∧ Sym D ls ∧ (ls = [] → (("a", 0) : Nd) ∈ D) ∧ deep ≤ 4 ∧ 1 ≤ most ∧
  ∀ v t H', Gx H H' → PT H' t v → Fit D ls t → t.size ≤ most → t.ht ≤ 5 → Q v H'
end TM
namespace TM
open PySem L2 Ly
def LstE (xs : List V) : Ty := fun v H => ∃ p, v = .ref p ∧ H p = some (.lst xs)
theorem LstE.mono {xs : List V} : Mono (LstE xs) := fun _ _ _ e ⟨p, z, h⟩ => ⟨p, z, e _ _ h⟩
def rSortedDk : List V → Hp → VK → Prop := fun xs H Q => ∃ (a : Addr) (kvs : List (Key × V)) (ks : List Str), xs = [.ref a] ∧ Rd H a (.dK kvs) ∧ kvs.map (·.1) = ks.map Sum.inr ∧ ks.length < 64 ∧ ∀ ys p, ys.Perm ks → PyProof.Rows.sortedS ys = true → H p = none → Q (.ref p) (upd H p (.lst (ys.map V.str)))
theorem kcall_sortedD {X : Cx} (hc : X.calm = true) : CallR X (.builtin "sorted") rSortedDk := call_sortedD hc
section
variable {K : PySem.W.Frag} {σ : L2.St} {H : Hp} {ta tb td tl te : TE} {tr : TA} {xs ys : List V} {D : List Nd} {d : Addr}
theorem newl_e (h : EvN te σ H (NewL xs)) : EvG te σ H (LstE xs) := h.g fun p _ _ _ _ _ f => ⟨p, rfl, f⟩
theorem evg_le {l : Addr} (h : EvG te σ H (Eq1 (.ref l))) (hl : H l = some (.lst xs)) : EvG te σ H (LstE xs) := h.imp fun v H2 e z => ⟨l, z, e _ _ hl⟩
theorem evn_catE (ha : EvG ta σ H (LstE xs)) (hb : EvG tb σ H (LstE ys)) (hn : xs.length + ys.length ≤ 100000) : EvN (tOp rCat ta tb) σ H (NewL (xs ++ ys)) := fun H1 e Q q =>
  ha H1 e _ fun _ H2 e2 ⟨a, z, fa⟩ => hb H2 (e.trans e2) _ fun _ H3 e3 ⟨b, z2, fb⟩ => ⟨a, b, xs, ys, z, z2, e3 _ _ fa, fb, Evl.sz_of hn, fun p hp => q p _ ((e2.trans e3).trans (Gx.new hp)) ((e2.trans e3).free hp) upd_same⟩
theorem evn_lstE (h : EvGs tr σ H (fun vs _ => vs = xs)) (hn : xs.length ≤ 100000) : EvN (tLst tr) σ H (NewL xs) :=
  evn_lst h (fun vs _ z => by rw [z]; exact hn) fun vs p _ _ _ z _ _ hp => by
    rw [z] at hp
    exact hp
theorem evg_pickE (hd : EvG td σ H DiceT) (hl : EvG tl σ H (LstE xs)) (hn : 0 < xs.length ∧ xs.length ≤ 100000) : EvG (tCall (spPick K) [] E0 (tCons td (tCons tl tNil))) σ H (fun v _ => v ∈ xs) := fun H1 e Q q =>
  hd H1 e _ fun _ H2 e2 ⟨c, z, hc⟩ => hl H2 (e.trans e2) _ fun _ H3 e3 ⟨l, z2, h⟩ => ⟨c, l, xs, by rw [z, z2]; rfl, e3 _ _ hc, SqL.of h, hn.1, by omega, fun j x hj => q x H3 (e2.trans e3) (List.mem_of_getElem? hj)⟩
theorem evn_sortedD (h : EvG td σ H (Eq1 (.ref d))) (hd : H d = some (.dK (kvD D))) (hl : D.length < 64) : EvN (tCB rSortedDk (tCons td tNil)) σ H (fun p H' => ∃ zs : List Str, zs.Perm (D.map (·.1)) ∧ PyProof.Rows.sortedS zs = true ∧ H' p = some (.lst (zs.map V.str))) := fun H1 e Q q =>
  h H1 e _ fun v H2 e2 z => ⟨d, kvD D, D.map (·.1), by rw [show v = .ref d from z], .inl ((e.trans e2) _ _ hd), by unfold kvD; rw [List.map_map, List.map_map]; rfl, by rw [List.length_map]; exact hl, fun zs p h1 h2 hp => q p _ (e2.trans (Gx.new hp)) (e2.free hp) ⟨zs, h1, h2, upd_same⟩⟩
theorem evg_dgetS {w : Str} {a : Nat} (h : EvG td σ H (Eq1 (.ref d))) (hk : EvG ta σ H (Eq1 (.str w))) (hd : H d = some (.dK (kvD D))) (hw : D.lookup w = some a) : EvG (tDGet td ta) σ H (IntT fun i => i = (a : Int)) := fun H1 e Q q =>
  h H1 e _ fun v H2 e2 z => hk H2 (e.trans e2) _ fun u H3 e3 z2 => ⟨d, .int (a : Int), z, .inl ⟨kvD D, Sum.inr w, .inl (((e.trans e2).trans e3) _ _ hd), (by rw [show u = .str w from z2]; rfl), by rw [kvD_val, hw]; rfl⟩, q _ H3 (e2.trans e3) ⟨_, rfl, rfl⟩⟩
/-- [w for w in .. if ..], texts -/
theorem evn_lcS {wi : TI} {tt : TT} {j : Nat} {zs : List Str} {P : Str → Bool} (hw : EvW wi σ H zs.length (fun i x _ => (zs.map V.str)[i]? = some x)) (hn : zs.length ≤ 100000) (hj : j < σ.length)
    (ht : ∀ w ∈ zs, ∀ H1, Gx H H1 → EvB tt ((wipe σ [j]).set j (some (.str w))) H1 (fun b => b = P w)) : EvN (tLc wi (gName j) tt (tVar j) [j]) σ H (NewL ((zs.filter P).map V.str)) := by
  have hx : ∀ {i : Nat} {x : V}, (zs.map V.str)[i]? = some x → x = .str (zs.getD i "") ∧ zs.getD i "" ∈ zs := fun {i x} h => by
    rw [List.getElem?_map] at h
    cases q : zs[i]? with
    | none => rw [q] at h; cases h
    | some z =>
      rw [q] at h
      cases h
      rw [List.getD_eq_getElem?_getD, q]
      exact ⟨rfl, List.mem_of_getElem? q⟩
  intro H1 e Q q
  refine evn_lcN (B := fun i b => b = P (zs.getD i "")) (R := fun i => Eq1 (.str (zs.getD i ""))) hw hn (fun _ _ _ _ _ h => h) (fun i x H1 hi e1 hh => ?_) (fun i x H1 hi e1 hh _ => ?_) (fun _ => Eq1.firm) H1 e Q fun p H2 e2 n2 ⟨ys, h, L⟩ => ?_
  · obtain ⟨h1, h2⟩ := hx hh
    rw [h1]
    exact ht _ h2 H1 e1
  · rw [(hx hh).1]
    exact evg_ve (by
      rw [List.getElem?_set_self]
      rw [wipe_length]
      exact hj)
  · have := L.det (f := fun i => P (zs.getD i "")) (v := fun i => .str (zs.getD i "")) (fun i b _ h => h) fun i y _ h => h
    refine q p H2 e2 n2 ?_
    show H2 p = some (.lst ((zs.filter P).map V.str))
    rw [h, this]
    congr 2
    have e3 : zs = (List.range zs.length).map (fun i => zs.getD i "") := (range_getD zs "").symm
    conv => rhs; rw [e3]
    rw [List.filter_map, List.map_map]
    rfl
end
end TM
namespace TM
open PySem L2 Ly
section
variable {K : PySem.W.Frag} {σ : L2.St} {H : Hp} {ta tb td tl te : TE} {tt tu : TT} {g : TG} {vs : List Nat} {D : List Nd} {d : Addr}
theorem evn_lcX {Ψ Φ : Addr → Hp → Prop} (h : EvN tl σ H Ψ) (k : ∀ p H1, Gx H H1 → Ψ p H1 → (∃ xs, SqL K H1 p xs) ∧ EvN (tLc (fun _ H R => R (Itl K p) H) g tt te vs) σ H1 Φ) : EvN (tLc (iList K tl) g tt te vs) σ H Φ := by
  intro H1 e Q q
  refine h H1 e _ fun p H2 e2 n2 f => ?_
  obtain ⟨hx, kk⟩ := k p H2 (e.trans e2) f
  exact ⟨p, rfl, hx, kk H2 (Gx.refl _) Q fun r H3 e3 n3 f => q r H3 (e2.trans e3) (e2.free n3) f⟩
theorem evw_itl {p : Addr} {xs : List V} (h : SqL K H p xs) : EvW (fun _ H R => R (Itl K p) H) σ H xs.length (fun i x _ => xs[i]? = some x) := fun H1 e R q =>
  q (Itl K p) H1 _ _ (Gx.refl _) (walk_list (xs := xs)) (fun H3 e3 => e3.l (e.l h)) fun i H3 x H4 _ _ ⟨z, hx⟩ => by
    subst z
    exact ⟨Gx.refl _, hx⟩
/-- [w for w in sorted(d) if ..] -/
theorem evn_lcSD {j : Nat} {P : Str → Bool} (h : EvG td σ H (Eq1 (.ref d))) (hd : H d = some (.dK (kvD D))) (hl : D.length < 64) (hj : j < σ.length) (ht : ∀ w ∈ D.map (·.1), ∀ H1, Gx H H1 → EvB tt ((wipe σ [j]).set j (some (.str w))) H1 (fun b => b = P w)) :
    EvN (tLc (iList K (tCB rSortedDk (tCons td tNil))) (gName j) tt (tVar j) [j]) σ H (fun p H' => ∃ zs : List Str, zs.Perm (D.map (·.1)) ∧ H' p = some (.lst ((zs.filter P).map V.str))) :=
  evn_lcX (evn_sortedD h hd hl) fun p H1 e1 ⟨zs, h1, _, h3⟩ => ⟨⟨_, SqL.of h3⟩, by
    have hw := evw_itl (σ := σ) (SqL.of (K := K) h3)
    rw [List.length_map] at hw
    exact fun H2 e2 Q q => evn_lcS (P := P) hw (by rw [h1.length_eq, List.length_map]; omega) hj (fun w hw H3 e3 => ht w (h1.mem_iff.mp hw) H3 (e1.trans e3)) H2 e2 Q fun r H3 e3 n3 f => q r H3 e3 n3 ⟨zs, h1, f⟩⟩
theorem evb_orR {R1 R2 R : Bool → Prop} (h1 : EvB tt σ H R1) (h2 : R1 false → ∀ H1, Gx H H1 → EvB tu σ H1 R2) (m1 : R1 true → R true) (m2 : R1 false → ∀ b, R2 b → R b) : EvB (tOr tt tu) σ H R := fun H1 e Q q =>
  h1 H1 e _ fun b H2 e2 f => by
    cases b with
    | true => exact iteT (q true H2 e2 (m1 f))
    | false => exact iteF (h2 f H2 (e.trans e2) H2 (Gx.refl _) _ fun c H3 e3 r => q c H3 (e2.trans e3) (m2 f c r))
theorem evg_eqI {a b : Int} (ha : EvG ta σ H (IntT fun i => i = a)) (hb : EvG tb σ H (IntT fun i => i = b)) : EvG (tOp rEq ta tb) σ H (BlE (decide (a = b))) := fun H1 e Q q =>
  ha H1 e _ fun v H2 e2 ⟨i, z, hi⟩ => hb H2 (e.trans e2) _ fun u H3 e3 ⟨j, z2, hj⟩ => by
    subst z z2
    refine ⟨rfl, q _ H3 (e2.trans e3) ⟨_, rfl, ?_⟩⟩
    rw [hi, hj]
    by_cases h : a = b
    · rw [h, decide_eq_true rfl, decide_eq_true rfl]
    · rw [decide_eq_false h, decide_eq_false fun z => h (by injection z)]
theorem evg_eqIx {R : Bool → Prop} {P1 : Int → Prop} {b : Int} (ha : EvG ta σ H (IntT P1)) (hb : EvG tb σ H (IntT fun i => i = b)) (m : ∀ c, R c) : EvG (tOp rEq ta tb) σ H (BlT R) := fun H1 e Q q =>
  ha H1 e _ fun v H2 e2 ⟨i, z, hi⟩ => hb H2 (e.trans e2) _ fun u H3 e3 ⟨j, z2, hj⟩ => by
    subst z z2
    exact ⟨rfl, q _ H3 (e2.trans e3) ⟨_, rfl, m _⟩⟩
end
end TM
namespace Ly
open PySem L2
theorem Dp.strs {K : PySem.W.Frag} {H : Hp} : ∀ (l : List Str), DpAll K H (l.map V.str) (l.map PyData.str)
  | [] => .nil
  | n :: l => .cons (.str _) (Dp.strs l)
theorem strs_lay : ∀ (l : List Str), (∀ x ∈ l, PyData.strOk x = true) → PyData.canLayAll0 (l.map PyData.str) = true ∧ PyData.depthAll (l.map PyData.str) = 0
  | [], _ => ⟨by simp [PyData.canLayAll0], by simp [PyData.depthAll]⟩
  | n :: l, h => by
    obtain ⟨h1, h2⟩ := strs_lay l fun x hx => h x (List.mem_cons_of_mem _ hx)
    have h3 := h n (List.mem_cons_self ..)
    exact ⟨by simp [PyData.canLayAll0, PyData.canLay0, h1, h3], by simp [PyData.depthAll, PyData.depth, h2]⟩
theorem strs_shaped (l : List Str) (h : ∀ x ∈ l, PyData.strOk x = true) : SeqAt.shaped (.list (l.map PyData.str)) = true := by
  obtain ⟨h1, h2⟩ := strs_lay l h
  unfold SeqAt.shaped
  simp [PyData.canLay0, PyData.depth, h1, h2]
end Ly

set_option Elab.async false
set_option maxRecDepth 100000
/-! Rows of nodes counted from the left. -/
namespace TM
open PySem L2 Ly
def wantF : List Nd → Nat → Bool
  | [], k => decide (k = 0)
  | (_, a) :: r, k => decide (1 ≤ k) && wantF r (k + a - 1)
theorem nodesL_cons (w : Str) (us ts : List Tr) : nodesL (.nd w us :: ts) = (w, us.length) :: nodesL (us ++ ts) := by
  rw [nodesL_app]
  show ((w, us.length) :: nodesL us) ++ nodesL ts = _
  rw [List.cons_append]
theorem wantF_iff : ∀ (nds : List Nd) (k : Nat), wantF nds k = true ↔ ∃ ts : List Tr, ts.length = k ∧ nds = nodesL ts
  | [], k => by
    constructor
    · intro h
      have h : k = 0 := of_decide_eq_true h
      exact ⟨[], h.symm, rfl⟩
    · rintro ⟨ts, rfl, h⟩
      cases ts with
      | nil => rfl
      | cons t ts =>
        cases t with
        | nd w us =>
          rw [nodesL_cons] at h
          cases h
  | (w, a) :: r, k => by
    show (decide (1 ≤ k) && wantF r (k + a - 1)) = true ↔ _
    rw [Bool.and_eq_true, wantF_iff r (k + a - 1)]
    constructor
    · rintro ⟨h1, us, h2, rfl⟩
      have h1 : 1 ≤ k := of_decide_eq_true h1
      refine ⟨.nd w (us.take a) :: us.drop a, by rw [List.length_cons, List.length_drop]; omega, ?_⟩
      rw [nodesL_cons, List.take_append_drop, List.length_take, Nat.min_eq_left (by omega)]
    · rintro ⟨ts, rfl, h⟩
      cases ts with
      | nil => cases h
      | cons t ts =>
        cases t with
        | nd v us =>
          rw [nodesL_cons] at h
          injection h with h1 h2
          injection h1 with h3 h4
          refine ⟨decide_eq_true (by rw [List.length_cons]; omega), us ++ ts, ?_, h2⟩
          rw [List.length_append, List.length_cons]
          omega
theorem wantF_chOf (nds : List Nd) : (chOf nds).isSome = wantF nds 1 := by
  rw [Bool.eq_iff_iff]
  rw [wantF_iff]
  constructor
  · intro h
    obtain ⟨cs, h⟩ := Option.isSome_iff_exists.mp h
    obtain ⟨t, h1, _⟩ := chOf_tree h
    refine ⟨[t], rfl, ?_⟩
    rw [h1]
    show _ = t.nodes ++ []
    rw [List.append_nil]
  · rintro ⟨ts, h1, h2⟩
    match ts, h1 with
    | [t], _ =>
      rw [h2]
      show (chOf (t.nodes ++ [])).isSome = true
      rw [List.append_nil, t.chOf]
      rfl
/-- as the law looks at a row -/
def lawF : List Nd → Int → List Nd → Bool
  | [], k, _ => decide (k = 0)
  | (w, a) :: r, k, acc => if k < 1 ∨ (acc.lookup w).getD a ≠ a then false else lawF r (k + a - 1) (if (acc.lookup w).isSome then acc else acc ++ [(w, a)])
theorem lawF_eq : ∀ (nds : List Nd) (k : Nat) (acc : List Nd), lawF nds (k : Int) acc = (wantF nds k && (arF nds acc).isSome)
  | [], k, acc => by
    show decide ((k : Int) = 0) = (decide (k = 0) && true)
    rw [Bool.and_true]
    by_cases h : k = 0
    · rw [decide_eq_true h, decide_eq_true (by omega)]
    · rw [decide_eq_false h, decide_eq_false (by omega)]
  | (w, a) :: r, k, acc => by
    show (if (k : Int) < 1 ∨ (acc.lookup w).getD a ≠ a then false else lawF r ((k : Int) + a - 1) (if (acc.lookup w).isSome then acc else acc ++ [(w, a)])) = ((decide (1 ≤ k) && wantF r (k + a - 1)) && (match acc.lookup w with
      | none => arF r (acc ++ [(w, a)])
      | some b => if b = a then arF r acc else none).isSome)
    by_cases hk : 1 ≤ k
    · have hkk : ¬ (k : Int) < 1 := by omega
      have e : (k : Int) + a - 1 = ((k + a - 1 : Nat) : Int) := by omega
      rw [decide_eq_true hk, Bool.true_and, e]
      cases q : acc.lookup w with
      | none =>
        rw [if_neg (by simp [hkk])]
        simp only [Option.isSome_none, Bool.false_eq_true, if_false]
        exact lawF_eq r _ _
      | some b =>
        by_cases hb : b = a
        · subst hb
          rw [if_neg (by simp [hkk])]
          simp only [Option.isSome_some, if_true]
          exact lawF_eq r _ _
        · rw [if_pos (.inr (by simpa using hb))]
          simp [hb]
    · rw [if_pos (.inl (by omega)), decide_eq_false hk]
      rfl
theorem lawF_row (nds : List Nd) : lawF nds 1 [] = ((chOf nds).isSome && (arF nds []).isSome) := by
  have := lawF_eq nds 1 []
  rw [wantF_chOf]
  exact this
/-- words of a table with one arity each -/
theorem arF_fit {T : List Nd} (hf : ∀ w a b, (w, a) ∈ T → (w, b) ∈ T → a = b) : ∀ (nds acc : List Nd), (∀ n ∈ nds, n ∈ T) → (∀ n ∈ acc, n ∈ T) → ∃ l, arF nds acc = some l
  | [], acc, _, _ => ⟨acc, rfl⟩
  | (w, a) :: r, acc, h1, h2 => by
    have hr : ∀ n ∈ r, n ∈ T := fun n hn => h1 n (List.mem_cons_of_mem _ hn)
    have hw := h1 (w, a) (List.mem_cons_self ..)
    show ∃ l, (match acc.lookup w with
      | none => arF r (acc ++ [(w, a)])
      | some b => if b = a then arF r acc else none) = some l
    cases q : acc.lookup w with
    | none =>
      refine arF_fit hf r _ hr fun n hn => ?_
      rcases List.mem_append.mp hn with z | z
      · exact h2 n z
      · have : n = (w, a) := by simpa using z
        rw [this]
        exact hw
    | some b =>
      have := hf w b a (h2 _ (lookup_mem q)) hw
      rw [this]
      simp only [if_true]
      exact arF_fit hf r acc hr h2
end TM
namespace TM
open PySem L2 Ly
/-- the words that the laws draw -/
def D0 : List Nd := [("a", 0), ("bb", 0), ("f", 2), ("k", 1), ("cons", 3)]
def L0 : List Str := ["_", "#"]
def T0 : List Nd := [("a", 0), ("bb", 0), ("f", 2), ("k", 1), ("cons", 3), ("_", 0), ("#", 0)]
theorem sym0 : Sym D0 L0 := ⟨by decide +kernel, by decide, by decide, ⟨"a", by decide⟩, by decide, by decide +kernel⟩
theorem fit0 {t : Tr} (h : Fit D0 L0 t) : ∀ n ∈ t.nodes, n ∈ T0 := fun n hn => by
  rcases h n hn with h | ⟨h1, h2⟩
  · have : ∀ n ∈ D0, n ∈ T0 := by decide +kernel
    exact this n h
  · obtain ⟨w, a⟩ := n
    have h2 : a = 0 := h2
    subst h2
    have h1 : w ∈ (["_", "#"] : List Str) := h1
    simp only [List.mem_cons, List.not_mem_nil, or_false] at h1
    rcases h1 with rfl | rfl
    · exact (by decide +kernel : (("_", 0) : Nd) ∈ T0)
    · exact (by decide +kernel : (("#", 0) : Nd) ∈ T0)
theorem fun0 : ∀ w a b, ((w, a) : Nd) ∈ T0 → ((w, b) : Nd) ∈ T0 → a = b := fun w a b h1 h2 => by
  have : ∀ x ∈ T0, ∀ y ∈ T0, x.1 = y.1 → x.2 = y.2 := by decide +kernel
  exact this _ h1 _ h2 rfl
theorem good0 : ∀ n ∈ T0, GoodNd n := by
  unfold GoodNd
  decide +kernel
theorem Good.fit {t : Tr} (h : Fit D0 L0 t) (hs : t.size ≤ 40) : Good t := ⟨fun n hn => good0 n (fit0 h n hn), hs, arF_fit fun0 _ _ (fit0 h) fun n hn => by cases hn⟩
def spDrawn : Sp := fun vs H Q _ => ∃ (c : Addr) (deep : Nat), vs = [.ref c, .int (deep : Int)] ∧ H c = some (diceO c) ∧ deep ≤ 4 ∧ ∀ v t H', Gx H H' → PT H' t v → Fit D0 L0 t → t.size ≤ 40 → t.ht ≤ 5 → Q v H'
def spMade (K : PySem.W.Frag) (C : Addr) : Sp := fun vs H Q _ => ∃ (v : V) (t : Tr), vs = [v] ∧ PT H t v ∧ t.ht ≤ 5 ∧ Good t ∧ ∀ p H', Gx H H' → H p = none → TermAt K C H' p t → Q (.ref p) H'
end TM

set_option Elab.async false
set_option maxRecDepth 100000
/-! Plain: two readers of terms. -/
namespace TM
open PySem L2 Ly
def isL (c : Nat) : Bool := decide (c ∈ letters)
abbrev lab (w : Str) : List Nat := w.cps.toList
def mkS (l : List Nat) : Str := ⟨l.toArray⟩
theorem lab_mk (l : List Nat) : lab (mkS l) = l := by simp [lab, mkS]
theorem mk_lab (w : Str) : mkS (lab w) = w := by simp [lab, mkS]
theorem lab_inj {a b : Str} (h : lab a = lab b) : a = b := by rw [← mk_lab a, ← mk_lab b, h]
theorem lab_app (a b : Str) : lab (a ++ b) = lab a ++ lab b := by show (a.cps ++ b.cps).toList = _; rw [Array.toList_append]
mutual
def Tr.tx : Tr → List Nat
  | .nd w [] => lab w
  | .nd w (t :: ts) => lab w ++ 40 :: (t.tx ++ txR ts)
def txR : List Tr → List Nat
  | [] => [41]
  | t :: ts => 44 :: 32 :: (t.tx ++ txR ts)
end
mutual
def Tr.tk : Tr → List Str
  | .nd w [] => [w]
  | .nd w (t :: ts) => w :: mkS [40] :: (t.tk ++ tkR ts)
def tkR : List Tr → List Str
  | [] => [mkS [41]]
  | t :: ts => mkS [44, 32] :: (t.tk ++ tkR ts)
end
/-! ### tokens -/
def LabT (w : Str) : Prop := (lab w ≠ [] ∧ (lab w).all isL = true) ∨ lab w = [95] ∨ lab w = [35]
theorem drop_len (p : Nat → Bool) : ∀ l : List Nat, (l.dropWhile p).length ≤ l.length
  | [] => Nat.le_refl _
  | c :: l => by
    rw [List.dropWhile_cons]
    split
    · have := drop_len p l
      rw [List.length_cons]
      omega
    · exact Nat.le_refl _
def tokF (l : List Nat) : Option (List Str) :=
  match l with
  | [] => some []
  | c :: cs =>
    if isL c = true then (tokF (cs.dropWhile isL)).map fun r => mkS (c :: cs.takeWhile isL) :: r
    else if c = 44 ∧ cs.head? = some 32 then (tokF (cs.drop 1)).map fun r => mkS [44, 32] :: r
    else if c = 95 ∨ c = 35 ∨ c = 40 ∨ c = 41 then (tokF cs).map fun r => mkS [c] :: r
    else none
termination_by l.length
decreasing_by
  · have := drop_len isL cs
    simp only [List.length_cons]
    omega
  · simp only [List.length_cons, List.length_drop]
    omega
  · simp only [List.length_cons]
    omega
def NoL (r : List Nat) : Prop := ∀ c, r.head? = some c → isL c = false
theorem take_all {l r : List Nat} (h : l.all isL = true) (hr : NoL r) : (l ++ r).takeWhile isL = l ∧ (l ++ r).dropWhile isL = r := by
  induction l with
  | nil =>
    cases r with
    | nil => exact ⟨rfl, rfl⟩
    | cons c r =>
      have := hr c rfl
      rw [List.nil_append, List.takeWhile_cons, List.dropWhile_cons, this]
      exact ⟨rfl, rfl⟩
  | cons c l ih =>
    rw [List.all_cons, Bool.and_eq_true] at h
    obtain ⟨a, b⟩ := ih h.2
    rw [List.cons_append, List.takeWhile_cons, List.dropWhile_cons, h.1]
    exact ⟨by rw [if_pos rfl, a], by rw [if_pos rfl, b]⟩
theorem isL_signs : isL 95 = false ∧ isL 35 = false ∧ isL 40 = false ∧ isL 41 = false ∧ isL 44 = false ∧ isL 32 = false := by decide +kernel
theorem tok_sign {c : Nat} (r : List Nat) (h : c = 95 ∨ c = 35 ∨ c = 40 ∨ c = 41) : tokF (c :: r) = (tokF r).map fun q => mkS [c] :: q := by
  have s := isL_signs
  have h1 : isL c = false := by rcases h with rfl | rfl | rfl | rfl <;> first | exact s.1 | exact s.2.1 | exact s.2.2.1 | exact s.2.2.2.1
  have h2 : ¬ (c = 44 ∧ r.head? = some 32) := by rintro ⟨rfl, _⟩; rcases h with h | h | h | h <;> cases h
  rw [tokF, h1, if_neg (by simp), if_neg h2, if_pos h]
theorem tok_sep (r : List Nat) : tokF (44 :: 32 :: r) = (tokF r).map fun q => mkS [44, 32] :: q := by
  rw [tokF, isL_signs.2.2.2.2.1, if_neg (by simp), if_pos ⟨rfl, rfl⟩]
  rfl
theorem tok_word {w : Str} {r : List Nat} (h : LabT w) (hr : NoL r) : tokF (lab w ++ r) = (tokF r).map fun q => w :: q := by
  rcases h with ⟨h0, h⟩ | h | h
  · cases q : lab w with
    | nil => exact absurd q h0
    | cons c l =>
      rw [q, List.all_cons, Bool.and_eq_true] at h
      obtain ⟨a, b⟩ := take_all h.2 hr
      rw [List.cons_append, tokF, if_pos h.1, a, b, ← q, mk_lab]
  · rw [h, List.singleton_append, tok_sign r (.inl rfl), ← h, mk_lab]
  · rw [h, List.singleton_append, tok_sign r (.inr (.inl rfl)), ← h, mk_lab]
theorem noL_of {c : Nat} {r : List Nat} (h : isL c = false) : NoL (c :: r) := fun d hd => by
  cases hd
  exact h
theorem txR_noL (ts : List Tr) (r : List Nat) : NoL (txR ts ++ r) := by
  cases ts with
  | nil => exact noL_of isL_signs.2.2.2.1
  | cons t ts => exact noL_of isL_signs.2.2.2.2.1
mutual
theorem Tr.tok_tx (t : Tr) : t.All LabT → ∀ r, NoL r → tokF (t.tx ++ r) = (tokF r).map fun q => t.tk ++ q := by
  intro h r hr
  match t, h with
  | .nd w [], h => exact tok_word h.1 hr
  | .nd w (t :: ts), h =>
    show tokF ((lab w ++ 40 :: (t.tx ++ txR ts)) ++ r) = (tokF r).map fun q => (w :: mkS [40] :: (t.tk ++ tkR ts)) ++ q
    rw [List.append_assoc, tok_word h.1 (r := 40 :: (t.tx ++ txR ts) ++ r) (noL_of isL_signs.2.2.1), List.cons_append, tok_sign _ (.inr (.inr (.inl rfl))), List.append_assoc, Tr.tok_tx t h.2.1 _ (txR_noL ts r), tok_R ts h.2.2 r]
    cases tokF r with
    | none => rfl
    | some q => simp
theorem tok_R (ts : List Tr) : AllL LabT ts → ∀ r, tokF (txR ts ++ r) = (tokF r).map fun q => tkR ts ++ q := by
  intro h r
  match ts, h with
  | [], _ => exact tok_sign r (.inr (.inr (.inr rfl)))
  | t :: ts, h =>
    show tokF (44 :: 32 :: (t.tx ++ txR ts) ++ r) = (tokF r).map fun q => (mkS [44, 32] :: (t.tk ++ tkR ts)) ++ q
    rw [List.cons_append, List.cons_append, tok_sep, List.append_assoc, Tr.tok_tx t h.1 _ (txR_noL ts r), tok_R ts h.2 r]
    cases tokF r with
    | none => rfl
    | some q => simp
end
theorem tok_back : ∀ (n : Nat) (l : List Nat) (zs : List Str), l.length ≤ n → tokF l = some zs → zs.flatMap lab = l
  | n, [], zs, _, h => by
    rw [tokF] at h
    cases h
    rfl
  | n + 1, c :: cs, zs, hn, h => by
    rw [List.length_cons] at hn
    rw [tokF] at h
    by_cases h1 : isL c = true
    · rw [if_pos h1] at h
      obtain ⟨q, hq, rfl⟩ := Option.map_eq_some_iff.mp h
      have := drop_len isL cs
      rw [List.flatMap_cons, lab_mk, tok_back n _ q (by omega) hq, List.cons_append, List.takeWhile_append_dropWhile]
    · rw [if_neg h1] at h
      by_cases h2 : c = 44 ∧ cs.head? = some 32
      · rw [if_pos h2] at h
        obtain ⟨q, hq, rfl⟩ := Option.map_eq_some_iff.mp h
        obtain ⟨rfl, h3⟩ := h2
        cases cs with
        | nil => cases h3
        | cons d ds =>
          cases h3
          rw [List.flatMap_cons, lab_mk, tok_back n _ q (by rw [List.length_cons] at hn; simp; omega) hq]
          rfl
      · rw [if_neg h2] at h
        by_cases h3 : c = 95 ∨ c = 35 ∨ c = 40 ∨ c = 41
        · rw [if_pos h3] at h
          obtain ⟨q, hq, rfl⟩ := Option.map_eq_some_iff.mp h
          rw [List.flatMap_cons, lab_mk, tok_back n _ q (by omega) hq]
          rfl
        · rw [if_neg h3] at h
          cases h
end TM

set_option Elab.async false
set_option maxRecDepth 100000
/-! Plain: the reader that takes tokens. -/
namespace TM
open PySem L2 Ly
structure RS where
  nodes : List Nd
  opn : List Nat
  wants : Bool
  last : Str
def isSign (z : Str) : Bool := decide (z = mkS [40] ∨ z = mkS [41] ∨ z = mkS [44, 32])
def bump (nds : List Nd) (i : Nat) : List Nd := match nds[i]? with
  | some n => nds.set i (n.1, n.2 + 1)
  | none => nds
def takeF (s : RS) (z : Str) : Option RS :=
  if isSign z = false then (if s.wants = true then some ⟨s.nodes ++ [(z, 0)], s.opn, false, z⟩ else none)
  else if z = mkS [40] then (if s.wants = false ∧ isSign s.last = false then some ⟨s.nodes, s.opn ++ [s.nodes.length - 1], true, z⟩ else none)
  else match s.opn.getLast? with
    | none => none
    | some i => if s.wants = true then none else some ⟨bump s.nodes i, if z = mkS [44, 32] then s.opn else s.opn.dropLast, decide (z = mkS [44, 32]), z⟩
def runF : RS → List Str → Option RS
  | s, [] => some s
  | s, z :: zs => (takeF s z).bind fun s' => runF s' zs
def rs0 : RS := ⟨[], [], true, mkS []⟩
theorem run_app : ∀ (zs ys : List Str) (s : RS), runF s (zs ++ ys) = (runF s zs).bind fun s' => runF s' ys
  | [], _, _ => rfl
  | z :: zs, ys, s => by
    show (takeF s z).bind _ = ((takeF s z).bind _).bind _
    cases takeF s z with
    | none => rfl
    | some s' => exact run_app zs ys s'
theorem take_word {s : RS} {z : Str} (h : isSign z = false) (hw : s.wants = true) : takeF s z = some ⟨s.nodes ++ [(z, 0)], s.opn, false, z⟩ := by
  unfold takeF
  rw [if_pos h, if_pos hw]
theorem sign1 : isSign (mkS [40]) = true := by decide +kernel
theorem sign2 : isSign (mkS [41]) = true := by decide +kernel
theorem sign3 : isSign (mkS [44, 32]) = true := by decide +kernel
theorem ne12 : mkS [41] ≠ mkS [40] := by decide +kernel
theorem ne32 : mkS [44, 32] ≠ mkS [40] := by decide +kernel
theorem ne13 : mkS [41] ≠ mkS [44, 32] := by decide +kernel
theorem take_open {s : RS} (hw : s.wants = false) (hl : isSign s.last = false) : takeF s (mkS [40]) = some ⟨s.nodes, s.opn ++ [s.nodes.length - 1], true, mkS [40]⟩ := by
  unfold takeF
  rw [if_neg (by rw [sign1]; simp), if_pos rfl, if_pos ⟨hw, hl⟩]
theorem take_sep {s : RS} {O : List Nat} {i : Nat} (hw : s.wants = false) (ho : s.opn = O ++ [i]) : takeF s (mkS [44, 32]) = some ⟨bump s.nodes i, O ++ [i], true, mkS [44, 32]⟩ := by
  unfold takeF
  rw [if_neg (by rw [sign3]; simp), if_neg ne32, ho, List.getLast?_append, List.getLast?_singleton]
  show (if s.wants = true then none else _) = _
  rw [hw, if_neg (by simp), if_pos rfl, decide_eq_true rfl]
theorem take_shut {s : RS} {O : List Nat} {i : Nat} (hw : s.wants = false) (ho : s.opn = O ++ [i]) : takeF s (mkS [41]) = some ⟨bump s.nodes i, O, false, mkS [41]⟩ := by
  unfold takeF
  rw [if_neg (by rw [sign2]; simp), if_neg ne12, ho, List.getLast?_append, List.getLast?_singleton]
  show (if s.wants = true then none else _) = _
  rw [hw, if_neg (by simp), if_neg ne13, decide_eq_false ne13, List.dropLast_concat]
/-! ### every tree is read -/
mutual
theorem Tr.run_tk (t : Tr) : t.All (fun w => isSign w = false) → ∀ (s : RS) (zs : List Str), s.wants = true → ∃ s', runF s (t.tk ++ zs) = runF s' zs ∧ s'.nodes = s.nodes ++ t.nodes ∧ s'.opn = s.opn ∧ s'.wants = false := by
  intro h s zs hw
  match t, h with
  | .nd w [], h =>
    refine ⟨⟨s.nodes ++ [(w, 0)], s.opn, false, w⟩, ?_, rfl, rfl, rfl⟩
    show (takeF s w).bind _ = _
    rw [take_word h.1 hw]
    rfl
  | .nd w (t :: ts), h =>
    obtain ⟨s3, r3, n3, o3, w3⟩ := Tr.run_tk t h.2.1 ⟨s.nodes ++ [(w, 0)], s.opn ++ [(s.nodes ++ [(w, 0)]).length - 1], true, mkS [40]⟩ (tkR ts ++ zs) rfl
    have hn : (s.nodes ++ [(w, 0)]).length - 1 = s.nodes.length := by rw [List.length_append]; rfl
    rw [hn] at o3
    obtain ⟨s4, r4, n4, o4, w4⟩ := run_R ts h.2.2 s3 zs s.opn s.nodes.length w 0 w3 o3 (by
      rw [n3]
      show ((s.nodes ++ [(w, 0)]) ++ t.nodes)[s.nodes.length]? = _
      rw [List.append_assoc, List.getElem?_append_right (Nat.le_refl _), Nat.sub_self]
      rfl)
    refine ⟨s4, ?_, ?_, o4, w4⟩
    · show (takeF s w).bind (fun s' => runF s' ((mkS [40] :: (t.tk ++ tkR ts)) ++ zs)) = _
      rw [take_word h.1 hw]
      show (takeF _ (mkS [40])).bind (fun s' => runF s' ((t.tk ++ tkR ts) ++ zs)) = _
      rw [take_open rfl h.1]
      show runF _ ((t.tk ++ tkR ts) ++ zs) = _
      rw [List.append_assoc]
      exact r3.trans r4
    · rw [n4, n3]
      show (((s.nodes ++ [(w, 0)]) ++ t.nodes).set s.nodes.length (w, 0 + 1 + ts.length)) ++ nodesL ts = s.nodes ++ ((w, ts.length + 1) :: (t.nodes ++ nodesL ts))
      rw [List.append_assoc, List.set_append_right _ _ (Nat.le_refl _), Nat.sub_self]
      show (s.nodes ++ ((w, 0 + 1 + ts.length) :: t.nodes)) ++ nodesL ts = _
      rw [List.append_assoc, show 0 + 1 + ts.length = ts.length + 1 by omega]
      rfl
theorem run_R (ts : List Tr) : AllL (fun w => isSign w = false) ts → ∀ (s : RS) (zs : List Str) (O : List Nat) (i : Nat) (w : Str) (k : Nat), s.wants = false → s.opn = O ++ [i] → s.nodes[i]? = some (w, k) →
    ∃ s', runF s (tkR ts ++ zs) = runF s' zs ∧ s'.nodes = s.nodes.set i (w, k + 1 + ts.length) ++ nodesL ts ∧ s'.opn = O ∧ s'.wants = false := by
  intro h s zs O i w k hw ho hi
  have hb : bump s.nodes i = s.nodes.set i (w, k + 1) := by unfold bump; rw [hi]
  match ts, h with
  | [], _ =>
    refine ⟨⟨bump s.nodes i, O, false, mkS [41]⟩, ?_, ?_, rfl, rfl⟩
    · show (takeF s (mkS [41])).bind _ = _
      rw [take_shut hw ho]
      rfl
    · show bump s.nodes i = s.nodes.set i (w, k + 1 + 0) ++ []
      rw [hb, List.append_nil]
  | t :: ts, h =>
    have hil : i < s.nodes.length := (List.getElem?_eq_some_iff.mp hi).1
    obtain ⟨s3, r3, n3, o3, w3⟩ := Tr.run_tk t h.1 ⟨bump s.nodes i, O ++ [i], true, mkS [44, 32]⟩ (tkR ts ++ zs) rfl
    have n3' : s3.nodes = s.nodes.set i (w, k + 1) ++ t.nodes := by rw [n3]; show bump s.nodes i ++ t.nodes = _; rw [hb]
    obtain ⟨s4, r4, n4, o4, w4⟩ := run_R ts h.2 s3 zs O i w (k + 1) w3 o3 (by
      rw [n3', List.getElem?_append_left (by rw [List.length_set]; exact hil), List.getElem?_set_self hil])
    refine ⟨s4, ?_, ?_, o4, w4⟩
    · show (takeF s (mkS [44, 32])).bind (fun s' => runF s' ((t.tk ++ tkR ts) ++ zs)) = _
      rw [take_sep hw ho]
      show runF _ ((t.tk ++ tkR ts) ++ zs) = _
      rw [List.append_assoc]
      exact r3.trans r4
    · rw [n4, n3', List.set_append_left _ _ (by rw [List.length_set]; exact hil), List.set_set]
      show (s.nodes.set i (w, k + 1 + 1 + ts.length) ++ t.nodes) ++ nodesL ts = s.nodes.set i (w, k + 1 + (ts.length + 1)) ++ (t.nodes ++ nodesL ts)
      rw [List.append_assoc, show k + 1 + 1 + ts.length = k + 1 + (ts.length + 1) by omega]
end
/-! ### what is read is a tree -/
abbrev FrL := List (Str × List Tr)
def fN : FrL → List Nd
  | [] => []
  | (w, as) :: R => fN R ++ ((w, as.length) :: nodesL as)
def fI : FrL → List Nat
  | [] => []
  | _ :: R => fI R ++ [(fN R).length]
def argT : List Tr → List Nat
  | [] => []
  | t :: ts => t.tx ++ 44 :: 32 :: argT ts
def fT : FrL → List Nat
  | [] => []
  | (w, as) :: R => fT R ++ (lab w ++ 40 :: argT as)
def cN : Option Tr → List Nd
  | none => []
  | some t => t.nodes
def cT : Option Tr → List Nat
  | none => []
  | some t => t.tx
structure RI (F : FrL) (c : Option Tr) (tx : List Nat) (s : RS) : Prop where
  nodes : s.nodes = fN F ++ cN c
  opn : s.opn = fI F
  wants : s.wants = c.isNone
  text : tx = fT F ++ cT c
  last : ∀ t, c = some t → isSign s.last = false → ∃ w, t = .nd w []
theorem argT_app : ∀ (as : List Tr) (t : Tr), argT (as ++ [t]) = argT as ++ (t.tx ++ [44, 32])
  | [], t => rfl
  | a :: as, t => by
    show a.tx ++ 44 :: 32 :: argT (as ++ [t]) = (a.tx ++ 44 :: 32 :: argT as) ++ _
    rw [argT_app as t]
    simp
theorem txR_app : ∀ (as : List Tr) (t : Tr), txR (as ++ [t]) = 44 :: 32 :: (argT as ++ (t.tx ++ [41]))
  | [], t => rfl
  | a :: as, t => by
    show 44 :: 32 :: (a.tx ++ txR (as ++ [t])) = _
    rw [txR_app as t]
    show _ = 44 :: 32 :: ((a.tx ++ 44 :: 32 :: argT as) ++ _)
    simp
theorem tx_args (w : Str) (as : List Tr) (t : Tr) : Tr.tx (.nd w (as ++ [t])) = lab w ++ 40 :: (argT as ++ (t.tx ++ [41])) := by
  cases as with
  | nil => rfl
  | cons a as =>
    show lab w ++ 40 :: (a.tx ++ txR (as ++ [t])) = _
    rw [txR_app]
    show _ = lab w ++ 40 :: ((a.tx ++ 44 :: 32 :: argT as) ++ _)
    simp
theorem bump_fr (R : FrL) (w : Str) (as : List Tr) (t : Tr) : bump (fN ((w, as) :: R) ++ t.nodes) (fN R).length = fN R ++ ((w, as.length + 1) :: (nodesL as ++ t.nodes)) := by
  unfold bump
  have e : fN ((w, as) :: R) ++ t.nodes = fN R ++ ((w, as.length) :: (nodesL as ++ t.nodes)) := by
    show (fN R ++ ((w, as.length) :: nodesL as)) ++ t.nodes = _
    simp
  rw [e, List.getElem?_append_right (Nat.le_refl _), Nat.sub_self]
  show (fN R ++ _).set (fN R).length (w, as.length + 1) = _
  rw [List.set_append_right _ _ (Nat.le_refl _), Nat.sub_self]
  rfl
theorem nodesL_snoc (as : List Tr) (t : Tr) : nodesL (as ++ [t]) = nodesL as ++ t.nodes := by
  rw [nodesL_app]
  show nodesL as ++ (t.nodes ++ []) = _
  rw [List.append_nil]
theorem ri_step {F : FrL} {c : Option Tr} {tx : List Nat} {s s' : RS} {z : Str} (h : RI F c tx s) (e : takeF s z = some s') : ∃ F' c', RI F' c' (tx ++ lab z) s' := by
  unfold takeF at e
  by_cases h1 : isSign z = false
  · rw [if_pos h1] at e
    by_cases hw : s.wants = true
    · rw [if_pos hw] at e
      cases e
      have hc : c = none := by
        have := h.wants
        rw [hw] at this
        cases c with
        | none => rfl
        | some t => cases this
      subst hc
      refine ⟨F, some (.nd z []), ?_, h.opn, rfl, ?_, fun t ht _ => ⟨z, (Option.some.inj ht).symm⟩⟩
      · rw [h.nodes]
        show (fN F ++ []) ++ [(z, 0)] = fN F ++ [(z, 0)]
        rw [List.append_nil]
      · rw [h.text]
        show (fT F ++ []) ++ lab z = fT F ++ lab z
        rw [List.append_nil]
    · rw [if_neg hw] at e
      cases e
  · rw [if_neg h1] at e
    by_cases h2 : z = mkS [40]
    · subst h2
      rw [if_pos rfl] at e
      by_cases hw : s.wants = false ∧ isSign s.last = false
      · rw [if_pos hw] at e
        cases e
        have hc : ∃ t, c = some t := by
          have := h.wants
          rw [hw.1] at this
          cases c with
          | none => cases this
          | some t => exact ⟨t, rfl⟩
        obtain ⟨t, rfl⟩ := hc
        obtain ⟨w, rfl⟩ := h.last t rfl hw.2
        refine ⟨(w, []) :: F, none, ?_, ?_, rfl, ?_, fun t ht => by cases ht⟩
        · rw [h.nodes]
          show fN F ++ [(w, 0)] = (fN F ++ [(w, 0)]) ++ []
          rw [List.append_nil]
        · show s.opn ++ [s.nodes.length - 1] = fI F ++ [(fN F).length]
          rw [h.opn, h.nodes]
          show fI F ++ [(fN F ++ [(w, 0)]).length - 1] = _
          rw [List.length_append]
          rfl
        · rw [h.text, lab_mk]
          show (fT F ++ lab w) ++ [40] = (fT F ++ (lab w ++ [40])) ++ []
          simp
      · rw [if_neg hw] at e
        cases e
    · rw [if_neg h2] at e
      have hz : z = mkS [41] ∨ z = mkS [44, 32] := by
        have : isSign z = true := by cases q : isSign z with
          | true => rfl
          | false => exact absurd q h1
        rcases of_decide_eq_true this with h3 | h3 | h3
        · exact absurd h3 h2
        · exact .inl h3
        · exact .inr h3
      cases F with
      | nil =>
        rw [h.opn] at e
        cases e
      | cons q R =>
        obtain ⟨w, as⟩ := q
        have ho : s.opn = fI R ++ [(fN R).length] := h.opn
        rw [ho, List.getLast?_append, List.getLast?_singleton] at e
        have e : (if s.wants = true then none else some (⟨bump s.nodes (fN R).length, if z = mkS [44, 32] then fI R ++ [(fN R).length] else (fI R ++ [(fN R).length]).dropLast, decide (z = mkS [44, 32]), z⟩ : RS)) = some s' := e
        by_cases hw : s.wants = true
        · rw [if_pos hw] at e
          cases e
        · rw [if_neg hw] at e
          have e := Option.some.inj e
          subst e
          have hc : ∃ t, c = some t := by
            have := h.wants
            cases c with
            | none => exact absurd this hw
            | some t => exact ⟨t, rfl⟩
          obtain ⟨t, rfl⟩ := hc
          have hb : bump s.nodes (fN R).length = fN R ++ ((w, as.length + 1) :: (nodesL as ++ t.nodes)) := by
            rw [h.nodes]
            exact bump_fr R w as t
          rcases hz with rfl | rfl
          · refine ⟨R, some (.nd w (as ++ [t])), ?_, ?_, ?_, ?_, fun u _ hs => ?_⟩
            · show bump s.nodes _ = fN R ++ ((w, (as ++ [t]).length) :: nodesL (as ++ [t]))
              rw [hb, nodesL_snoc, List.length_append]
              rfl
            · show (if mkS [41] = mkS [44, 32] then fI R ++ [(fN R).length] else (fI R ++ [(fN R).length]).dropLast) = fI R
              rw [if_neg ne13, List.dropLast_concat]
            · show decide (mkS [41] = mkS [44, 32]) = false
              exact decide_eq_false ne13
            · rw [h.text, lab_mk]
              show (((fT R ++ (lab w ++ 40 :: argT as)) ++ t.tx) ++ [41]) = fT R ++ Tr.tx (.nd w (as ++ [t]))
              rw [tx_args]
              simp
            · have hs : isSign (mkS [41]) = false := hs
              rw [sign2] at hs
              cases hs
          · refine ⟨(w, as ++ [t]) :: R, none, ?_, ?_, ?_, ?_, fun u hu => by cases hu⟩
            · show bump s.nodes _ = (fN R ++ ((w, (as ++ [t]).length) :: nodesL (as ++ [t]))) ++ []
              rw [hb, nodesL_snoc, List.length_append, List.append_nil]
              rfl
            · show (if mkS [44, 32] = mkS [44, 32] then fI R ++ [(fN R).length] else (fI R ++ [(fN R).length]).dropLast) = fI R ++ [(fN R).length]
              rw [if_pos rfl]
            · show decide (mkS [44, 32] = mkS [44, 32]) = true
              exact decide_eq_true rfl
            · rw [h.text, lab_mk]
              show (((fT R ++ (lab w ++ 40 :: argT as)) ++ t.tx) ++ [44, 32]) = (fT R ++ (lab w ++ 40 :: argT (as ++ [t]))) ++ []
              rw [argT_app]
              simp
theorem ri_run : ∀ (zs : List Str) {F : FrL} {c : Option Tr} {tx : List Nat} {s s' : RS}, RI F c tx s → runF s zs = some s' → ∃ F' c', RI F' c' (tx ++ zs.flatMap lab) s'
  | [], F, c, tx, s, s', h, e => by
    cases e
    exact ⟨F, c, by rw [List.flatMap_nil, List.append_nil]; exact h⟩
  | z :: zs, F, c, tx, s, s', h, e => by
    have e : (takeF s z).bind (fun s' => runF s' zs) = some s' := e
    obtain ⟨s1, h1, h2⟩ := Option.bind_eq_some_iff.mp e
    obtain ⟨F1, c1, r1⟩ := ri_step h h1
    obtain ⟨F2, c2, r2⟩ := ri_run zs r1 h2
    refine ⟨F2, c2, ?_⟩
    rw [List.flatMap_cons, ← List.append_assoc]
    exact r2
theorem ri_0 : RI [] none [] rs0 := ⟨rfl, rfl, rfl, rfl, fun t h => by cases h⟩
/-- the nodes that a text is read as -/
def rawOf (l : List Nat) : Option (List Nd) := (tokF l).bind fun zs => (runF rs0 zs).bind fun s => if s.wants = true ∨ s.opn ≠ [] ∨ 40 < s.nodes.length then none else some s.nodes
theorem raw_sound {l : List Nat} {nds : List Nd} (h : rawOf l = some nds) : ∃ t : Tr, l = t.tx ∧ nds = t.nodes ∧ t.size ≤ 40 := by
  obtain ⟨zs, h1, h⟩ := Option.bind_eq_some_iff.mp h
  obtain ⟨s, h2, h⟩ := Option.bind_eq_some_iff.mp h
  split at h
  · cases h
  · rename_i hn
    cases h
    obtain ⟨F, c, r⟩ := ri_run zs ri_0 h2
    have ho : s.opn = [] := Classical.byContradiction fun z => hn (.inr (.inl z))
    have hF : F = [] := by
      cases F with
      | nil => rfl
      | cons q R =>
        have z := r.opn
        rw [ho] at z
        have z := congrArg List.length z
        have z : 0 = (fI R ++ [(fN R).length]).length := z
        rw [List.length_append] at z
        simp at z
    subst hF
    cases c with
    | none => exact absurd (.inl r.wants) hn
    | some t =>
      have ht := r.text
      rw [List.nil_append, tok_back l.length l zs (Nat.le_refl _) h1] at ht
      refine ⟨t, ht, r.nodes, ?_⟩
      have hl : ¬ 40 < s.nodes.length := fun z => hn (.inr (.inr z))
      rw [r.nodes] at hl
      have hl : ¬ 40 < t.nodes.length := hl
      show t.nodes.length ≤ 40
      omega
theorem all_imp {P R : Str → Prop} (h : ∀ w, P w → R w) : ∀ t : Tr, t.All P → t.All R := by
  intro t
  exact Tr.rec (motive_1 := fun t => t.All P → t.All R) (motive_2 := fun ts => AllL P ts → AllL R ts) (fun w ts ih q => ⟨h w q.1, ih q.2⟩) (fun _ => trivial) (fun t ts i1 i2 q => ⟨i1 q.1, i2 q.2⟩) t
theorem lab_notSign {w : Str} (h : LabT w) : isSign w = false := by
  have key : ∀ l : List Nat, (l = [40] ∨ l = [41] ∨ l = [44, 32]) → lab w = l → False := fun l hl hw => by
    rcases h with ⟨_, h⟩ | h | h
    · rw [hw] at h
      rcases hl with rfl | rfl | rfl <;> exact absurd h (by decide +kernel)
    · rw [hw] at h
      rcases hl with rfl | rfl | rfl <;> cases h
    · rw [hw] at h
      rcases hl with rfl | rfl | rfl <;> cases h
  refine decide_eq_false fun z => ?_
  rcases z with rfl | rfl | rfl
  · exact key [40] (.inl rfl) (lab_mk _)
  · exact key [41] (.inr (.inl rfl)) (lab_mk _)
  · exact key [44, 32] (.inr (.inr rfl)) (lab_mk _)
theorem raw_tree {t : Tr} (h : t.All LabT) (hs : t.size ≤ 40) : rawOf t.tx = some t.nodes := by
  have h1 := t.tok_tx h [] (fun c hc => by cases hc)
  rw [List.append_nil, tokF] at h1
  obtain ⟨s, r, n, o, w⟩ := t.run_tk (all_imp (fun _ => lab_notSign) t h) rs0 [] rfl
  unfold rawOf
  rw [h1]
  show (runF rs0 (t.tk ++ [])).bind _ = _
  rw [r]
  show (if s.wants = true ∨ s.opn ≠ [] ∨ 40 < s.nodes.length then none else some s.nodes) = _
  have n : s.nodes = t.nodes := n
  have o : s.opn = [] := o
  rw [if_neg (by
    rintro (z | z | z)
    · rw [w] at z; cases z
    · exact z o
    · rw [n] at z
      have hs : t.nodes.length ≤ 40 := hs
      omega), n]
end TM

set_option Elab.async false
set_option maxRecDepth 100000
/-! Plain: the law's own reader. -/
namespace TM
open PySem L2 Ly
def rdL (f : List Nat → Option (Tr × List Nat)) (w : Str) : Nat → List Nat → List Tr → Option (Tr × List Nat)
  | 0, _, _ => none
  | k + 1, l, as => match f l with
    | none => none
    | some (t, r) =>
      if r.head? = some 41 then (if as.length + 1 < 4 then some (.nd w (as ++ [t]), r.drop 1) else none)
      else if r.take 2 = [44, 32] then rdL f w k (r.drop 2) (as ++ [t]) else none
def rd : Nat → List Nat → Option (Tr × List Nat)
  | 0, _ => none
  | n + 1, l =>
    if l.head? = some 95 ∨ l.head? = some 35 then some (.nd (mkS (l.take 1)) [], l.drop 1)
    else if 0 < (l.takeWhile isL).length ∧ (l.takeWhile isL).length < 9 then
      (if (l.dropWhile isL).head? = some 40 then rdL (rd n) (mkS (l.takeWhile isL)) 4 ((l.dropWhile isL).drop 1) []
      else some (.nd (mkS (l.takeWhile isL)) [], l.dropWhile isL))
    else none
theorem len_lab (w : Str) : w.length = (lab w).length := by
  show w.cps.size = w.cps.toList.length
  rw [Array.length_toList]
theorem lab_us : lab "_" = [95] := by decide +kernel
theorem lab_ha : lab "#" = [35] := by decide +kernel
def LabW (w : Str) : Prop := 0 < (lab w).length ∧ (lab w).length < 9 ∧ (lab w).all isL = true
def LabS (w : Str) : Prop := lab w = [95] ∨ lab w = [35]
theorem isW_iff (w : Str) : isW (.str w) = true ↔ LabW w := by
  show ((decide (1 ≤ (w.length : Int)) && decide ((w.length : Int) ≤ 8)) && (lab w).all fun c => decide (c ∈ letters)) = true ↔ _
  rw [Bool.and_eq_true, Bool.and_eq_true, decide_eq_true_iff, decide_eq_true_iff, len_lab]
  constructor
  · rintro ⟨⟨a, b⟩, c⟩
    exact ⟨by omega, by omega, c⟩
  · rintro ⟨a, b, c⟩
    exact ⟨⟨by omega, by omega⟩, c⟩
theorem sign_iff (w : Str) : (V.str w = V.str "_" ∨ V.str w = V.str "#") ↔ LabS w := by
  constructor
  · rintro (h | h)
    · cases h; exact .inl lab_us
    · cases h; exact .inr lab_ha
  · rintro (h | h)
    · exact .inl (by rw [lab_inj (h.trans lab_us.symm)])
    · exact .inr (by rw [lab_inj (h.trans lab_ha.symm)])
theorem good_iff (w : Str) (k : Nat) : GoodNd (w, k) ↔ k ≤ 3 ∧ (LabW w ∨ (LabS w ∧ k = 0)) := by
  have hw : wthn (.int (k : Int)) 0 3 = true ↔ k ≤ 3 := by
    constructor
    · intro h
      have h : (isI (.int (k : Int)) && (decide ((0 : Int) ≤ k) && decide ((k : Int) ≤ 3))) = true := h
      rw [Bool.and_eq_true, Bool.and_eq_true] at h
      have := of_decide_eq_true h.2.2
      omega
    · intro h
      have : k = 0 ∨ k = 1 ∨ k = 2 ∨ k = 3 := by omega
      rcases this with rfl | rfl | rfl | rfl <;> decide +kernel
  have hk : V.int (k : Int) = V.int 0 ↔ k = 0 := by
    constructor
    · intro h
      injection h with h
      omega
    · rintro rfl; rfl
  unfold GoodNd isNode2
  rw [Bool.and_eq_true, Bool.or_eq_true, Bool.and_eq_true, decide_eq_true_iff, decide_eq_true_iff, hw, isW_iff, sign_iff, hk]
  constructor
  · exact fun h => h.1
  · intro h
    refine ⟨h, ?_⟩
    show w.length ≤ 1000
    rw [len_lab]
    rcases h.2 with q | ⟨q | q, _⟩
    · have := q.2.1
      omega
    · rw [q]; decide
    · rw [q]; decide
theorem GoodNd.labT {w : Str} {k : Nat} (h : GoodNd (w, k)) : LabT w := by
  rcases ((good_iff w k).mp h).2 with q | ⟨q, _⟩
  · exact .inl ⟨fun z => by have := q.1; rw [z] at this; exact absurd this (by decide), q.2.2⟩
  · exact .inr q
def GoodT (t : Tr) : Prop := ∀ m ∈ t.nodes, GoodNd m
theorem goodL {ts : List Tr} (h : ∀ m ∈ nodesL ts, GoodNd m) : ∀ t ∈ ts, GoodT t := by
  induction ts with
  | nil => intro t ht; cases ht
  | cons u us ih =>
    intro t ht
    rcases List.mem_cons.mp ht with rfl | ht
    · exact fun m hm => h m (List.mem_append_left _ hm)
    · exact ih (fun m hm => h m (List.mem_append_right _ hm)) t ht
theorem goodL_of : ∀ {ts : List Tr}, (∀ t ∈ ts, GoodT t) → ∀ m ∈ nodesL ts, GoodNd m
  | [], _, m, hm => by cases hm
  | t :: ts, h, m, hm => by
    rcases List.mem_append.mp hm with hm | hm
    · exact h t (List.mem_cons_self ..) m hm
    · exact goodL_of (fun u hu => h u (List.mem_cons_of_mem _ hu)) m hm
theorem good_nd {w : Str} {ts : List Tr} (h1 : GoodNd (w, ts.length)) (h2 : ∀ t ∈ ts, GoodT t) : GoodT (.nd w ts) := fun m hm => by
  have hm : m ∈ (w, ts.length) :: nodesL ts := hm
  rcases List.mem_cons.mp hm with rfl | hm
  · exact h1
  · exact goodL_of h2 m hm
theorem labAll (t : Tr) : GoodT t → t.All LabT :=
  Tr.rec (motive_1 := fun t => GoodT t → t.All LabT) (motive_2 := fun ts => (∀ m ∈ nodesL ts, GoodNd m) → AllL LabT ts)
    (fun w ts ih h => ⟨(h (w, ts.length) (List.mem_cons_self ..)).labT, ih fun m hm => h m (List.mem_cons_of_mem _ hm)⟩) (fun _ => trivial)
    (fun t ts i1 i2 h => ⟨i1 fun m hm => h m (List.mem_append_left _ hm), i2 fun m hm => h m (List.mem_append_right _ hm)⟩) t
theorem ht_lt (t : Tr) : t.ht < t.size :=
  Tr.rec (motive_1 := fun t => t.ht < t.size) (motive_2 := fun ts => htL ts ≤ (nodesL ts).length)
    (fun w ts ih => by
      show htL ts < ((w, ts.length) :: nodesL ts).length
      rw [List.length_cons]
      omega) (Nat.le_refl 0)
    (fun t ts i1 i2 => by
      show max (t.ht + 1) (htL ts) ≤ (t.nodes ++ nodesL ts).length
      have i1 : t.ht < t.nodes.length := i1
      rw [List.length_append]
      omega) t
/-! ### what it reads is there -/
theorem take_drop (p : Nat → Bool) (l : List Nat) : l = l.takeWhile p ++ l.dropWhile p := List.takeWhile_append_dropWhile.symm
theorem take_allW (l : List Nat) : (l.takeWhile isL).all isL = true := by
  induction l with
  | nil => rfl
  | cons c l ih =>
    rw [List.takeWhile_cons]
    cases q : isL c with
    | true => rw [if_pos rfl, List.all_cons, q, ih]; rfl
    | false => rw [if_neg (by simp)]; rfl
theorem head_drop {c : Nat} {l : List Nat} (h : l.head? = some c) : l = c :: l.drop 1 := by
  cases l with
  | nil => cases h
  | cons d l => cases h; rfl
theorem two_drop {l : List Nat} (h : l.take 2 = [44, 32]) : l = 44 :: 32 :: l.drop 2 := by
  match l, h with
  | [], h => cases h
  | [a], h => cases h
  | a :: b :: l, h => cases h; rfl
theorem rdL_sound {f : List Nat → Option (Tr × List Nat)} (hf : ∀ l t r, f l = some (t, r) → l = t.tx ++ r ∧ GoodT t) (w : Str) : ∀ (k : Nat) (l : List Nat) (as : List Tr) (t : Tr) (r : List Nat), rdL f w k l as = some (t, r) →
    ∃ u us, t = .nd w (as ++ u :: us) ∧ as.length + 1 + us.length ≤ 3 ∧ l = (u.tx ++ txR us) ++ r ∧ ∀ v ∈ u :: us, GoodT v
  | 0, l, as, t, r, h => by cases h
  | k + 1, l, as, t, r, h => by
    unfold rdL at h
    cases q : f l with
    | none => rw [q] at h; cases h
    | some p =>
      obtain ⟨u, r1⟩ := p
      rw [q] at h
      obtain ⟨e, g⟩ := hf l u r1 q
      have h : (if r1.head? = some 41 then (if as.length + 1 < 4 then some (Tr.nd w (as ++ [u]), r1.drop 1) else none) else if r1.take 2 = [44, 32] then rdL f w k (r1.drop 2) (as ++ [u]) else none) = some (t, r) := h
      by_cases h1 : r1.head? = some 41
      · rw [if_pos h1] at h
        by_cases h2 : as.length + 1 < 4
        · rw [if_pos h2] at h
          cases h
          refine ⟨u, [], rfl, by simp; omega, ?_, fun v hv => by rw [List.mem_singleton.mp hv]; exact g⟩
          rw [e]
          conv => lhs; rw [head_drop h1]
          show _ = (u.tx ++ [41]) ++ _
          simp
        · rw [if_neg h2] at h
          cases h
      · rw [if_neg h1] at h
        by_cases h2 : r1.take 2 = [44, 32]
        · rw [if_pos h2] at h
          obtain ⟨u2, us, rfl, hl, e2, g2⟩ := rdL_sound hf w k _ _ t r h
          refine ⟨u, u2 :: us, by simp, by rw [List.length_append] at hl; simp at hl ⊢; omega, ?_, fun v hv => ?_⟩
          · rw [e]
            conv => lhs; rw [two_drop h2, e2]
            show _ = (u.tx ++ (44 :: 32 :: (u2.tx ++ txR us))) ++ r
            simp
          · rcases List.mem_cons.mp hv with rfl | hv
            · exact g
            · exact g2 v hv
        · rw [if_neg h2] at h
          cases h
theorem rd_sound : ∀ (n : Nat) (l : List Nat) (t : Tr) (r : List Nat), rd n l = some (t, r) → l = t.tx ++ r ∧ GoodT t
  | 0, l, t, r, h => by cases h
  | n + 1, l, t, r, h => by
    unfold rd at h
    by_cases h1 : l.head? = some 95 ∨ l.head? = some 35
    · rw [if_pos h1] at h
      cases h
      have e : ∃ c, (c = 95 ∨ c = 35) ∧ l = c :: l.drop 1 := by
        rcases h1 with h1 | h1
        · exact ⟨95, .inl rfl, head_drop h1⟩
        · exact ⟨35, .inr rfl, head_drop h1⟩
      obtain ⟨c, hc, e⟩ := e
      have e1 : l.take 1 = [c] := by rw [e]; rfl
      refine ⟨?_, good_nd ((good_iff _ _).mpr ⟨by simp, .inr ⟨?_, rfl⟩⟩) fun t ht => by cases ht⟩
      · show l = lab (mkS (l.take 1)) ++ l.drop 1
        rw [lab_mk, e1]
        exact e
      · show lab (mkS (l.take 1)) = [95] ∨ lab (mkS (l.take 1)) = [35]
        rw [lab_mk, e1]
        rcases hc with rfl | rfl
        · exact .inl rfl
        · exact .inr rfl
    · rw [if_neg h1] at h
      by_cases h2 : 0 < (l.takeWhile isL).length ∧ (l.takeWhile isL).length < 9
      · rw [if_pos h2] at h
        have lw : LabW (mkS (l.takeWhile isL)) := by
          unfold LabW
          rw [lab_mk]
          exact ⟨h2.1, h2.2, take_allW l⟩
        by_cases h3 : (l.dropWhile isL).head? = some 40
        · rw [if_pos h3] at h
          obtain ⟨u, us, rfl, hl, e, g⟩ := rdL_sound (rd_sound n) _ 4 _ _ t r h
          refine ⟨?_, good_nd ((good_iff _ _).mpr ⟨by simp at hl ⊢; omega, .inl lw⟩) g⟩
          show l = (lab (mkS (l.takeWhile isL)) ++ 40 :: (u.tx ++ txR us)) ++ r
          rw [lab_mk]
          conv => lhs; rw [take_drop isL l, head_drop h3, e]
          simp
        · rw [if_neg h3] at h
          cases h
          refine ⟨?_, good_nd ((good_iff _ _).mpr ⟨by simp, .inl lw⟩) fun t ht => by cases ht⟩
          show l = lab (mkS (l.takeWhile isL)) ++ _
          rw [lab_mk]
          exact take_drop isL l
      · rw [if_neg h2] at h
        cases h
/-! ### it reads every tree -/
def EndOk (r : List Nat) : Prop := ∀ c, r.head? = some c → c = 41 ∨ c = 44
theorem EndOk.noL {r : List Nat} (h : EndOk r) : NoL r := fun c hc => by
  rcases h c hc with rfl | rfl
  · exact isL_signs.2.2.2.1
  · exact isL_signs.2.2.2.2.1
theorem endR (ts : List Tr) (r : List Nat) : EndOk (txR ts ++ r) := by
  cases ts with
  | nil => exact fun c hc => by cases hc; exact .inl rfl
  | cons t ts => exact fun c hc => by cases hc; exact .inr rfl
theorem headW {w : Str} (h : LabW w) (r : List Nat) : ¬ ((lab w ++ r).head? = some 95 ∨ (lab w ++ r).head? = some 35) := by
  cases q : lab w with
  | nil => rw [LabW, q] at h; exact absurd h.1 (by decide)
  | cons c l =>
    have hc : isL c = true := by
      have := h.2.2
      rw [q, List.all_cons, Bool.and_eq_true] at this
      exact this.1
    rintro (z | z)
    · cases z
      rw [isL_signs.1] at hc
      cases hc
    · cases z
      rw [isL_signs.2.1] at hc
      cases hc
mutual
theorem Tr.rd_tx (t : Tr) : ∀ (n : Nat) (r : List Nat), GoodT t → t.ht < n → EndOk r → rd n (t.tx ++ r) = some (t, r) := by
  intro n r hg hn hr
  match n, hn with
  | n + 1, hn =>
    match t, hg, hn with
    | .nd w [], hg, _ =>
      have h1 := ((good_iff w 0).mp (hg (w, 0) (List.mem_cons_self ..))).2
      show rd (n + 1) (lab w ++ r) = _
      unfold rd
      rcases h1 with h1 | ⟨h1, _⟩
      · obtain ⟨a, b⟩ := take_all h1.2.2 hr.noL
        rw [if_neg (headW h1 r), a, b, if_pos ⟨h1.1, h1.2.1⟩, if_neg (fun z => by rcases hr 40 z with z | z <;> cases z), mk_lab]
      · rcases h1 with h1 | h1
        · rw [h1, if_pos (.inl rfl)]
          show some (Tr.nd (mkS [95]) [], r) = _
          rw [← h1, mk_lab]
        · rw [h1, if_pos (.inr rfl)]
          show some (Tr.nd (mkS [35]) [], r) = _
          rw [← h1, mk_lab]
    | .nd w (u :: us), hg, hn =>
      have h0 := (good_iff w (us.length + 1)).mp (hg (w, us.length + 1) (List.mem_cons_self ..))
      have h1 : LabW w := h0.2.elim id fun z => absurd z.2 (by omega)
      have hl : us.length + 1 ≤ 3 := h0.1
      have hgs : ∀ v ∈ u :: us, GoodT v := goodL fun m hm => hg m (List.mem_cons_of_mem _ hm)
      have hh : max (u.ht + 1) (htL us) < n + 1 := hn
      show rd (n + 1) ((lab w ++ 40 :: (u.tx ++ txR us)) ++ r) = _
      rw [List.append_assoc]
      have hnl : NoL (40 :: (u.tx ++ txR us) ++ r) := noL_of isL_signs.2.2.1
      obtain ⟨a, b⟩ := take_all h1.2.2 hnl
      unfold rd
      rw [if_neg (headW h1 _), a, b, if_pos ⟨h1.1, h1.2.1⟩, if_pos (show (40 :: (u.tx ++ txR us) ++ r).head? = some 40 from rfl), mk_lab]
      show rdL (rd n) w 4 ((u.tx ++ txR us) ++ r) [] = _
      rw [List.append_assoc]
      have q := rd_R us n w [] u r 3 hgs (by omega) (by simp; omega) (by omega) (Tr.rd_tx u n (txR us ++ r) (hgs u (List.mem_cons_self ..)) (by omega) (endR us r))
      exact q
theorem rd_R (us : List Tr) : ∀ (n : Nat) (w : Str) (as : List Tr) (u : Tr) (r : List Nat) (k : Nat), (∀ v ∈ u :: us, GoodT v) → htL us ≤ n → as.length + 1 + us.length ≤ 3 → us.length ≤ k →
    rd n (u.tx ++ (txR us ++ r)) = some (u, txR us ++ r) → rdL (rd n) w (k + 1) (u.tx ++ (txR us ++ r)) as = some (.nd w (as ++ u :: us), r) := by
  intro n w as u r k hg hh hl hk hu
  unfold rdL
  rw [hu]
  match us, hg, hh, hl, hk with
  | [], _, _, hl, _ =>
    have hl : as.length + 1 < 4 := by simp at hl; omega
    show (if ((41 : Nat) :: r).head? = some 41 then (if as.length + 1 < 4 then some (Tr.nd w (as ++ [u]), r) else none) else _) = _
    rw [if_pos (show ((41 : Nat) :: r).head? = some 41 from rfl), if_pos hl]
  | v :: us, hg, hh, hl, hk =>
    match k, hk with
    | k + 1, hk =>
      have hh : max (v.ht + 1) (htL us) ≤ n := hh
      have q := rd_R us n w (as ++ [u]) v r k (fun x hx => hg x (List.mem_cons_of_mem _ hx)) (by omega) (by rw [List.length_append]; simp at hl ⊢; omega) (by simp at hk; omega) (Tr.rd_tx v n (txR us ++ r) (hg v (by simp)) (by omega) (endR us r))
      show (if ((44 : Nat) :: _).head? = some 41 then _ else if ((44 : Nat) :: 32 :: ((v.tx ++ txR us) ++ r)).take 2 = [44, 32] then rdL (rd n) w (k + 1) (((44 : Nat) :: 32 :: ((v.tx ++ txR us) ++ r)).drop 2) (as ++ [u]) else none) = _
      rw [if_neg (by simp), if_pos (show ((44 : Nat) :: 32 :: ((v.tx ++ txR us) ++ r)).take 2 = [44, 32] from rfl)]
      show rdL (rd n) w (k + 1) ((v.tx ++ txR us) ++ r) (as ++ [u]) = _
      rw [List.append_assoc, q]
      simp
end
theorem rd_raw {l : List Nat} {nds : List Nd} (h : rawOf l = some nds) (hg : ∀ m ∈ nds, GoodNd m) : ∃ t, rd 60 l = some (t, []) ∧ nds = t.nodes ∧ t.size ≤ 40 ∧ GoodT t ∧ l = t.tx := by
  obtain ⟨t, rfl, rfl, hs⟩ := raw_sound h
  have q := t.rd_tx 60 [] hg (Nat.lt_of_lt_of_le (ht_lt t) (by omega)) (fun c hc => by cases hc)
  rw [List.append_nil] at q
  exact ⟨t, q, rfl, hs, hg, rfl⟩
theorem raw_rd {l : List Nat} {t : Tr} (h : rd 60 l = some (t, [])) (hs : t.size ≤ 40) : rawOf l = some t.nodes ∧ GoodT t ∧ l = t.tx := by
  obtain ⟨e, g⟩ := rd_sound 60 l t [] h
  rw [List.append_nil] at e
  subst e
  exact ⟨raw_tree (labAll t g) hs, g, rfl⟩
end TM

set_option Elab.async false
set_option maxRecDepth 100000
set_option linter.all false
/-! The pure layer: what code does, told by values without a heap. -/
namespace Pu
open PySem PySem.Spec PyProof.Rows L2 Ly

/-! ### values without a heap -/
inductive D where
  | non | bl (b : Bool) | int (i : Int) | str (x : Str)
  | lst (ds : List D) | tup (ds : List D)
  | dic (ks : List Key) (ds : List D)
  | obj (C : Addr) (ns : List Str) (ds : List D)
  | dice
  | cls (C : Addr)
  | exn (a dd : Addr) (ns : List Str) (ds : List D)
  | lsk (ds : List D)

mutual
/-- v is d, by what is seen of the heap -/
inductive Rep (K : PySem.W.Frag) (W : Hp) : V → D → Prop
  | non : Rep K W .non .non
  | bl (b : Bool) : Rep K W (.bl b) (.bl b)
  | int (i : Int) : Rep K W (.int i) (.int i)
  | str (x : Str) : Rep K W (.str x) (.str x)
  | lst {a : Addr} {vs : List V} {ds : List D} : W a = some (.lst vs) → RepAll K W vs ds → vs.length ≤ sizeLine → Rep K W (.ref a) (.lst ds)
  | tup {a : Addr} {vs : List V} {ds : List D} : SqT K W a vs → RepAll K W vs ds → vs.length ≤ sizeLine → Rep K W (.ref a) (.tup ds)
  | dic {a : Addr} {kvs : List (Key × V)} {ks : List Key} {ds : List D} : Rd W a (.dK kvs) → kvs.map Prod.fst = ks → RepAll K W (kvs.map Prod.snd) ds → kvs.length ≤ sizeLine → Rep K W (.ref a) (.dic ks ds)
  | obj {a C dx : Addr} {fs : List (Str × V)} {ns : List Str} {ds : List D} : W a = some (.ins C dx fs) → fs.map Prod.fst = ns → RepAll K W (fs.map Prod.snd) ds → Rep K W (.ref a) (.obj C ns ds)
  | dice {a : Addr} : W a = some (diceO a) → Rep K W (.ref a) .dice
  | cls (C : Addr) : Rep K W (.ref C) (.cls C)
  | exn {a dd : Addr} {fs : List (Str × V)} {ns : List Str} {ds : List D} : W dd = some (.xd fs) → fs.map Prod.fst = ns → RepAll K W (fs.map Prod.snd) ds → Rep K W (.ref a) (.exn a dd ns ds)
  | lsk {a : Addr} {vs : List V} {ds : List D} : SqL K W a vs → RepAll K W vs ds → vs.length ≤ sizeLine → Rep K W (.ref a) (.lsk ds)
inductive RepAll (K : PySem.W.Frag) (W : Hp) : List V → List D → Prop
  | nil : RepAll K W [] []
  | cons {v : V} {vs : List V} {d : D} {ds : List D} : Rep K W v d → RepAll K W vs ds → RepAll K W (v :: vs) (d :: ds)
end
/-- what is read stays readable -/
def Le (W W' : Hp) : Prop := (∀ a vs, W a = some (.lst vs) → W' a = some (.lst vs)) ∧ (∀ a u, (∀ o v, u ≠ .frz o v) → Rd W a u → Rd W' a u) ∧ (∀ a C dx fs, W a = some (.ins C dx fs) → W' a = some (.ins C dx fs)) ∧ (∀ a, W a = some (diceO a) → W' a = some (diceO a)) ∧ ∀ a fs, W a = some (.xd fs) → W' a = some (.xd fs)
theorem Gx.le {W W' : Hp} (e : Gx W W') : Le W W' := ⟨fun _ _ h => e _ _ h, fun _ _ _ h => e.rd h, fun _ _ _ _ h => e _ _ h, fun _ h => e _ _ h, fun _ _ h => e _ _ h⟩
theorem Le.t {K : PySem.W.Frag} {W W' : Hp} (e : Le W W') {a : Addr} {vs : List V} (h : SqT K W a vs) : SqT K W' a vs := by
  rcases h with h | h
  · exact .inl (e.2.1 _ _ (fun _ _ z => by cases z) h)
  · exact .inr h
theorem Le.l {K : PySem.W.Frag} {W W' : Hp} (e : Le W W') {a : Addr} {vs : List V} (h : SqL K W a vs) : SqL K W' a vs := by
  rcases h with h | h
  · exact .inl (e.2.1 _ _ (fun _ _ z => by cases z) h)
  · exact .inr h
mutual
theorem Rep.le {K : PySem.W.Frag} {W W' : Hp} (e : Le W W') : ∀ {v : V} {d : D}, Rep K W v d → Rep K W' v d
  | _, _, .non => .non
  | _, _, .bl b => .bl b
  | _, _, .int i => .int i
  | _, _, .str x => .str x
  | _, _, .lst h hs n => .lst (e.1 _ _ h) (RepAll.le e hs) n
  | _, _, .tup h hs n => .tup (e.t h) (RepAll.le e hs) n
  | _, _, .dic h k hs n => .dic (e.2.1 _ _ (fun _ _ z => by cases z) h) k (RepAll.le e hs) n
  | _, _, .obj h k hs => .obj (e.2.2.1 _ _ _ _ h) k (RepAll.le e hs)
  | _, _, .dice h => .dice (e.2.2.2.1 _ h)
  | _, _, .cls C => .cls C
  | _, _, .exn h k hs => .exn (e.2.2.2.2 _ _ h) k (RepAll.le e hs)
  | _, _, .lsk h hs n => .lsk (e.l h) (RepAll.le e hs) n
theorem RepAll.le {K : PySem.W.Frag} {W W' : Hp} (e : Le W W') : ∀ {vs : List V} {ds : List D}, RepAll K W vs ds → RepAll K W' vs ds
  | _, _, .nil => .nil
  | _, _, .cons h hs => .cons (Rep.le e h) (RepAll.le e hs)
end
section
variable {K : PySem.W.Frag} {W W' : Hp}
theorem Rep.gx (e : Gx W W') {v : V} {d : D} (h : Rep K W v d) : Rep K W' v d := h.le (Gx.le e)
theorem RepAll.gx (e : Gx W W') {vs : List V} {ds : List D} (h : RepAll K W vs ds) : RepAll K W' vs ds := h.le (Gx.le e)
theorem RepAll.len : ∀ {vs : List V} {ds : List D}, RepAll K W vs ds → vs.length = ds.length
  | _, _, .nil => rfl
  | _, _, .cons _ hs => by rw [List.length_cons, List.length_cons, RepAll.len hs]
theorem RepAll.get : ∀ {vs : List V} {ds : List D} {i : Nat} {v : V}, RepAll K W vs ds → vs[i]? = some v → ∃ d, ds[i]? = some d ∧ Rep K W v d
  | _, _, _, _, .nil, e => by simp at e
  | _, _, 0, _, .cons h _, e => by simp at e; subst e; exact ⟨_, rfl, h⟩
  | _, _, i + 1, v, .cons _ hs, e => by
    obtain ⟨d, h1, h2⟩ := RepAll.get (i := i) (v := v) hs (by simpa using e)
    exact ⟨d, by simpa using h1, h2⟩
theorem RepAll.getD : ∀ {vs : List V} {ds : List D} {i : Nat} {d : D}, RepAll K W vs ds → ds[i]? = some d → ∃ v, vs[i]? = some v ∧ Rep K W v d
  | _, _, _, _, .nil, e => by simp at e
  | _, _, 0, _, .cons h _, e => by simp at e; subst e; exact ⟨_, rfl, h⟩
  | _, _, i + 1, v, .cons _ hs, e => by
    obtain ⟨d, h1, h2⟩ := RepAll.getD (i := i) (d := v) hs (by simpa using e)
    exact ⟨d, by simpa using h1, h2⟩
theorem RepAll.app : ∀ {vs us : List V} {ds es : List D}, RepAll K W vs ds → RepAll K W us es → RepAll K W (vs ++ us) (ds ++ es)
  | _, _, _, _, .nil, h => h
  | _, _, _, _, .cons h hs, k => .cons h (RepAll.app hs k)
theorem RepAll.one {v : V} {d : D} (h : Rep K W v d) : RepAll K W [v] [d] := .cons h .nil
theorem RepAll.rev : ∀ {vs : List V} {ds : List D}, RepAll K W vs ds → RepAll K W vs.reverse ds.reverse
  | _, _, .nil => .nil
  | _, _, .cons h hs => by
    rw [List.reverse_cons, List.reverse_cons]
    exact (RepAll.rev hs).app (.one h)
theorem RepAll.take : ∀ {vs : List V} {ds : List D} (n : Nat), RepAll K W vs ds → RepAll K W (vs.take n) (ds.take n)
  | _, _, 0, _ => .nil
  | _, _, _ + 1, .nil => .nil
  | _, _, n + 1, .cons h hs => .cons h (RepAll.take n hs)
theorem RepAll.drop : ∀ {vs : List V} {ds : List D} (n : Nat), RepAll K W vs ds → RepAll K W (vs.drop n) (ds.drop n)
  | _, _, 0, h => h
  | _, _, _ + 1, .nil => .nil
  | _, _, n + 1, .cons _ hs => RepAll.drop n hs
theorem RepAll.set {v : V} {d : D} (h : Rep K W v d) : ∀ {vs : List V} {ds : List D} (n : Nat), RepAll K W vs ds → RepAll K W (vs.set n v) (ds.set n d)
  | _, _, _, .nil => .nil
  | _, _, 0, .cons _ hs => .cons h hs
  | _, _, n + 1, .cons k hs => .cons k (RepAll.set h n hs)
theorem RepAll.dropLast {vs : List V} {ds : List D} (h : RepAll K W vs ds) : RepAll K W vs.dropLast ds.dropLast := by
  rw [List.dropLast_eq_take, List.dropLast_eq_take, h.len]
  exact h.take _
theorem RepAll.eraseIdx : ∀ {vs : List V} {ds : List D} (n : Nat), RepAll K W vs ds → RepAll K W (vs.eraseIdx n) (ds.eraseIdx n)
  | _, _, _, .nil => .nil
  | _, _, 0, .cons _ hs => hs
  | _, _, n + 1, .cons k hs => .cons k (RepAll.eraseIdx n hs)
theorem RepAll.map {α : Type} {f : α → V} {g : α → D} (h : ∀ x, Rep K W (f x) (g x)) : ∀ l : List α, RepAll K W (l.map f) (l.map g)
  | [] => .nil
  | x :: l => .cons (h x) (RepAll.map h l)
end

/-! ### heaps that grow, and what is seen of them -/
structure Ex (W H W' H' : Hp) : Prop where
  h : Gx H H'
  w : Gx W W'
  s : Gx W' H'
  n : ∀ a o, W' a = some o → W a = some o ∨ H a = none
section
variable {W H W1 H1 W2 H2 : Hp} {p : Addr} {o : HO}
theorem Ex.refl (s : Gx W H) : Ex W H W H := ⟨Gx.refl _, Gx.refl _, s, fun _ _ h => .inl h⟩
theorem Ex.trans (a : Ex W H W1 H1) (b : Ex W1 H1 W2 H2) : Ex W H W2 H2 := ⟨a.h.trans b.h, a.w.trans b.w, b.s, fun x o h => by
  rcases b.n x o h with h | h
  · exact a.n x o h
  · exact .inr (a.h.free h)⟩
theorem gx_upd {W H : Hp} (s : Gx W H) (p : Addr) (o : HO) : Gx (upd W p o) (upd H p o) := fun a u h => by
  by_cases e : a = p
  · subst e
    rw [upd_same] at h ⊢
    exact h
  · rw [upd_ne e] at h ⊢
    exact s _ _ h
theorem Ex.new (s : Gx W H) (hp : H p = none) : Ex W H (upd W p o) (upd H p o) := ⟨Gx.new hp, Gx.new (s.free hp), gx_upd s p o, fun a u h => by
  by_cases e : a = p
  · subst e
    exact .inr hp
  · rw [upd_ne e] at h
    exact .inl h⟩
/-- a new thing that is not seen -/
theorem Ex.hid (s : Gx W H) (hp : H p = none) : Ex W H W (upd H p o) := ⟨Gx.new hp, Gx.refl _, s.trans (Gx.new hp), fun a u h => .inl h⟩
/-- .. and then it is -/
theorem Ex.see {W' H' : Hp} (e : Ex W H W' H') (hp : H p = none) (hw : W' p = none) (h' : H' p = some o) : Ex W H (upd W' p o) H' := ⟨e.h, e.w.trans (Gx.new hw), fun a u h => by
  by_cases q : a = p
  · subst q
    rw [upd_same] at h
    rw [← h]
    exact h'
  · rw [upd_ne q] at h
    exact e.s _ _ h, fun a u h => by
  by_cases q : a = p
  · subst q
    exact .inr hp
  · rw [upd_ne q] at h
    exact e.n _ _ h⟩
end

/-! ### the names of a def -/
inductive B where
  | un | val (d : D)
  | lst (ds : List D)
  | dic (ks : List Key) (ds : List D)
  | obj (a C : Addr) (ns : List Str) (ds : List D)
abbrev Env := List B
/-- what stands in a slot: o its own thing's place -/
def BRep (K : PySem.W.Frag) (H0 W H : Hp) (o : Option Addr) : B → Option V → Prop
  | .un, _ => o = none
  | .val d, s => o = none ∧ ∃ v, s = some v ∧ Rep K W v d
  | .lst ds, s => ∃ p vs, o = some p ∧ s = some (.ref p) ∧ W p = none ∧ H0 p = none ∧ H p = some (.lst vs) ∧ RepAll K W vs ds ∧ vs.length ≤ sizeLine
  | .dic ks ds, s => ∃ p kvs, o = some p ∧ s = some (.ref p) ∧ W p = none ∧ H0 p = none ∧ H p = some (.dK kvs) ∧ kvs.map Prod.fst = ks ∧ RepAll K W (kvs.map Prod.snd) ds ∧ kvs.length ≤ sizeLine
  | .obj a C ns ds, s => ∃ p dx fs, p = a ∧ o = some p ∧ s = some (.ref p) ∧ W p = none ∧ H0 p = none ∧ H p = some (.ins C dx fs) ∧ H dx = some (.own p) ∧ H0 dx = none ∧ fs.map Prod.fst = ns ∧ RepAll K W (fs.map Prod.snd) ds ∧ ns.length ≤ 100
structure Sat (K : PySem.W.Frag) (W0 H0 W : Hp) (ρ : Env) (σ : L2.St) (H : Hp) : Prop where
  ex : Ex W0 H0 W H
  len : σ.length = ρ.length
  rep : ∃ oa : Nat → Option Addr, (∀ i j p, oa i = some p → oa j = some p → i = j) ∧ ∀ i b, ρ[i]? = some b → ∃ s, σ[i]? = some s ∧ BRep K H0 W H (oa i) b s
section
variable {K : PySem.W.Frag} {W0 H0 W H W' H' : Hp} {ρ : Env} {σ : L2.St} {i : Nat}
theorem BRep.ext {o : Option Addr} {b : B} {s : Option V} (e : Ex W H W' H') (h : BRep K H0 W H o b s) : BRep K H0 W' H' o b s := by
  have hid : ∀ {p : Addr} {u : HO}, W p = none → H p = some u → W' p = none := fun {p u} hw hp => by
    cases q : W' p with
    | none => rfl
    | some u' =>
      rcases e.n p u' q with z | z
      · rw [hw] at z; cases z
      · rw [hp] at z; cases z
  cases b with
  | un => exact h
  | val d =>
    obtain ⟨h1, v, h2, h3⟩ := h
    exact ⟨h1, v, h2, h3.gx e.w⟩
  | lst ds =>
    obtain ⟨p, vs, h1, h2, h3, h4, h5, h6, h7⟩ := h
    exact ⟨p, vs, h1, h2, hid h3 h5, h4, e.h _ _ h5, h6.gx e.w, h7⟩
  | dic ks ds =>
    obtain ⟨p, vs, h1, h2, h3, h4, h5, h6, h7, h8⟩ := h
    exact ⟨p, vs, h1, h2, hid h3 h5, h4, e.h _ _ h5, h6, h7.gx e.w, h8⟩
  | obj a C ns ds =>
    obtain ⟨p, dx, vs, h0, h1, h2, h3, h4, h5, h6, h7, h8, h9⟩ := h
    exact ⟨p, dx, vs, h0, h1, h2, hid h3 h5, h4, e.h _ _ h5, e.h _ _ h6, h7, h8, h9.1.gx e.w, h9.2⟩
theorem Sat.ext (h : Sat K W0 H0 W ρ σ H) (e : Ex W H W' H') : Sat K W0 H0 W' ρ σ H' := ⟨h.ex.trans e, h.len, by
  obtain ⟨oa, h1, h2⟩ := h.rep
  refine ⟨oa, h1, fun i b hb => ?_⟩
  obtain ⟨s, h3, h4⟩ := h2 i b hb
  exact ⟨s, h3, h4.ext e⟩⟩
theorem Sat.see (h : Sat K W0 H0 W ρ σ H) : Gx W H := h.ex.s
theorem Sat.val (h : Sat K W0 H0 W ρ σ H) {d : D} (hi : ρ[i]? = some (.val d)) : ∃ v, σ[i]? = some (some v) ∧ Rep K W v d := by
  obtain ⟨oa, _, h2⟩ := h.rep
  obtain ⟨s, h3, _, v, h4, h5⟩ := h2 i _ hi
  exact ⟨v, by rw [h3, h4], h5⟩
theorem Sat.own (h : Sat K W0 H0 W ρ σ H) {ds : List D} (hi : ρ[i]? = some (.lst ds)) : ∃ p vs, σ[i]? = some (some (.ref p)) ∧ W p = none ∧ H0 p = none ∧ H p = some (.lst vs) ∧ RepAll K W vs ds ∧ vs.length ≤ sizeLine := by
  obtain ⟨oa, _, h2⟩ := h.rep
  obtain ⟨s, h3, p, vs, _, h4, h5⟩ := h2 i _ hi
  exact ⟨p, vs, by rw [h3, h4], h5⟩
def setO (oa : Nat → Option Addr) (i : Nat) (o : Option Addr) : Nat → Option Addr := fun j => if j = i then o else oa j
theorem setO_same {oa : Nat → Option Addr} {o : Option Addr} : setO oa i o i = o := if_pos rfl
theorem setO_ne {oa : Nat → Option Addr} {o : Option Addr} {j : Nat} (h : j ≠ i) : setO oa i o j = oa j := if_neg h
/-- one slot anew: b with its own place o -/
theorem sat_set {oa : Nat → Option Addr} {b : B} {s : Option V} {o : Option Addr} (ex : Ex W0 H0 W' H') (len : σ.length = ρ.length) (h1 : ∀ i j p, oa i = some p → oa j = some p → i = j) (hn : ∀ j p, o = some p → j ≠ i → j < ρ.length → oa j ≠ some p)
    (h2 : ∀ j b, j ≠ i → ρ[j]? = some b → ∃ s, σ[j]? = some s ∧ BRep K H0 W' H' (oa j) b s) (r : BRep K H0 W' H' o b s) : Sat K W0 H0 W' (ρ.set i b) (σ.set i s) H' := ⟨ex, by rw [List.length_set, List.length_set]; exact len, by
  refine ⟨fun j => if j < ρ.length then setO oa i o j else none, fun a c p ha hc => ?_, fun j b' hb => ?_⟩
  · dsimp only at ha hc
    by_cases la : a < ρ.length
    · rw [if_pos la] at ha
      by_cases lc : c < ρ.length
      · rw [if_pos lc] at hc
        by_cases qa : a = i
        · rw [qa, setO_same] at ha
          by_cases qc : c = i
          · rw [qa, qc]
          · rw [setO_ne qc] at hc
            exact absurd hc (hn c p ha qc lc)
        · rw [setO_ne qa] at ha
          by_cases qc : c = i
          · rw [qc, setO_same] at hc
            exact absurd ha (hn a p hc qa la)
          · rw [setO_ne qc] at hc
            exact h1 a c p ha hc
      · rw [if_neg lc] at hc; cases hc
    · rw [if_neg la] at ha; cases ha
  · have hj : j < ρ.length := by
      have := (List.getElem?_eq_some_iff.mp hb).1
      rw [List.length_set] at this
      exact this
    dsimp only
    rw [if_pos hj]
    by_cases q : j = i
    · subst q
      rw [List.getElem?_set_self hj] at hb
      cases hb
      rw [setO_same]
      exact ⟨s, by rw [List.getElem?_set_self (by rw [len]; exact hj)], r⟩
    · rw [List.getElem?_set_ne (Ne.symm q)] at hb
      obtain ⟨s', h3, h4⟩ := h2 j b' q hb
      rw [setO_ne q]
      exact ⟨s', by rw [List.getElem?_set_ne (Ne.symm q)]; exact h3, h4⟩⟩
/-- a value stored -/
theorem Sat.set (h : Sat K W0 H0 W ρ σ H) {v : V} {d : D} (r : Rep K W v d) : Sat K W0 H0 W (ρ.set i (.val d)) (σ.set i (some v)) H := by
  obtain ⟨oa, h1, h2⟩ := h.rep
  exact sat_set (o := none) h.ex h.len h1 (fun _ _ z => by cases z) (fun j b _ hb => h2 j b hb) ⟨rfl, v, rfl, r⟩
theorem Sat.wipe1 (h : Sat K W0 H0 W ρ σ H) : Sat K W0 H0 W (ρ.set i .un) (σ.set i none) H := by
  obtain ⟨oa, h1, h2⟩ := h.rep
  exact sat_set (o := none) h.ex h.len h1 (fun _ _ z => by cases z) (fun j b _ hb => h2 j b hb) rfl
theorem BRep.place {o : Option Addr} {p : Addr} {b : B} {s : Option V} (h : BRep K H0 W H o b s) (e : o = some p) : (∃ u, H p = some u) ∧ H0 p = none ∧ W p = none := by
  cases b with
  | un => rw [show o = none from h] at e; cases e
  | val d => rw [h.1] at e; cases e
  | lst ds =>
    obtain ⟨q, vs, h1, h2, h3, h4, h5, _⟩ := h
    rw [h1] at e; cases e
    exact ⟨⟨_, h5⟩, h4, h3⟩
  | dic ks ds =>
    obtain ⟨q, vs, h1, h2, h3, h4, h5, _⟩ := h
    rw [h1] at e; cases e
    exact ⟨⟨_, h5⟩, h4, h3⟩
  | obj a C ns ds =>
    obtain ⟨q, dx, vs, _, h1, h2, h3, h4, h5, _⟩ := h
    rw [h1] at e; cases e
    exact ⟨⟨_, h5⟩, h4, h3⟩
/-- a new own thing stored -/
theorem Sat.put (h : Sat K W0 H0 W ρ σ H) {p : Addr} {b : B} (e : Ex W H W' H') (hp : H p = none) (r : BRep K H0 W' H' (some p) b (some (.ref p))) : Sat K W0 H0 W' (ρ.set i b) (σ.set i (some (.ref p))) H' := by
  obtain ⟨oa, h1, h2⟩ := h.rep
  refine sat_set (o := some p) (h.ex.trans e) h.len h1 (fun j q z hj hl hq => ?_) (fun j b _ hb => ?_) r
  · cases z
    obtain ⟨s, _, h4⟩ := h2 j _ (List.getElem?_eq_getElem hl)
    obtain ⟨⟨u, h5⟩, _⟩ := h4.place hq
    rw [hp] at h5; cases h5
  · obtain ⟨s, h3, h4⟩ := h2 j b hb
    exact ⟨s, h3, h4.ext e⟩
/-- what an own thing's change leaves -/
theorem BRep.mut {o : Option Addr} {p : Addr} {u : HO} {b : B} {s : Option V} (h : BRep K H0 W H o b s) (ho : o ≠ some p) (hown : ∀ x, H p ≠ some (.own x)) : BRep K H0 W (upd H p u) o b s := by
  cases b with
  | un => exact h
  | val d => exact h
  | lst ds =>
    obtain ⟨q, vs, h1, h2, h3, h4, h5, h6⟩ := h
    exact ⟨q, vs, h1, h2, h3, h4, by rw [upd_ne (fun z => ho (by rw [h1, z]))]; exact h5, h6⟩
  | dic ks ds =>
    obtain ⟨q, vs, h1, h2, h3, h4, h5, h6⟩ := h
    exact ⟨q, vs, h1, h2, h3, h4, by rw [upd_ne (fun z => ho (by rw [h1, z]))]; exact h5, h6⟩
  | obj a C ns ds =>
    obtain ⟨q, dx, vs, h0, h1, h2, h3, h4, h5, h6, h7⟩ := h
    exact ⟨q, dx, vs, h0, h1, h2, h3, h4, by rw [upd_ne (fun z => ho (by rw [h1, z]))]; exact h5, by rw [upd_ne (fun z => hown q (by rw [← z]; exact h6))]; exact h6, h7⟩
theorem Ex.mut {p : Addr} {u : HO} (e : Ex W0 H0 W H) (h0 : H0 p = none) (hw : W p = none) : Ex W0 H0 W (upd H p u) := ⟨e.h.mut h0, e.w, fun a o h => by
  by_cases q : a = p
  · subst q
    rw [hw] at h; cases h
  · rw [upd_ne q]
    exact e.s _ _ h, e.n⟩
/-- an own list changed -/
theorem Sat.chg (h : Sat K W0 H0 W ρ σ H) {ds es : List D} {p : Addr} {us : List V} (hi : ρ[i]? = some (.lst ds)) (hs : σ[i]? = some (some (.ref p))) (r : RepAll K W us es) (hn : us.length ≤ sizeLine) : Sat K W0 H0 W (ρ.set i (.lst es)) σ (upd H p (.lst us)) := by
  obtain ⟨oa, h1, h2⟩ := h.rep
  obtain ⟨s, h3, q, vs, h4, h5, h6, h7, h8, _⟩ := h2 i _ hi
  have hq : q = p := by
    rw [h3, h5] at hs
    cases hs
    rfl
  subst hq
  have hσ : σ.set i (some (.ref q)) = σ := by
    apply List.ext_getElem?
    intro j
    by_cases e : j = i
    · subst e
      rw [List.getElem?_set_self (List.getElem?_eq_some_iff.mp hs).1, hs]
    · rw [List.getElem?_set_ne (Ne.symm e)]
  rw [← hσ]
  refine sat_set (o := some q) (Ex.mut h.ex h7 h6) h.len h1 (fun j p z hj _ hp => ?_) (fun j b hj hb => ?_) ⟨q, us, rfl, rfl, h6, h7, upd_same, r, hn⟩
  · cases z
    exact hj (h1 j i q hp h4)
  · obtain ⟨s', h9, h10⟩ := h2 j b hb
    exact ⟨s', h9, h10.mut (fun z => hj (h1 j i q z h4)) fun x z => by rw [h8] at z; cases z⟩
/-- an own list is given away -/
theorem Sat.dem (h : Sat K W0 H0 W ρ σ H) {ds : List D} (hi : ρ[i]? = some (.lst ds)) : ∃ W', Gx W W' ∧ Sat K W0 H0 W' (ρ.set i (.val (.lst ds))) σ H := by
  obtain ⟨oa, h1, h2⟩ := h.rep
  obtain ⟨s, h3, q, vs, h4, h5, h6, h7, h8, h9, h10⟩ := h2 i _ hi
  have hσ : σ.set i (some (.ref q)) = σ := by
    apply List.ext_getElem?
    intro j
    by_cases e : j = i
    · subst e
      rw [List.getElem?_set_self (List.getElem?_eq_some_iff.mp h3).1, h3, h5]
    · rw [List.getElem?_set_ne (Ne.symm e)]
  refine ⟨upd W q (.lst vs), Gx.new h6, ?_⟩
  have e2 : Gx W (upd W q (.lst vs)) := Gx.new h6
  rw [← hσ]
  refine sat_set (o := none) (Ex.see h.ex h7 h6 h8) h.len h1 (fun _ _ z => by cases z) (fun j b hj hb => ?_) ⟨rfl, _, rfl, .lst upd_same (h9.gx e2) h10⟩
  obtain ⟨s', h11, h12⟩ := h2 j b hb
  refine ⟨s', h11, ?_⟩
  have hne : ∀ p, oa j = some p → p ≠ q := fun p hp z => hj (h1 j i q (by rw [hp, z]) h4)
  cases b with
  | un => exact h12
  | val d =>
    obtain ⟨k1, v, k2, k3⟩ := h12
    exact ⟨k1, v, k2, k3.gx e2⟩
  | lst es =>
    obtain ⟨p, us, k1, k2, k3, k4, k5, k6, k7⟩ := h12
    exact ⟨p, us, k1, k2, by rw [upd_ne (hne p k1)]; exact k3, k4, k5, k6.gx e2, k7⟩
  | dic ks es =>
    obtain ⟨p, us, k1, k2, k3, k4, k5, k6, k7, k8⟩ := h12
    exact ⟨p, us, k1, k2, by rw [upd_ne (hne p k1)]; exact k3, k4, k5, k6, k7.gx e2, k8⟩
  | obj a C ns es =>
    obtain ⟨p, dx, us, k0, k1, k2, k3, k4, k5, k6, k7, k8, k9, k10⟩ := h12
    exact ⟨p, dx, us, k0, k1, k2, by rw [upd_ne (hne p k1)]; exact k3, k4, k5, k6, k7, k8, k9.gx e2, k10⟩
end
end Pu

set_option Elab.async false
set_option maxRecDepth 100000
set_option linter.all false
namespace Pu
open PySem PySem.Spec PyProof.Rows L2 Ly

/-! ### exceptions -/
inductive Exn where
  | bare (C : Addr)
  | kept (C : Addr) (ns : List Str) (ds : List D)
inductive XRep (K : PySem.W.Frag) (W : Hp) : Exn → Value → Option Addr → Prop
  | bare (C : Addr) : XRep K W (.bare C) (.ref C) none
  | kept {C a : Addr} {fs : List (Str × V)} {ns : List Str} {ds : List D} : W a = some (.xd fs) → fs.map Prod.fst = ns → RepAll K W (fs.map Prod.snd) ds → XRep K W (.kept C ns ds) (.ref C) (some a)
def XC (K : PySem.W.Frag) (E : XK) (W H : Hp) (Z : Exn → Prop) : Prop := ∀ x cls dd W' H', Ex W H W' H' → XRep K W' x cls dd → Z x → E cls dd H'
theorem XC.ext {K : PySem.W.Frag} {E : XK} {W H W' H' : Hp} {Z : Exn → Prop} (h : XC K E W H Z) (e : Ex W H W' H') : XC K E W' H' Z := fun x cls dd W2 H2 e2 => h x cls dd W2 H2 (e.trans e2)

/-! ### the top of a thing in the heap, its parts in what is seen -/
inductive RepT (K : PySem.W.Frag) (W H : Hp) : V → D → Prop
  | val {v : V} {d : D} : Rep K W v d → RepT K W H v d
  | lst {a : Addr} {vs : List V} {ds : List D} : H a = some (.lst vs) → RepAll K W vs ds → vs.length ≤ sizeLine → RepT K W H (.ref a) (.lst ds)
  | dic {a : Addr} {kvs : List (Key × V)} {ks : List Key} {ds : List D} : Rd H a (.dK kvs) → kvs.map Prod.fst = ks → RepAll K W (kvs.map Prod.snd) ds → kvs.length ≤ sizeLine → RepT K W H (.ref a) (.dic ks ds)
  | obj {a C dx : Addr} {fs : List (Str × V)} {ns : List Str} {ds : List D} : H a = some (.ins C dx fs) → fs.map Prod.fst = ns → RepAll K W (fs.map Prod.snd) ds → RepT K W H (.ref a) (.obj C ns ds)
inductive RepTs (K : PySem.W.Frag) (W H : Hp) : List V → List D → Prop
  | nil : RepTs K W H [] []
  | cons {v : V} {vs : List V} {d : D} {ds : List D} : RepT K W H v d → RepTs K W H vs ds → RepTs K W H (v :: vs) (d :: ds)
section
variable {K : PySem.W.Frag} {W H W' H' : Hp}
theorem RepT.full {v : V} {d : D} (s : Gx W H) (h : RepT K W H v d) : Rep K H v d := by
  cases h with
  | val h => exact h.gx s
  | lst h hs n => exact .lst h (hs.gx s) n
  | dic h k hs n => exact .dic h k (hs.gx s) n
  | obj h k hs => exact .obj h k (hs.gx s)
theorem RepT.ext {v : V} {d : D} (e : Ex W H W' H') (h : RepT K W H v d) : RepT K W' H' v d := by
  cases h with
  | val h => exact .val (h.gx e.w)
  | lst h hs n => exact .lst (e.h _ _ h) (hs.gx e.w) n
  | dic h k hs n => exact .dic (e.h.rd h) k (hs.gx e.w) n
  | obj h k hs => exact .obj (e.h _ _ h) k (hs.gx e.w)
theorem RepTs.ext {vs : List V} {ds : List D} (e : Ex W H W' H') (h : RepTs K W H vs ds) : RepTs K W' H' vs ds := by
  induction h with
  | nil => exact .nil
  | cons h _ ih => exact .cons (h.ext e) ih
theorem RepAll.ts {vs : List V} {ds : List D} : ∀ {vs : List V} {ds : List D}, RepAll K W vs ds → RepTs K W H vs ds
  | _, _, .nil => .nil
  | _, _, .cons h hs => .cons (.val h) (RepAll.ts (vs := []) (ds := []) hs)
/-- a sequence's items -/
theorem RepT.lst_inv {v : V} {ds : List D} (s : Gx W H) (h : RepT K W H v (.lst ds)) : ∃ a vs, v = .ref a ∧ H a = some (.lst vs) ∧ RepAll K W vs ds ∧ vs.length ≤ sizeLine := by
  cases h with
  | val h =>
    cases h with
    | lst h hs n => exact ⟨_, _, rfl, s _ _ h, hs, n⟩
  | lst h hs n => exact ⟨_, _, rfl, h, hs, n⟩
theorem RepT.tup_inv {v : V} {ds : List D} (s : Gx W H) (h : RepT K W H v (.tup ds)) : ∃ a vs, v = .ref a ∧ SqT K H a vs ∧ RepAll K W vs ds ∧ vs.length ≤ sizeLine := by
  cases h with
  | val h =>
    cases h with
    | tup h hs n => exact ⟨_, _, rfl, s.t h, hs, n⟩
theorem RepT.dic_inv {v : V} {ks : List Key} {ds : List D} (s : Gx W H) (h : RepT K W H v (.dic ks ds)) : ∃ a kvs, v = .ref a ∧ Rd H a (.dK kvs) ∧ kvs.map Prod.fst = ks ∧ RepAll K W (kvs.map Prod.snd) ds ∧ kvs.length ≤ sizeLine := by
  cases h with
  | val h =>
    cases h with
    | dic h k hs n => exact ⟨_, _, rfl, s.rd h, k, hs, n⟩
  | dic h k hs n => exact ⟨_, _, rfl, h, k, hs, n⟩
theorem RepT.obj_inv {v : V} {C : Addr} {ns : List Str} {ds : List D} (s : Gx W H) (h : RepT K W H v (.obj C ns ds)) : ∃ a dx fs, v = .ref a ∧ H a = some (.ins C dx fs) ∧ fs.map Prod.fst = ns ∧ RepAll K W (fs.map Prod.snd) ds := by
  cases h with
  | val h =>
    cases h with
    | obj h k hs => exact ⟨_, _, _, rfl, s _ _ h, k, hs⟩
  | obj h k hs => exact ⟨_, _, _, rfl, h, k, hs⟩
theorem RepT.int_inv {v : V} {i : Int} (h : RepT K W H v (.int i)) : v = .int i := by
  cases h with
  | val h => cases h; rfl
theorem RepT.str_inv {v : V} {i : Str} (h : RepT K W H v (.str i)) : v = .str i := by
  cases h with
  | val h => cases h; rfl
theorem RepT.bl_inv {v : V} {i : Bool} (h : RepT K W H v (.bl i)) : v = .bl i := by
  cases h with
  | val h => cases h; rfl
theorem RepT.non_inv {v : V} (h : RepT K W H v .non) : v = .non := by
  cases h with
  | val h => cases h; rfl
theorem RepT.dice_inv {v : V} (s : Gx W H) (h : RepT K W H v .dice) : ∃ a, v = .ref a ∧ H a = some (diceO a) := by
  cases h with
  | val h =>
    cases h with
    | dice h => exact ⟨_, rfl, s _ _ h⟩
theorem RepT.cls_inv {v : V} {C : Addr} (h : RepT K W H v (.cls C)) : v = .ref C := by
  cases h with
  | val h => cases h; rfl
/-- items of a list or a tuple -/
def seqD : D → Option (List D)
  | .lst ds => some ds
  | .tup ds => some ds
  | _ => none
theorem RepT.seq_inv {v : V} {d : D} {ds : List D} (s : Gx W H) (h : RepT K W H v d) (hd : seqD d = some ds) : ∃ a vs, v = .ref a ∧ (SqL K H a vs ∨ SqT K H a vs) ∧ RepAll K W vs ds ∧ vs.length ≤ sizeLine := by
  cases d with
  | lst es =>
    cases hd
    obtain ⟨a, vs, h1, h2, h3⟩ := h.lst_inv s
    exact ⟨a, vs, h1, .inl (SqL.of h2), h3⟩
  | tup es =>
    cases hd
    obtain ⟨a, vs, h1, h2, h3⟩ := h.tup_inv s
    exact ⟨a, vs, h1, .inr h2, h3⟩
  | _ => cases hd
end

/-! ### readings -/
abbrev ZX := Exn → Prop
abbrev FE := Env → (D → Prop) → ZX → Prop
abbrev FT := Env → (Bool → Prop) → ZX → Prop
abbrev FA := Env → (List D → Prop) → ZX → Prop
def tD (K : PySem.W.Frag) (E : XK) (F : FE) : TE := fun σ H Qh => ∃ W0 H0 W ρ Q Z, Sat K W0 H0 W ρ σ H ∧ F ρ Q Z ∧ (∀ v W' H' d, Ex W H W' H' → Rep K W' v d → Q d → Qh v H') ∧ XC K E W H Z
def tDT (K : PySem.W.Frag) (E : XK) (F : FE) : TE := fun σ H Qh => ∃ W0 H0 W ρ Q Z, Sat K W0 H0 W ρ σ H ∧ F ρ Q Z ∧ (∀ v W' H' d, Ex W H W' H' → RepT K W' H' v d → Q d → Qh v H') ∧ XC K E W H Z
def tDN (K : PySem.W.Frag) (E : XK) (F : FA) : TE := fun σ H Qh => ∃ W0 H0 W ρ Q Z, Sat K W0 H0 W ρ σ H ∧ F ρ Q Z ∧
  (∀ p vs W' H' ds, Ex W H W' H' → H p = none → W' p = none → H' p = some (.lst vs) → RepAll K W' vs ds → vs.length ≤ sizeLine → Q ds → Qh (.ref p) H') ∧ XC K E W H Z
def tDB (K : PySem.W.Frag) (E : XK) (F : FT) : TT := fun σ H Qh => ∃ W0 H0 W ρ Q Z, Sat K W0 H0 W ρ σ H ∧ F ρ Q Z ∧ (∀ b W' H', Ex W H W' H' → Q b → Qh b H') ∧ XC K E W H Z
def tDA (K : PySem.W.Frag) (E : XK) (F : FA) : TA := fun σ H Qh => ∃ W0 H0 W ρ Q Z, Sat K W0 H0 W ρ σ H ∧ F ρ Q Z ∧ (∀ vs W' H' ds, Ex W H W' H' → RepAll K W' vs ds → Q ds → Qh vs H') ∧ XC K E W H Z
def tDAT (K : PySem.W.Frag) (E : XK) (F : FA) : TA := fun σ H Qh => ∃ W0 H0 W ρ Q Z, Sat K W0 H0 W ρ σ H ∧ F ρ Q Z ∧ (∀ vs W' H' ds, Ex W H W' H' → RepTs K W' H' vs ds → Q ds → Qh vs H') ∧ XC K E W H Z
theorem _root_.L2.PE.mono {X : Cx} {e : Expr} {t u : TE} (h : PE X e t) (m : ∀ σ H Q, u σ H Q → t σ H Q) : PE X e u := ⟨fun pins s σ H Q I q => h.run pins s σ H Q I (m _ _ _ q)⟩
theorem _root_.L2.PT.mono {X : Cx} {e : Expr} {t u : TT} (h : PT X e t) (m : ∀ σ H Q, u σ H Q → t σ H Q) : PT X e u := ⟨fun pins s σ H Q I q => h.run pins s σ H Q I (m _ _ _ q)⟩
theorem _root_.L2.PW.mono {X : Cx} {e : Expr} {t u : TT} (h : PW X e t) (m : ∀ σ H Q, u σ H Q → t σ H Q) : PW X e u := ⟨fun wh pins s σ H Q I q => h.run wh pins s σ H Q I (m _ _ _ q)⟩
theorem _root_.L2.PA.mono {X : Cx} {e : List Expr} {t u : TA} (h : PA X e t) (m : ∀ σ H Q, u σ H Q → t σ H Q) : PA X e u := ⟨fun pos pins s σ H Q I q => h.run pos pins s σ H Q I (m _ _ _ q)⟩

/-! ### what is read: names, constants -/
def bD : B → Option D
  | .val d => some d
  | .lst ds => some (.lst ds)
  | .dic ks ds => some (.dic ks ds)
  | .obj _ C ns ds => some (.obj C ns ds)
  | .un => none
def fVar (i : Nat) : FE := fun ρ Q _ => ∃ d, ρ[i]? = some (.val d) ∧ Q d
def fVarT (i : Nat) : FE := fun ρ Q _ => ∃ b d, ρ[i]? = some b ∧ bD b = some d ∧ Q d
def fC (d : D) : FE := fun _ Q _ => Q d
section
variable {X : Cx} {K : PySem.W.Frag} {E : XK} {F G : FE} {N : FA} {e a b : Expr} {i : Nat} {pos : Pos}
theorem d_var {x : Str} (h : PE X (.Name x pos) (tVar i)) : PE X (.Name x pos) (tD K E (fVar i)) := h.mono fun σ H Qh ⟨W0, H0, W, ρ, Q, Z, st, ⟨d, hi, q⟩, k, _⟩ => by
  obtain ⟨v, h1, h2⟩ := st.val hi
  exact ⟨v, h1, k v W H d (Ex.refl st.see) h2 q⟩
theorem d_varT {x : Str} (h : PE X (.Name x pos) (tVar i)) : PE X (.Name x pos) (tDT K E (fVarT i)) := h.mono fun σ H Qh ⟨W0, H0, W, ρ, Q, Z, st, ⟨b, d, hi, hd, q⟩, k, _⟩ => by
  obtain ⟨oa, _, h2⟩ := st.rep
  obtain ⟨s, h3, h4⟩ := h2 i b hi
  cases b with
  | un => cases hd
  | val d' =>
    cases hd
    obtain ⟨_, v, h5, h6⟩ := h4
    exact ⟨v, by rw [h3, h5], k v W H d (Ex.refl st.see) (.val h6) q⟩
  | lst ds =>
    cases hd
    obtain ⟨p, vs, _, h5, _, _, h6, h7, h8⟩ := h4
    exact ⟨.ref p, by rw [h3, h5], k _ W H _ (Ex.refl st.see) (.lst h6 h7 h8) q⟩
  | dic ks ds =>
    cases hd
    obtain ⟨p, vs, _, h5, _, _, h6, h7, h8, h9⟩ := h4
    exact ⟨.ref p, by rw [h3, h5], k _ W H _ (Ex.refl st.see) (.dic (.inl h6) h7 h8 h9) q⟩
  | obj a C ns ds =>
    cases hd
    obtain ⟨p, dx, vs, _, _, h5, _, _, h6, _, _, h7, h8, _⟩ := h4
    exact ⟨.ref p, by rw [h3, h5], k _ W H _ (Ex.refl st.see) (.obj h6 h7 h8) q⟩
theorem d_c {v : V} {d : D} (h : PE X e (tC v)) (r : ∀ W, Rep K W v d) : PE X e (tD K E (fC d)) := h.mono fun σ H Qh ⟨W0, H0, W, ρ, Q, Z, st, q, k, _⟩ => k v W H d (Ex.refl st.see) (r W) q
theorem d_int {n : Int} (h : PE X e (tC (.int n))) : PE X e (tD K E (fC (.int n))) := d_c h fun _ => .int n
theorem d_str {n : Str} (h : PE X e (tC (.str n))) : PE X e (tD K E (fC (.str n))) := d_c h fun _ => .str n
theorem d_bl {n : Bool} (h : PE X e (tC (.bl n))) : PE X e (tD K E (fC (.bl n))) := d_c h fun _ => .bl n
theorem d_non (h : PE X e (tC .non)) : PE X e (tD K E (fC .non)) := d_c h fun _ => .non
theorem d_cls {C : Addr} (h : PE X e (tC (.ref C))) : PE X e (tD K E (fC (.cls C))) := d_c h fun _ => .cls C
/-- a value may be read -/
theorem d_t (h : PE X e (tD K E F)) : PE X e (tDT K E F) := h.mono fun σ H Qh ⟨W0, H0, W, ρ, Q, Z, st, f, k, x⟩ => ⟨W0, H0, W, ρ, Q, Z, st, f, fun v W' H' d e r q => k v W' H' d e (.val r) q, x⟩
/-- a new list is a value -/
def fNew (F : FA) : FE := fun ρ Q Z => F ρ (fun ds => Q (.lst ds)) Z
theorem d_n (h : PE X e (tDN K E N)) : PE X e (tD K E (fNew N)) := h.mono fun σ H Qh ⟨W0, H0, W, ρ, Q, Z, st, f, k, x⟩ => ⟨W0, H0, W, ρ, _, Z, st, f, fun p vs W' H' ds e hp hw h' r n q =>
  k _ _ H' _ (e.see hp hw h') (.lst upd_same (r.gx (Gx.new hw)) n) q, x⟩
theorem d_nt (h : PE X e (tDN K E N)) : PE X e (tDT K E (fNew N)) := d_t (d_n h)

/-! ### operators -/
/-- an operation by values -/
def RSnd (K : PySem.W.Frag) (r : R2) (R : D → D → (D → Prop) → Prop) : Prop := ∀ W H x y a b Q Qh, Gx W H → RepT K W H x a → RepT K W H y b → R a b Q → (∀ v W' H' d, Ex W H W' H' → Rep K W' v d → Q d → Qh v H') → r x y H Qh
def fOp (R : D → D → (D → Prop) → Prop) (F G : FE) : FE := fun ρ Q Z => F ρ (fun a => G ρ (fun b => R a b Q) Z) Z
theorem op_to {r : R2} {R : D → D → (D → Prop) → Prop} (hR : RSnd K r R) {σ : L2.St} {H : Hp} {Qh : VK} (h : tD K E (fOp R F G) σ H Qh) : tOp r (tDT K E F) (tDT K E G) σ H Qh := by
  obtain ⟨W0, H0, W, ρ, Q, Z, st, f, k, x⟩ := h
  refine ⟨W0, H0, W, ρ, _, Z, st, f, fun v W1 H1 d e1 r1 g => ?_, x⟩
  refine ⟨W0, H0, W1, ρ, _, Z, st.ext e1, g, fun v2 W2 H2 d2 e2 r2 q => ?_, x.ext e1⟩
  exact hR W2 H2 v v2 d d2 Q Qh e2.s (r1.ext e2) r2 q fun v3 W3 H3 d3 e3 r3 q3 => k v3 W3 H3 d3 ((e1.trans e2).trans e3) r3 q3
theorem d_op {op : Operator} {r : R2} {R : D → D → (D → Prop) → Prop} (ho : OpR X (binaryOp op) r) (hR : RSnd K r R) (ha : PE X a (tDT K E F)) (hb : PE X b (tDT K E G)) : PE X (.BinOp a op b pos) (tD K E (fOp R F G)) := (pe_op ho ha hb).mono fun _ _ _ h => op_to hR h
theorem d_cmp {op : CmpOp} {r : R2} {R : D → D → (D → Prop) → Prop} (ho : OpR X (compareOp op) r) (hR : RSnd K r R) (ha : PE X a (tDT K E F)) (hb : PE X b (tDT K E G)) (hm : behindInMarks op b = false) : PE X (.Compare a [op] [b] pos) (tD K E (fOp R F G)) := (pe_cmpR ho ha hb hm).mono fun _ _ _ h => op_to hR h
theorem d_ix {r : R2} {R : D → D → (D → Prop) → Prop} (hr : IxR X r) (hR : RSnd K r R) (ha : PE X a (tDT K E F)) (hb : PE X b (tDT K E G)) (hs : PlainIx b) : PE X (.Subscript a b pos) (tD K E (fOp R F G)) := (pe_ix hr ha hb hs).mono fun _ _ _ h => op_to hR h
/-- a value that is a truth value, as a test -/
def fTst (F : FE) : FT := fun ρ Q Z => F ρ (fun d => ∃ b, d = .bl b ∧ Q b) Z
theorem tst_to {σ : L2.St} {H : Hp} {Qh : Bool → Hp → Prop} (h : tDB K E (fTst F) σ H Qh) : tD K E F σ H fun x H1 => ∃ c, x = .bl c ∧ Qh c H1 := by
  obtain ⟨W0, H0, W, ρ, Q, Z, st, f, k, x⟩ := h
  refine ⟨W0, H0, W, ρ, _, Z, st, f, fun v W' H' d e r ⟨b, z, q⟩ => ?_, x⟩
  subst z
  cases r
  exact ⟨b, rfl, k b W' H' e q⟩
theorem d_test (h : PE X e (tD K E F)) (he : ∀ whole, isTrue e X.env whole = (do let v ← whole; standAt e.pos; holding [v] (truthy v)) := by intro _; rfl) : PT X e (tDB K E (fTst F)) := (pt_val h he).mono fun _ _ _ h => tst_to h
theorem d_tcmp {op : CmpOp} {r : R2} {R : D → D → (D → Prop) → Prop} (ho : OpR X (compareOp op) r) (hR : RSnd K r R) (ha : PE X a (tDT K E F)) (hb : PE X b (tDT K E G)) (hm : behindInMarks op b = false) : PT X (.Compare a [op] [b] pos) (tDB K E (fTst (fOp R F G))) :=
  (pt_cmpR ho ha hb hm).mono fun σ H Qh h => op_to hR (tst_to h)
end
end Pu

set_option Elab.async false
set_option maxRecDepth 100000
set_option linter.all false
namespace Pu
open PySem PySem.Spec PyProof.Rows L2 Ly

/-! ### plain data -/
mutual
def toP : D → PyData
  | .non => .none
  | .bl b => .bool b
  | .int i => .int i
  | .str x => .str x
  | .lst ds => .list (toPs ds)
  | .tup ds => .tuple (toPs ds)
  | _ => .dict []
def toPs : List D → List PyData
  | [] => []
  | d :: ds => toP d :: toPs ds
end
theorem toPs_map : ∀ ds : List D, toPs ds = ds.map toP
  | [] => rfl
  | d :: ds => by rw [toPs, toPs_map ds]; rfl
mutual
theorem Rep.dp {K : PySem.W.Frag} {W : Hp} : ∀ {v : V} {d : D}, Rep K W v d → (toP d).canLay0 = true → Dp K W v (toP d)
  | _, _, .non, _ => .non
  | _, _, .bl b, _ => .bl b
  | _, _, .int i, _ => .int i
  | _, _, .str x, _ => .str x
  | _, _, .lst h hs _, z => .lst (SqL.of h) (RepAll.dp hs (by simpa [toP, PyData.canLay0] using z))
  | _, _, .tup h hs _, z => .tup h (RepAll.dp hs (by simpa [toP, PyData.canLay0] using z))
  | _, _, .dic .., z => by simp [toP, PyData.canLay0] at z
  | _, _, .obj .., z => by simp [toP, PyData.canLay0] at z
  | _, _, .dice .., z => by simp [toP, PyData.canLay0] at z
  | _, _, .cls .., z => by simp [toP, PyData.canLay0] at z
  | _, _, .exn .., z => by simp [toP, PyData.canLay0] at z
  | _, _, .lsk .., z => by simp [toP, PyData.canLay0] at z
theorem RepAll.dp {K : PySem.W.Frag} {W : Hp} : ∀ {vs : List V} {ds : List D}, RepAll K W vs ds → PyData.canLayAll0 (toPs ds) = true → DpAll K W vs (toPs ds)
  | _, _, .nil, _ => .nil
  | _, _, .cons h hs, z => by
    rw [toPs, PyData.canLayAll0, Bool.and_eq_true] at z
    exact .cons (Rep.dp h z.1) (RepAll.dp hs z.2)
end
/-- may be compared as data -/
def shp (d : D) : Prop := SeqAt.shaped (toP d) = true
theorem shp_lay {d : D} (h : shp d) : (toP d).canLay0 = true := by
  unfold shp SeqAt.shaped at h
  rw [Bool.and_eq_true] at h
  exact h.1
/-- == of scalars -/
def sc : D → D → Option Bool
  | .int i, .int j => some (decide (i = j))
  | .str i, .str j => some (decide (i = j))
  | .bl i, .bl j => some (decide (i = j))
  | .non, .non => some true
  | .non, .int _ => some false | .int _, .non => some false | .non, .bl _ => some false | .bl _, .non => some false | .non, .str _ => some false | .str _, .non => some false
  | .int _, .str _ => some false | .str _, .int _ => some false | .bl _, .str _ => some false | .str _, .bl _ => some false
  | _, _ => none
def REq (a b : D) (Q : D → Prop) : Prop := match sc a b with
  | some c => Q (.bl c)
  | none => shp a ∧ shp b ∧ Q (.bl (PyData.eqv (toP a) (toP b)))
def RNe (a b : D) (Q : D → Prop) : Prop := match sc a b with
  | some c => Q (.bl (!c))
  | none => shp a ∧ shp b ∧ Q (.bl (!PyData.eqv (toP a) (toP b)))
section
variable {K : PySem.W.Frag} {X : Cx}
theorem sc_v {W H : Hp} {x y : V} {a b : D} {c : Bool} (r1 : RepT K W H x a) (r2 : RepT K W H y b) (h : sc a b = some c) : scal x y = true ∧ decide (x = y) = c := by
  cases a <;> cases b <;> first
    | (cases h; done)
    | skip
  all_goals
    first
    | (rw [r1.int_inv, r2.int_inv]; cases h; exact ⟨rfl, by simp⟩)
    | (rw [r1.str_inv, r2.str_inv]; cases h; exact ⟨rfl, by simp⟩)
    | (rw [r1.bl_inv, r2.bl_inv]; cases h; exact ⟨rfl, by simp⟩)
    | (rw [r1.non_inv, r2.non_inv]; cases h; exact ⟨rfl, by simp⟩)
    | (rw [r1.non_inv, r2.int_inv]; cases h; exact ⟨rfl, by simp⟩)
    | (rw [r1.int_inv, r2.non_inv]; cases h; exact ⟨rfl, by simp⟩)
    | (rw [r1.non_inv, r2.bl_inv]; cases h; exact ⟨rfl, by simp⟩)
    | (rw [r1.bl_inv, r2.non_inv]; cases h; exact ⟨rfl, by simp⟩)
    | (rw [r1.non_inv, r2.str_inv]; cases h; exact ⟨rfl, by simp⟩)
    | (rw [r1.str_inv, r2.non_inv]; cases h; exact ⟨rfl, by simp⟩)
    | (rw [r1.int_inv, r2.str_inv]; cases h; exact ⟨rfl, by simp⟩)
    | (rw [r1.str_inv, r2.int_inv]; cases h; exact ⟨rfl, by simp⟩)
    | (rw [r1.bl_inv, r2.str_inv]; cases h; exact ⟨rfl, by simp⟩)
    | (rw [r1.str_inv, r2.bl_inv]; cases h; exact ⟨rfl, by simp⟩)
def rEqA (K : PySem.W.Frag) : R2 := fun x y H Q => rEq x y H Q ∨ rEqD K x y H Q
def rNeA (K : PySem.W.Frag) : R2 := fun x y H Q => rNe x y H Q ∨ rNeD K x y H Q
theorem op_eqA (hu : X.A.units + 64 < cLine) (hK : X.K = K := by rfl) : OpR X (compareOp .Eq) (rEqA K) := OpR.or op_eq (kop_eqD hu hK)
theorem op_neA (hu : X.A.units + 64 < cLine) (hK : X.K = K := by rfl) : OpR X (compareOp .NotEq) (rNeA K) := OpR.or op_ne (kop_neD hu hK)
theorem s_eq : RSnd K (rEqA K) REq := fun W H x y a b Q Qh s r1 r2 h k => by
  unfold REq at h
  cases q : sc a b with
  | some c =>
    rw [q] at h
    obtain ⟨h1, h2⟩ := sc_v r1 r2 q
    refine .inl ⟨h1, ?_⟩
    rw [h2]
    exact k _ W H _ (Ex.refl s) (.bl c) h
  | none =>
    rw [q] at h
    obtain ⟨ha, hb, h⟩ := h
    exact .inr ⟨_, _, (r1.full s).dp (shp_lay ha), (r2.full s).dp (shp_lay hb), ha, hb, k _ W H _ (Ex.refl s) (.bl _) h⟩
theorem s_ne : RSnd K (rNeA K) RNe := fun W H x y a b Q Qh s r1 r2 h k => by
  unfold RNe at h
  cases q : sc a b with
  | some c =>
    rw [q] at h
    obtain ⟨h1, h2⟩ := sc_v r1 r2 q
    refine .inl ⟨h1, ?_⟩
    rw [h2]
    exact k _ W H _ (Ex.refl s) (.bl _) h
  | none =>
    rw [q] at h
    obtain ⟨ha, hb, h⟩ := h
    exact .inr ⟨_, _, (r1.full s).dp (shp_lay ha), (r2.full s).dp (shp_lay hb), ha, hb, k _ W H _ (Ex.refl s) (.bl _) h⟩

/-! ### arithmetic, joins -/
def RAdd : D → D → (D → Prop) → Prop
  | .int i, .int j, Q => Q (.int (i + j))
  | .str x, .str y, Q => x.length + y.length ≤ sizeLine ∧ Q (.str (x ++ y))
  | .lst x, .lst y, Q => x.length + y.length ≤ sizeLine ∧ Q (.lst (x ++ y))
  | .tup x, .tup y, Q => x.length + y.length ≤ sizeLine ∧ Q (.tup (x ++ y))
  | _, _, _ => False
def rAddS : R2 := fun x y H Q => ∃ i j, x = .str i ∧ y = .str j ∧ i.length + j.length ≤ sizeLine ∧ Q (.str (i ++ j)) H
def rAddA (K : PySem.W.Frag) : R2 := fun x y H Q => (rI0 (fun i j => .int (i + j)) x y H Q ∨ rAddS x y H Q) ∨ (rCat x y H Q ∨ rCatA K x y H Q)
theorem op_addA (hK : X.K = K := by rfl) : OpR X (binaryOp .Add) (rAddA K) := by
  subst hK
  exact OpR.or (OpR.or op_add op_add_str) (OpR.or op_cat op_catA)
theorem s_add : RSnd K (rAddA K) RAdd := fun W H x y a b Q Qh s r1 r2 h k => by
  cases a <;> cases b <;> first
    | exact h.elim
    | skip
  · exact .inl (.inl ⟨_, _, r1.int_inv, r2.int_inv, k _ W H _ (Ex.refl s) (.int _) h⟩)
  · exact .inl (.inr ⟨_, _, r1.str_inv, r2.str_inv, h.1, k _ W H _ (Ex.refl s) (.str _) h.2⟩)
  · obtain ⟨p, vs, e1, h1, h2, h3⟩ := r1.lst_inv s
    obtain ⟨q, us, e2, h4, h5, h6⟩ := r2.lst_inv s
    refine .inr (.inl ⟨p, q, vs, us, e1, e2, h1, h4, by rw [h2.len, h5.len]; exact h.1, fun l hl => k _ _ _ _ (Ex.new s hl) (.lst upd_same ((h2.app h5).gx (Gx.new (s.free hl))) ?_) h.2⟩)
    rw [List.length_append, h2.len, h5.len]
    exact h.1
  · obtain ⟨p, vs, e1, h1, h2, h3⟩ := r1.tup_inv s
    obtain ⟨q, us, e2, h4, h5, h6⟩ := r2.tup_inv s
    rename_i xs ys
    have hn : vs.length + us.length ≤ sizeLine := by rw [h2.len, h5.len]; exact h.1
    refine .inr (.inr ⟨p, q, vs, us, e1, e2, h1, h4, hn, fun z => ?_, fun _ z => ?_, fun _ _ l hl => k _ _ _ _ (Ex.new s hl) (.tup (SqT.of upd_same) ((h2.app h5).gx (Gx.new (s.free hl))) (by rw [List.length_append]; exact hn)) h.2⟩)
    · subst z
      cases h2
      cases r2 with
      | val r2 =>
        subst e2
        exact k _ W H _ (Ex.refl s) r2 h.2
    · subst z
      cases h5
      cases r1 with
      | val r1 =>
        subst e1
        have h7 := h.2
        rw [List.append_nil] at h7
        exact k _ W H _ (Ex.refl s) r1 h7
def RI (C : Int → Int → Prop) (g : Int → Int → D) : D → D → (D → Prop) → Prop
  | .int i, .int j, Q => C i j ∧ Q (g i j)
  | _, _, _ => False
def RI0 (g : Int → Int → D) : D → D → (D → Prop) → Prop
  | .int i, .int j, Q => Q (g i j)
  | _, _, _ => False
theorem s_I {C : Int → Int → Prop} {f : Int → Int → V} {g : Int → Int → D} (hg : ∀ W i j, Rep K W (f i j) (g i j)) : RSnd K (rI C f) (RI C g) := fun W H x y a b Q Qh s r1 r2 h k => by
  cases a <;> cases b <;> first
    | exact h.elim
    | skip
  exact ⟨_, _, r1.int_inv, r2.int_inv, h.1, k _ W H _ (Ex.refl s) (hg W _ _) h.2⟩
theorem s_I0 {f : Int → Int → V} {g : Int → Int → D} (hg : ∀ W i j, Rep K W (f i j) (g i j)) : RSnd K (rI0 f) (RI0 g) := fun W H x y a b Q Qh s r1 r2 h k => by
  cases a <;> cases b <;> first
    | exact h.elim
    | skip
  exact ⟨_, _, r1.int_inv, r2.int_inv, k _ W H _ (Ex.refl s) (hg W _ _) h⟩
abbrev RSub := RI0 fun i j => .int (i - j)
abbrev RMod := RI (fun _ j => 0 < j) fun i j => .int (i % j)
abbrev RMul := RI CMul fun i j => .int (i * j)
abbrev RLt := RI0 fun i j => .bl (decide (i < j))
abbrev RLe := RI0 fun i j => .bl (decide (i ≤ j))
abbrev RGt := RI0 fun i j => .bl (decide (j < i))
abbrev RGe := RI0 fun i j => .bl (decide (j ≤ i))
theorem s_sub : RSnd K (rI0 fun i j => .int (i - j)) RSub := s_I0 fun _ _ _ => .int _
theorem s_mod : RSnd K (rI (fun _ j => 0 < j) fun i j => .int (i % j)) RMod := s_I fun _ _ _ => .int _
theorem s_mul : RSnd K (rI CMul fun i j => .int (i * j)) RMul := s_I fun _ _ _ => .int _
theorem s_lt : RSnd K (rI0 fun i j => .bl (decide (i < j))) RLt := s_I0 fun _ _ _ => .bl _
theorem s_le : RSnd K (rI0 fun i j => .bl (decide (i ≤ j))) RLe := s_I0 fun _ _ _ => .bl _
theorem s_gt : RSnd K (rI0 fun i j => .bl (decide (j < i))) RGt := s_I0 fun _ _ _ => .bl _
theorem s_ge : RSnd K (rI0 fun i j => .bl (decide (j ≤ i))) RGe := s_I0 fun _ _ _ => .bl _
/-- is None -/
def isN : D → Bool
  | .non => true
  | _ => false
def RIsN (a b : D) (Q : D → Prop) : Prop := b = .non ∧ Q (.bl (isN a))
def RNotN (a b : D) (Q : D → Prop) : Prop := b = .non ∧ Q (.bl (!isN a))
theorem isN_v {W H : Hp} {x : V} {a : D} (r : RepT K W H x a) : decide (x = .non) = isN a := by
  cases r with
  | val r => cases r <;> simp [isN]
  | _ => simp [isN]
theorem s_isN : RSnd K (fun x y H Q => y = .non ∧ Q (.bl (decide (x = .non))) H) RIsN := fun W H x y a b Q Qh s r1 r2 h k => by
  obtain ⟨rfl, h⟩ := h
  exact ⟨r2.non_inv, k _ W H _ (Ex.refl s) (.bl _) (by rw [isN_v r1]; exact h)⟩
theorem s_notN : RSnd K (fun x y H Q => y = .non ∧ Q (.bl (!decide (x = .non))) H) RNotN := fun W H x y a b Q Qh s r1 r2 h k => by
  obtain ⟨rfl, h⟩ := h
  exact ⟨r2.non_inv, k _ W H _ (Ex.refl s) (.bl _) (by rw [isN_v r1]; exact h)⟩
/-! ### x in .. -/
def flD : D → Bool
  | .non => true
  | .bl _ => true
  | .int _ => true
  | .str _ => true
  | _ => false
def eqF : D → D → Bool
  | .non, .non => true
  | .bl a, .bl b => a == b
  | .bl a, .int b => (if a then 1 else 0) == b
  | .int a, .bl b => a == (if b then 1 else 0)
  | .int a, .int b => a == b
  | .str a, .str b => a == b
  | _, _ => false
/-- a flat value in a list or tuple of flat ones; data in a list of data; a sign in a text -/
def RIn (neg : Bool) (a b : D) (Q : D → Prop) : Prop := match b with
  | .lst ds => (flD a = true ∧ ds.all flD = true ∧ Q (.bl (neg != ds.any fun y => eqF y a))) ∨ (shp a ∧ shp b ∧ Q (.bl (neg != ds.any fun y => PyData.eqv (toP y) (toP a))))
  | .tup ds => flD a = true ∧ ds.all flD = true ∧ Q (.bl (neg != ds.any fun y => eqF y a))
  | .str z => ∃ x, a = .str x ∧ Q (.bl (neg != !(Builtin.Str.occurrences z x 0 z.length 1).isEmpty))
  | _ => False
theorem flat_v {W : Hp} {x : V} {a : D} (r : Rep K W x a) (h : flD a = true) : flatV x = true := by
  cases r <;> first | rfl | cases h
theorem eqF_v {W : Hp} {x y : V} {a b : D} (r : Rep K W x a) (q : Rep K W y b) (h : flD a = true) (h2 : flD b = true) : eqV x y = eqF a b := by
  cases r <;> first
    | (cases h; done)
    | (cases q <;> first | (cases h2; done) | rfl)
theorem any_v {W : Hp} {x : V} {a : D} (r : Rep K W x a) (h : flD a = true) : ∀ {vs : List V} {ds : List D}, RepAll K W vs ds → ds.all flD = true → vs.all flatV = true ∧ inV x vs = ds.any fun y => eqF y a
  | _, _, .nil, _ => ⟨rfl, rfl⟩
  | _, _, .cons q hs, z => by
    rw [List.all_cons, Bool.and_eq_true] at z
    obtain ⟨h1, h2⟩ := any_v r h hs z.2
    refine ⟨by rw [List.all_cons, h1, flat_v q z.1]; rfl, ?_⟩
    unfold inV at h2 ⊢
    rw [List.any_cons, List.any_cons, h2, eqF_v q r z.1 h]
def rInS (neg : Bool) : R2 := fun x y H Q => ∃ i j, x = .str i ∧ y = .str j ∧ Q (.bl (neg != !(Builtin.Str.occurrences j i 0 j.length 1).isEmpty)) H
def rInA (K : PySem.W.Frag) : R2 := fun x y H Q => (rIn K false x y H Q ∨ rInD K x y H Q) ∨ rInS false x y H Q
def rNotInA (K : PySem.W.Frag) : R2 := fun x y H Q => (rIn K true x y H Q ∨ rNotInD K x y H Q) ∨ rInS true x y H Q
theorem op_notIn_str : OpR X (compareOp .NotIn) (rInS true) := by
  intro pins s σ H x y v u Q I rx ry h
  obtain ⟨i, j, rfl, rfl, q⟩ := h
  obtain ⟨t, rfl⟩ := rx
  obtain ⟨t', rfl⟩ := ry
  exact notIn_str (fin_bl I q (by cases (Builtin.Str.occurrences j i 0 j.length 1).isEmpty <;> rfl))
theorem op_inA (hu : X.A.units + 65 < cLine) (hK : X.K = K := by rfl) : OpR X (compareOp .In) (rInA K) := by
  subst hK
  exact OpR.or (OpR.or op_in_seq (op_inD hu)) (fun pins s σ H x y v u Q I rx ry h => op_in_str pins s σ H x y v u Q I rx ry (by
    obtain ⟨i, j, h1, h2, h3⟩ := h
    refine ⟨i, j, h1, h2, ?_⟩
    rw [Bool.false_bne] at h3
    exact h3))
theorem op_notInA (hu : X.A.units + 65 < cLine) (hK : X.K = K := by rfl) : OpR X (compareOp .NotIn) (rNotInA K) := by
  subst hK
  exact OpR.or (OpR.or op_notIn_seq (op_notInD hu)) op_notIn_str
theorem anyP : ∀ (ds : List D) (a : D), ((toPs ds).any fun z => PyData.eqv z (toP a)) = ds.any fun y => PyData.eqv (toP y) (toP a)
  | [], _ => rfl
  | d :: ds, a => by rw [toPs, List.any_cons, List.any_cons, anyP ds a]
theorem s_in : RSnd K (rInA K) (RIn false) := fun W H x y a b Q Qh s r1 r2 h k => by
  cases b with
  | lst ds =>
    obtain ⟨p, vs, e, h1, h2, h3⟩ := r2.lst_inv s
    rcases h with ⟨f1, f2, h⟩ | ⟨f1, f2, h⟩
    · obtain ⟨h4, h5⟩ := any_v (r1.full s) f1 (h2.gx s) f2
      refine .inl (.inl ⟨p, vs, e, .inl (SqL.of h1), flat_v (r1.full s) f1, h4, k _ W H _ (Ex.refl s) (.bl _) ?_⟩)
      rw [h5]
      rw [Bool.false_bne] at h
      exact h
    · refine .inl (.inr ⟨_, toPs ds, (r1.full s).dp (shp_lay f1), (r2.full s).dp (shp_lay f2), f1, f2, k _ W H _ (Ex.refl s) (.bl _) ?_⟩)
      rw [anyP]
      rw [Bool.false_bne] at h
      exact h
  | tup ds =>
    obtain ⟨p, vs, e, h1, h2, h3⟩ := r2.tup_inv s
    obtain ⟨f1, f2, h⟩ := h
    obtain ⟨h4, h5⟩ := any_v (r1.full s) f1 (h2.gx s) f2
    refine .inl (.inl ⟨p, vs, e, .inr h1, flat_v (r1.full s) f1, h4, k _ W H _ (Ex.refl s) (.bl _) ?_⟩)
    rw [h5]
    rw [Bool.false_bne] at h
    exact h
  | str z =>
    obtain ⟨x', rfl, h⟩ := h
    exact .inr ⟨_, _, r1.str_inv, r2.str_inv, k _ W H _ (Ex.refl s) (.bl _) h⟩
  | _ => exact h.elim
theorem s_notIn : RSnd K (rNotInA K) (RIn true) := fun W H x y a b Q Qh s r1 r2 h k => by
  cases b with
  | lst ds =>
    obtain ⟨p, vs, e, h1, h2, h3⟩ := r2.lst_inv s
    rcases h with ⟨f1, f2, h⟩ | ⟨f1, f2, h⟩
    · obtain ⟨h4, h5⟩ := any_v (r1.full s) f1 (h2.gx s) f2
      refine .inl (.inl ⟨p, vs, e, .inl (SqL.of h1), flat_v (r1.full s) f1, h4, k _ W H _ (Ex.refl s) (.bl _) ?_⟩)
      rw [if_pos rfl, h5]
      rw [Bool.true_bne] at h
      exact h
    · refine .inl (.inr ⟨_, toPs ds, (r1.full s).dp (shp_lay f1), (r2.full s).dp (shp_lay f2), f1, f2, k _ W H _ (Ex.refl s) (.bl _) ?_⟩)
      rw [anyP]
      rw [Bool.true_bne] at h
      exact h
  | tup ds =>
    obtain ⟨p, vs, e, h1, h2, h3⟩ := r2.tup_inv s
    obtain ⟨f1, f2, h⟩ := h
    obtain ⟨h4, h5⟩ := any_v (r1.full s) f1 (h2.gx s) f2
    refine .inl (.inl ⟨p, vs, e, .inr h1, flat_v (r1.full s) f1, h4, k _ W H _ (Ex.refl s) (.bl _) ?_⟩)
    rw [if_pos rfl, h5]
    rw [Bool.true_bne] at h
    exact h
  | str z =>
    obtain ⟨x', rfl, h⟩ := h
    exact .inr ⟨_, _, r1.str_inv, r2.str_inv, k _ W H _ (Ex.refl s) (.bl _) h⟩
  | _ => exact h.elim
/-! ### a[i] -/
def RIx : D → D → (D → Prop) → Prop
  | .lst ds, .int i, Q => ∃ d, atI ds i = some d ∧ Q d
  | .tup ds, .int i, Q => ∃ d, atI ds i = some d ∧ Q d
  | .str z, .int i, Q => z.length ≤ sizeLine ∧ ∃ c, atI z.cps.toList i = some c ∧ Q (.str ⟨#[c]⟩)
  | _, _, _ => False
def rIxA (K : PySem.W.Frag) : R2 := fun x y H Q => (rIxL K x y H Q ∨ rIxT K x y H Q) ∨ rIxS x y H Q
theorem ix_A (hK : X.K = K := by rfl) : IxR X (rIxA K) := by
  subst hK
  exact IxR.or (IxR.or ix_list ix_tup) ix_str
theorem at_v {W : Hp} {vs : List V} {ds : List D} {i : Int} {d : D} (r : RepAll K W vs ds) (h : atI ds i = some d) : ∃ v, atI vs i = some v ∧ Rep K W v d := by
  unfold atI at h ⊢
  rw [r.len]
  cases q : ixN ds.length i with
  | none => rw [q] at h; cases h
  | some j =>
    rw [q] at h
    exact r.getD h
theorem s_ix : RSnd K (rIxA K) RIx := fun W H x y a b Q Qh s r1 r2 h k => by
  cases a <;> cases b <;> first
    | exact h.elim
    | skip
  · obtain ⟨z, c, h1, h2⟩ := h
    exact .inr ⟨_, _, c, r1.str_inv, r2.int_inv, z, h1, k _ W H _ (Ex.refl s) (.str _) h2⟩
  · obtain ⟨p, vs, e1, h1, h2, h3⟩ := r1.lst_inv s
    obtain ⟨d, h4, h5⟩ := h
    obtain ⟨v, h6, h7⟩ := at_v h2 h4
    exact .inl (.inl ⟨p, vs, _, v, e1, r2.int_inv, SqL.of h1, h6, k _ W H _ (Ex.refl s) h7 h5⟩)
  · obtain ⟨p, vs, e1, h1, h2, h3⟩ := r1.tup_inv s
    obtain ⟨d, h4, h5⟩ := h
    obtain ⟨v, h6, h7⟩ := at_v h2 h4
    exact .inl (.inr ⟨p, vs, _, v, e1, r2.int_inv, h1, h6, k _ W H _ (Ex.refl s) h7 h5⟩)
end
end Pu

set_option Elab.async false
set_option maxRecDepth 100000
set_option linter.all false
namespace Pu
open PySem PySem.Spec PyProof.Rows L2 Ly
section
variable {X : Cx} {K : PySem.W.Frag} {E : XK} {F G L : FE} {N : FA} {T U : FT} {A A' : FA} {e a b c : Expr} {es rest : List Expr} {i : Nat} {pos : Pos}

/-! ### tests -/
def fAnd (T U : FT) : FT := fun ρ Q Z => T ρ (fun c => if c = true then U ρ Q Z else Q false) Z
def fOr (T U : FT) : FT := fun ρ Q Z => T ρ (fun c => if c = true then Q true else U ρ Q Z) Z
def fNot (T : FT) : FT := fun ρ Q Z => T ρ (fun c => Q (!c)) Z
theorem d_and1 (h : PT X a (tDB K E T)) : PW X (.BoolOp .And [a] pos) (tDB K E T) := pw_and1 h
theorem d_or1 (h : PT X a (tDB K E T)) : PW X (.BoolOp .Or [a] pos) (tDB K E T) := pw_or1 h
theorem d_and (ha : PT X a (tDB K E T)) (hb : PW X (.BoolOp .And (b :: rest) pos) (tDB K E U)) : PW X (.BoolOp .And (a :: b :: rest) pos) (tDB K E (fAnd T U)) := (pw_and ha hb).mono fun σ H Qh ⟨W0, H0, W, ρ, Q, Z, st, f, k, x⟩ =>
  ⟨W0, H0, W, ρ, _, Z, st, f, fun c W1 H1 e1 q => by
    cases c with
    | true =>
      rw [if_pos rfl] at q
      exact iteT ⟨W0, H0, W1, ρ, Q, Z, st.ext e1, q, fun c W2 H2 e2 q2 => k c W2 H2 (e1.trans e2) q2, x.ext e1⟩
    | false =>
      rw [if_neg (by decide)] at q
      exact iteF (k false W1 H1 e1 q), x⟩
theorem d_or (ha : PT X a (tDB K E T)) (hb : PW X (.BoolOp .Or (b :: rest) pos) (tDB K E U)) : PW X (.BoolOp .Or (a :: b :: rest) pos) (tDB K E (fOr T U)) := (pw_or ha hb).mono fun σ H Qh ⟨W0, H0, W, ρ, Q, Z, st, f, k, x⟩ =>
  ⟨W0, H0, W, ρ, _, Z, st, f, fun c W1 H1 e1 q => by
    cases c with
    | true =>
      rw [if_pos rfl] at q
      exact iteT (k true W1 H1 e1 q)
    | false =>
      rw [if_neg (by decide)] at q
      exact iteF ⟨W0, H0, W1, ρ, Q, Z, st.ext e1, q, fun c W2 H2 e2 q2 => k c W2 H2 (e1.trans e2) q2, x.ext e1⟩, x⟩
theorem d_not (h : PT X a (tDB K E T)) : PT X (.UnaryOp .Not a pos) (tDB K E (fNot T)) := (pt_not h).mono fun σ H Qh ⟨W0, H0, W, ρ, Q, Z, st, f, k, x⟩ => ⟨W0, H0, W, ρ, _, Z, st, f, fun c W1 H1 e1 q => k _ W1 H1 e1 q, x⟩
def fAndV (F G : FE) : FE := fun ρ Q Z => F ρ (fun d => ∃ c, d = .bl c ∧ if c = true then G ρ Q Z else Q (.bl false)) Z
def fOrV (F G : FE) : FE := fun ρ Q Z => F ρ (fun d => ∃ c, d = .bl c ∧ if c = true then Q (.bl true) else G ρ Q Z) Z
def fNotV (F : FE) : FE := fun ρ Q Z => F ρ (fun d => ∃ c, d = .bl c ∧ Q (.bl (!c))) Z
theorem d_one {op : BoolOp} (h : PE X a (tD K E F)) : PE X (.BoolOp op [a] pos) (tD K E F) := pe_one h
theorem d_andV (ha : PE X a (tD K E F)) (hb : PE X (.BoolOp .And (b :: rest) pos) (tD K E G)) : PE X (.BoolOp .And (a :: b :: rest) pos) (tD K E (fAndV F G)) := (pe_and ha hb).mono fun σ H Qh ⟨W0, H0, W, ρ, Q, Z, st, f, k, x⟩ =>
  ⟨W0, H0, W, ρ, _, Z, st, f, fun v W1 H1 d e1 r ⟨c, z, q⟩ => by
    subst z
    cases r
    refine ⟨c, rfl, ?_⟩
    cases c with
    | true =>
      rw [if_pos rfl] at q
      exact iteT ⟨W0, H0, W1, ρ, Q, Z, st.ext e1, q, fun c W2 H2 d e2 r2 q2 => k c W2 H2 d (e1.trans e2) r2 q2, x.ext e1⟩
    | false =>
      rw [if_neg (by decide)] at q
      exact iteF (k _ W1 H1 _ e1 (.bl _) q), x⟩
theorem d_orV (ha : PE X a (tD K E F)) (hb : PE X (.BoolOp .Or (b :: rest) pos) (tD K E G)) : PE X (.BoolOp .Or (a :: b :: rest) pos) (tD K E (fOrV F G)) := (pe_or ha hb).mono fun σ H Qh ⟨W0, H0, W, ρ, Q, Z, st, f, k, x⟩ =>
  ⟨W0, H0, W, ρ, _, Z, st, f, fun v W1 H1 d e1 r ⟨c, z, q⟩ => by
    subst z
    cases r
    refine ⟨c, rfl, ?_⟩
    cases c with
    | true =>
      rw [if_pos rfl] at q
      exact iteT (k _ W1 H1 _ e1 (.bl _) q)
    | false =>
      rw [if_neg (by decide)] at q
      exact iteF ⟨W0, H0, W1, ρ, Q, Z, st.ext e1, q, fun c W2 H2 d e2 r2 q2 => k c W2 H2 d (e1.trans e2) r2 q2, x.ext e1⟩, x⟩
theorem d_notV (ha : PE X a (tD K E F)) : PE X (.UnaryOp .Not a pos) (tD K E (fNotV F)) := (pe_not ha).mono fun σ H Qh ⟨W0, H0, W, ρ, Q, Z, st, f, k, x⟩ =>
  ⟨W0, H0, W, ρ, _, Z, st, f, fun v W1 H1 d e1 r ⟨c, z, q⟩ => by
    subst z
    cases r
    exact ⟨c, rfl, k _ W1 H1 _ e1 (.bl _) q⟩, x⟩
def fIf (T : FT) (F G : FE) : FE := fun ρ Q Z => T ρ (fun c => if c = true then F ρ Q Z else G ρ Q Z) Z
theorem d_if (hc : PT X c (tDB K E T)) (ha : PE X a (tD K E F)) (hb : PE X b (tD K E G)) : PE X (.IfExp c a b pos) (tD K E (fIf T F G)) := (pe_ifExp hc ha hb).mono fun σ H Qh ⟨W0, H0, W, ρ, Q, Z, st, f, k, x⟩ =>
  ⟨W0, H0, W, ρ, _, Z, st, f, fun c W1 H1 e1 q => by
    cases c with
    | true =>
      rw [if_pos rfl] at q
      exact iteT ⟨W0, H0, W1, ρ, Q, Z, st.ext e1, q, fun c W2 H2 d e2 r2 q2 => k c W2 H2 d (e1.trans e2) r2 q2, x.ext e1⟩
    | false =>
      rw [if_neg (by decide)] at q
      exact iteF ⟨W0, H0, W1, ρ, Q, Z, st.ext e1, q, fun c W2 H2 d e2 r2 q2 => k c W2 H2 d (e1.trans e2) r2 q2, x.ext e1⟩, x⟩
def fChain (R R' : D → D → (D → Prop) → Prop) (F G L : FE) : FE := fun ρ Q Z => F ρ (fun a => G ρ (fun b => R a b fun z => ∃ k, z = .bl k ∧ if k = true then L ρ (fun c => R' b c Q) Z else Q (.bl false)) Z) Z
theorem chain_to {r r' : R2} {R R' : D → D → (D → Prop) → Prop} (hR : RSnd K r R) (hR' : RSnd K r' R') {σ : L2.St} {H : Hp} {Qh : VK} (h : tD K E (fChain R R' F G L) σ H Qh) : tChain r r' (tDT K E F) (tDT K E G) (tDT K E L) σ H Qh := by
  obtain ⟨W0, H0, W, ρ, Q, Z, st, f, k, x⟩ := h
  refine ⟨W0, H0, W, ρ, _, Z, st, f, fun v W1 H1 d e1 r1 g => ?_, x⟩
  refine ⟨W0, H0, W1, ρ, _, Z, st.ext e1, g, fun v2 W2 H2 d2 e2 r2 q => ?_, x.ext e1⟩
  refine hR W2 H2 v v2 d d2 _ _ e2.s (r1.ext e2) r2 q fun v3 W3 H3 d3 e3 r3 ⟨kk, z, q3⟩ => ?_
  subst z
  cases r3
  refine ⟨kk, rfl, ?_⟩
  cases kk with
  | true =>
    rw [if_pos rfl] at q3
    refine iteT ⟨W0, H0, W3, ρ, _, Z, st.ext ((e1.trans e2).trans e3), q3, fun v4 W4 H4 d4 e4 r4 q4 => ?_, x.ext ((e1.trans e2).trans e3)⟩
    exact hR' W4 H4 _ _ _ _ _ _ e4.s (r2.ext (e3.trans e4)) r4 q4 fun v5 W5 H5 d5 e5 r5 q5 => k v5 W5 H5 d5 ((((e1.trans e2).trans e3).trans e4).trans e5) r5 q5
  | false =>
    rw [if_neg (by decide)] at q3
    exact iteF (k _ W3 H3 _ ((e1.trans e2).trans e3) (.bl _) q3)
theorem d_chain {op op' : CmpOp} {r r' : R2} {R R' : D → D → (D → Prop) → Prop} (ho : OpR X (compareOp op) r) (ho' : OpR X (compareOp op') r') (hR : RSnd K r R) (hR' : RSnd K r' R') (ha : PE X a (tDT K E F)) (hb : PE X b (tDT K E G)) (hc : PE X c (tDT K E L))
    (hm : lastMarks [op, op'] [b, c] = false := by with_unfolding_all rfl) : PE X (.Compare a [op, op'] [b, c] pos) (tD K E (fChain R R' F G L)) := (pe_chain ho ho' ha hb hc hm).mono fun _ _ _ h => chain_to hR hR' h
theorem d_tchain {op op' : CmpOp} {r r' : R2} {R R' : D → D → (D → Prop) → Prop} (ho : OpR X (compareOp op) r) (ho' : OpR X (compareOp op') r') (hR : RSnd K r R) (hR' : RSnd K r' R') (ha : PE X a (tDT K E F)) (hb : PE X b (tDT K E G)) (hc : PE X c (tDT K E L))
    (hm : lastMarks [op, op'] [b, c] = false := by with_unfolding_all rfl) : PT X (.Compare a [op, op'] [b, c] pos) (tDB K E (fTst (fChain R R' F G L))) := (pt_chain ho ho' ha hb hc hm).mono fun _ _ _ h => chain_to hR hR' (tst_to h)

/-! ### minus -/
def fNeg (F : FE) : FE := fun ρ Q Z => F ρ (fun d => ∃ i, d = .int i ∧ Q (.int (-i))) Z
theorem d_neg (h : PE X a (tD K E F)) : PE X (.UnaryOp .USub a pos) (tD K E (fNeg F)) := (pe_un un_neg h).mono fun σ H Qh ⟨W0, H0, W, ρ, Q, Z, st, f, k, x⟩ => ⟨W0, H0, W, ρ, _, Z, st, f, fun v W1 H1 d e1 r ⟨i, z, q⟩ => by
  subst z
  cases r
  exact ⟨i, rfl, k _ W1 H1 _ e1 (.int _) q⟩, x⟩

/-! ### argument lists and displays -/
def fNil : FA := fun _ Q _ => Q []
def fCons (F : FE) (A : FA) : FA := fun ρ Q Z => F ρ (fun d => A ρ (fun ds => Q (d :: ds)) Z) Z
def fStar (F : FE) (A : FA) : FA := fun ρ Q Z => F ρ (fun d => ∃ xs, seqD d = some xs ∧ A ρ (fun ds => Q (xs ++ ds)) Z) Z
theorem d_nil : PA X [] (tDA K E fNil) := pa_nil.mono fun σ H Qh ⟨W0, H0, W, ρ, Q, Z, st, f, k, x⟩ => k [] W H [] (Ex.refl st.see) .nil f
theorem d_nilT : PA X [] (tDAT K E fNil) := pa_nil.mono fun σ H Qh ⟨W0, H0, W, ρ, Q, Z, st, f, k, x⟩ => k [] W H [] (Ex.refl st.see) .nil f
theorem d_cons (ha : PE X e (tD K E F)) (hr : PA X es (tDA K E A)) (hs : starEach (e :: es) X.env = (false, eval e X.env) :: starEach es X.env := by rfl) : PA X (e :: es) (tDA K E (fCons F A)) := (pa_cons ha hr hs).mono fun σ H Qh ⟨W0, H0, W, ρ, Q, Z, st, f, k, x⟩ =>
  ⟨W0, H0, W, ρ, _, Z, st, f, fun v W1 H1 d e1 r q => ⟨W0, H0, W1, ρ, _, Z, st.ext e1, q, fun vs W2 H2 ds e2 rs q2 => k _ W2 H2 _ (e1.trans e2) (.cons (r.gx e2.w) rs) q2, x.ext e1⟩, x⟩
theorem d_consT (ha : PE X e (tDT K E F)) (hr : PA X es (tDAT K E A)) (hs : starEach (e :: es) X.env = (false, eval e X.env) :: starEach es X.env := by rfl) : PA X (e :: es) (tDAT K E (fCons F A)) := (pa_cons ha hr hs).mono fun σ H Qh ⟨W0, H0, W, ρ, Q, Z, st, f, k, x⟩ =>
  ⟨W0, H0, W, ρ, _, Z, st, f, fun v W1 H1 d e1 r q => ⟨W0, H0, W1, ρ, _, Z, st.ext e1, q, fun vs W2 H2 ds e2 rs q2 => k _ W2 H2 _ (e1.trans e2) (.cons (r.ext e2) rs) q2, x.ext e1⟩, x⟩
theorem d_star {p : Pos} (he : PE X e (tDT K E F)) (hr : PA X es (tDA K E A)) (hK : X.K = K := by rfl) (hs : starEach (.Starred e p :: es) X.env = (true, eval e X.env) :: starEach es X.env := by rfl) : PA X (.Starred e p :: es) (tDA K E (fStar F A)) := (kpa_star he hr hK hs).mono fun σ H Qh ⟨W0, H0, W, ρ, Q, Z, st, f, k, x⟩ =>
  ⟨W0, H0, W, ρ, _, Z, st, f, fun v W1 H1 d e1 r ⟨xs, hd, q⟩ => by
    obtain ⟨a, vs, h1, h2, h3, h4⟩ := r.seq_inv e1.s hd
    exact ⟨a, vs, h1, h2.symm, W0, H0, W1, ρ, _, Z, st.ext e1, q, fun us W2 H2 ds e2 rs q2 => k _ W2 H2 _ (e1.trans e2) ((h3.gx e2.w).app rs) q2, x.ext e1⟩, x⟩
def fTup (A : FA) : FE := fun ρ Q Z => A ρ (fun ds => ds.length ≤ sizeLine ∧ Q (.tup ds)) Z
def fLst (A : FA) : FA := fun ρ Q Z => A ρ (fun ds => ds.length ≤ sizeLine ∧ Q ds) Z
theorem d_tup {x1} (h : PA X es (tDA K E A)) : PE X (.Tuple es x1 pos) (tD K E (fTup A)) := (pe_tup h).mono fun σ H Qh ⟨W0, H0, W, ρ, Q, Z, st, f, k, x⟩ => ⟨W0, H0, W, ρ, _, Z, st, f, fun vs W1 H1 ds e1 r ⟨n, q⟩ =>
  ⟨by rw [r.len]; exact n, fun p hp => k _ _ _ _ (e1.trans (Ex.new e1.s hp)) (.tup (SqT.of upd_same) (r.gx (Gx.new (e1.s.free hp))) (by rw [r.len]; exact n)) q⟩, x⟩
theorem d_lst (h : PA X es (tDA K E A)) : PE X (.List es pos) (tDN K E (fLst A)) := (pe_lst h).mono fun σ H Qh ⟨W0, H0, W, ρ, Q, Z, st, f, k, x⟩ => ⟨W0, H0, W, ρ, _, Z, st, f, fun vs W1 H1 ds e1 r ⟨n, q⟩ =>
  ⟨by rw [r.len]; exact n, fun p hp => k p vs W1 _ ds (e1.trans (Ex.hid e1.s hp)) (e1.h.free hp) (e1.s.free hp) upd_same r (by rw [r.len]; exact n) q⟩, x⟩

/-! ### slices -/
abbrev FO := Env → (Option Int → Prop) → ZX → Prop
def tDO (K : PySem.W.Frag) (E : XK) (O : FO) : TO := fun σ H Qh => ∃ W0 H0 W ρ Q Z, Sat K W0 H0 W ρ σ H ∧ O ρ Q Z ∧ (∀ o W' H', Ex W H W' H' → Q o → Qh o H') ∧ XC K E W H Z
def oNo : FO := fun _ Q _ => Q none
def oAt (F : FE) : FO := fun ρ Q Z => F ρ (fun d => ∃ i, d = .int i ∧ Q (some i)) Z
theorem _root_.L2.PO.mono {X : Cx} {e : Option Expr} {t u : TO} (h : PO X e t) (m : ∀ σ H Q, u σ H Q → t σ H Q) : PO X e u := ⟨fun pins s σ H Q I q => h.run pins s σ H Q I (m _ _ _ q)⟩
theorem d_ono : PO X none (tDO K E oNo) := po_none.mono fun σ H Qh ⟨W0, H0, W, ρ, Q, Z, st, f, k, x⟩ => k none W H (Ex.refl st.see) f
theorem d_oat (h : PE X e (tD K E F)) : PO X (some e) (tDO K E (oAt F)) := (po_some h).mono fun σ H Qh ⟨W0, H0, W, ρ, Q, Z, st, f, k, x⟩ => ⟨W0, H0, W, ρ, _, Z, st, f, fun v W1 H1 d e1 r ⟨i, z, q⟩ => by
  subst z
  cases r
  exact ⟨i, rfl, k _ W1 H1 e1 q⟩, x⟩
def cutD (xs : List D) (lo hi : Option Int) : List D := (xs.drop (HT.sIx xs.length 0 lo)).take (HT.sIx xs.length xs.length hi - HT.sIx xs.length 0 lo)
theorem RepAll.cut {W : Hp} {vs : List V} {ds : List D} (h : RepAll K W vs ds) (lo hi : Option Int) : RepAll K W (cutV vs lo hi) (cutD ds lo hi) := by
  unfold cutV cutD
  rw [h.len]
  exact (h.drop _).take _
def RSl (a : D) (lo hi : Option Int) (Q : D → Prop) : Prop := match a with
  | .lst ds => Q (.lst (cutD ds lo hi))
  | .tup ds => Q (.tup (cutD ds lo hi))
  | .str z => z.length ≤ sizeLine ∧ Q (.str (Txt.slice z lo hi))
  | _ => False
def rSlAll (K : PySem.W.Frag) : V → Option Int → Option Int → Hp → VK → Prop := fun x lo hi H Q => (rSlL K x lo hi H Q ∨ rSlA K x lo hi H Q) ∨ C8.rSlX x lo hi H Q
theorem sl_All (hK : X.K = K := by rfl) : SlR X (rSlAll K) := by
  subst hK
  exact SlR.or (SlR.or sl_list sl_tupA) C8.sl_txt
def fSl (F : FE) (O P : FO) : FE := fun ρ Q Z => F ρ (fun a => O ρ (fun lo => P ρ (fun hi => RSl a lo hi Q) Z) Z) Z
theorem whole_cut {α : Type} {n : Nat} (xs : List α) (hn : xs.length = n) (lo hi : Option Int) (h : HT.sIx n 0 lo = 0 ∧ HT.sIx n n hi = n) : (xs.drop (HT.sIx n 0 lo)).take (HT.sIx n n hi - HT.sIx n 0 lo) = xs := by
  rw [h.1, h.2, List.drop_zero, Nat.sub_zero, List.take_of_length_le (by omega)]
theorem d_slice {lo hi : Option Expr} {O P : FO} {p2 : Pos} (he : PE X e (tDT K E F)) (hl : PO X lo (tDO K E O)) (hu : PO X hi (tDO K E P)) (hK : X.K = K := by rfl) : PE X (.Subscript e (.Slice lo hi none p2) pos) (tD K E (fSl F O P)) := (pe_slice (sl_All hK) he hl hu).mono fun σ H Qh ⟨W0, H0, W, ρ, Q, Z, st, f, k, x⟩ => by
  refine ⟨W0, H0, W, ρ, _, Z, st, f, fun v W1 H1 d e1 r1 q1 => ?_, x⟩
  refine ⟨W0, H0, W1, ρ, _, Z, st.ext e1, q1, fun lo W2 H2 e2 q2 => ?_, x.ext e1⟩
  refine ⟨W0, H0, W2, ρ, _, Z, st.ext (e1.trans e2), q2, fun hi W3 H3 e3 q3 => ?_, x.ext (e1.trans e2)⟩
  have e13 := (e1.trans e2).trans e3
  have r3 := r1.ext (e2.trans e3)
  cases d with
  | lst ds =>
    obtain ⟨p, vs, h1, h2, h3, h4⟩ := r3.lst_inv e3.s
    exact .inl (.inl ⟨p, vs, h1, SqL.of h2, fun q hq => k _ _ _ _ (e13.trans (Ex.new e3.s hq)) (.lst upd_same ((h3.cut lo hi).gx (Gx.new (e3.s.free hq))) (Nat.le_trans (cutV_length _ _ _) h4)) q3⟩)
  | tup ds =>
    obtain ⟨p, vs, h1, h2, h3, h4⟩ := r3.tup_inv e3.s
    refine .inl (.inr ⟨p, vs, h1, h2, fun z => ?_, fun _ q hq => k _ _ _ _ (e13.trans (Ex.new e3.s hq)) (.tup (SqT.of upd_same) ((h3.cut lo hi).gx (Gx.new (e3.s.free hq))) (Nat.le_trans (cutV_length _ _ _) h4)) q3⟩)
    have z2 : cutD ds lo hi = ds := by
      unfold cutD
      rw [h3.len] at z
      exact whole_cut ds rfl lo hi z
    have q3 : Q (.tup (cutD ds lo hi)) := q3
    rw [z2] at q3
    cases r3 with
    | val r3 =>
      subst h1
      exact k _ W3 H3 _ e13 r3 q3
  | str z => exact .inr ⟨z, r3.str_inv, q3.1, k _ W3 H3 _ e13 (.str _) q3.2⟩
  | _ => exact False.elim q3
/-- xs[::-1] of a list: a new one -/
def fRev (F : FE) : FA := fun ρ Q Z => F ρ (fun d => ∃ ds, d = .lst ds ∧ Q ds.reverse) Z
theorem d_rev {k : Nat} {p1 p2 p3 : Pos} (he : PE X e (tDT K E F)) (hK : X.K = K := by rfl) : PE X (.Subscript e (.Slice none none (some (.UnaryOp .USub (.Constant (.int 1) k p1) p2)) p3) pos) (tDN K E (fRev F)) := (kpe_revL he hK).mono fun σ H Qh ⟨W0, H0, W, ρ, Q, Z, st, f, k, x⟩ =>
  ⟨W0, H0, W, ρ, _, Z, st, f, fun v W1 H1 d e1 r ⟨ds, z, q⟩ => by
    subst z
    obtain ⟨p, vs, h1, h2, h3, h4⟩ := r.lst_inv e1.s
    exact ⟨p, vs, h1, SqL.of h2, fun l hl => k l _ W1 _ _ (e1.trans (Ex.hid e1.s hl)) (e1.h.free hl) (e1.s.free hl) upd_same h3.rev (by rw [List.length_reverse]; exact h4) q⟩, x⟩

/-! ### fields -/
def lookD : List Str → List D → Str → Option D
  | n :: ns, d :: ds, f => if f == n then some d else lookD ns ds f
  | _, _, _ => none
theorem look_v {W : Hp} {f : Str} {d : D} : ∀ {fs : List (Str × V)} {ds : List D}, RepAll K W (fs.map Prod.snd) ds → lookD (fs.map Prod.fst) ds f = some d → ∃ v, fs.lookup f = some v ∧ Rep K W v d
  | [], _, _, h => by cases h
  | (n, v) :: fs, d' :: ds, .cons r rs, h => by
    simp only [List.map_cons, lookD] at h
    rw [List.lookup_cons]
    cases q : f == n with
    | true =>
      rw [q, if_pos rfl] at h
      cases h
      exact ⟨v, rfl, r⟩
    | false =>
      rw [q, if_neg (by decide)] at h
      exact look_v rs h
def fFld (K : PySem.W.Frag) (f : Str) (F : FE) : FE := fun ρ Q Z => F ρ (fun d => ∃ C ns ds v, d = .obj C ns ds ∧ Cls K C ∧ NoAttr K C f ∧ lookD ns ds f = some v ∧ Q v) Z
theorem d_fld {f : Str} (he : PE X e (tDT K E F)) (hb : attributeBase e f X.env (eval e X.env) = eval e X.env) (hK : X.K = K := by rfl) : PE X (.Attribute e f pos) (tD K E (fFld K f F)) := (kpe_fld he hb hK).mono fun σ H Qh ⟨W0, H0, W, ρ, Q, Z, st, g, k, x⟩ =>
  ⟨W0, H0, W, ρ, _, Z, st, g, fun v W1 H1 d e1 r ⟨C, ns, ds, u, z, hc, hn, hl, q⟩ => by
    subst z
    obtain ⟨a, dx, fs, h1, h2, h3, h4⟩ := r.obj_inv e1.s
    subst h3
    obtain ⟨w, h5, h6⟩ := look_v h4 hl
    exact ⟨a, C, dx, fs, w, h1, h2, hc, hn, h5, k _ W1 H1 _ e1 h6 q⟩, x⟩
end
end Pu

set_option Elab.async false
set_option maxRecDepth 100000
set_option linter.all false
namespace Pu
open PySem PySem.Spec PyProof.Rows L2 Ly RZ
/-! ### what is walked -/
/-- J walks ds while what is seen stays -/
def IterF (K : PySem.W.Frag) (W : Hp) (J : It) (ds : List D) : Prop := ∃ G Y, Walk J ds.length G Y ∧ (∀ H3, Gx W H3 → G H3) ∧
  ∀ i H3 x H4 W3, i < ds.length → Gx W W3 → Gx W3 H3 → Y i H3 x H4 → ∃ W4 d, ds[i]? = some d ∧ Ex W3 H3 W4 H4 ∧ Rep K W4 x d
/-- .. while all of the heap stays -/
def IterC (K : PySem.W.Frag) (W H : Hp) (J : It) (ds : List D) : Prop := ∃ G Y, Walk J ds.length G Y ∧ (∀ H3, Gx H H3 → G H3) ∧
  ∀ i H3 x H4 W3, i < ds.length → Gx H H3 → Gx W W3 → Gx W3 H3 → Y i H3 x H4 → ∃ W4 d, ds[i]? = some d ∧ Ex W3 H3 W4 H4 ∧ Rep K W4 x d
def tDI (K : PySem.W.Frag) (E : XK) (A : FA) : TI := fun σ H R => ∃ W0 H0 W ρ Q Z, Sat K W0 H0 W ρ σ H ∧ A ρ Q Z ∧ (∀ J W' H' ds, Ex W H W' H' → IterC K W' H' J ds → Q ds → R J H') ∧ XC K E W H Z
def tDF (K : PySem.W.Frag) (E : XK) (A : FA) : TI := fun σ H R => ∃ W0 H0 W ρ Q Z, Sat K W0 H0 W ρ σ H ∧ A ρ Q Z ∧ (∀ J W' H' ds, Ex W H W' H' → IterF K W' J ds → Q ds → R J H') ∧ XC K E W H Z
theorem _root_.L2.PI.mono {X : Cx} {tg e : Expr} {t u : TI} (h : PI X tg e t) (m : ∀ σ H R, u σ H R → t σ H R) : PI X tg e u := ⟨fun pins s σ H Q I q => h.run pins s σ H Q I (m _ _ _ q)⟩
section
variable {X : Cx} {K : PySem.W.Frag} {E : XK} {F G L : FE} {T U : FT} {A : FA} {tg e a b : Expr} {es : List Expr} {pos : Pos}
theorem iter_list {W H : Hp} {p : Addr} {vs : List V} {ds : List D} (h : W p = some (.lst vs)) (r : RepAll K W vs ds) : IterF K W (Itl K p) ds :=
  ⟨fun H => SqL K H p vs, YAt vs, by rw [← r.len]; exact walk_list, fun H3 e => SqL.of (e _ _ h), fun i H3 x H4 W3 hi e s y => by
    obtain ⟨rfl, hx⟩ := y
    obtain ⟨d, h1, h2⟩ := r.get hx
    exact ⟨W3, d, h1, Ex.refl s, h2.gx e⟩⟩
theorem iter_listC {W H : Hp} {p : Addr} {vs : List V} {ds : List D} (h : H p = some (.lst vs)) (r : RepAll K W vs ds) : IterC K W H (Itl K p) ds :=
  ⟨fun H => SqL K H p vs, YAt vs, by rw [← r.len]; exact walk_list, fun H3 e => SqL.of (e _ _ h), fun i H3 x H4 W3 hi _ e s y => by
    obtain ⟨rfl, hx⟩ := y
    obtain ⟨d, h1, h2⟩ := r.get hx
    exact ⟨W3, d, h1, Ex.refl s, h2.gx e⟩⟩
theorem iter_tup {W : Hp} {p : Addr} {vs : List V} {ds : List D} (h : SqT K W p vs) (r : RepAll K W vs ds) : IterF K W (Itt K p) ds :=
  ⟨fun H => SqT K H p vs, YAt vs, by rw [← r.len]; exact walk_tup, fun H3 e => e.t h, fun i H3 x H4 W3 hi e s y => by
    obtain ⟨rfl, hx⟩ := y
    obtain ⟨d, h1, h2⟩ := r.get hx
    exact ⟨W3, d, h1, Ex.refl s, h2.gx e⟩⟩
def signsD (z : Str) : List D := z.cps.toList.map fun c => .str ⟨#[c]⟩
theorem iter_str {W : Hp} {z : Str} : IterF K W (Its z) (signsD z) :=
  ⟨_, _, by unfold signsD; rw [List.length_map, Array.length_toList]; exact walk_str (z := z), fun _ _ => trivial, fun i H3 x H4 W3 hi e s y => by
    obtain ⟨rfl, c, hc, rfl⟩ := y
    exact ⟨W3, .str ⟨#[c]⟩, by unfold signsD; rw [List.getElem?_map]; simp [hc], Ex.refl s, .str _⟩⟩
theorem IterF.c {W H : Hp} {J : It} {ds : List D} (s : Gx W H) (h : IterF K W J ds) : IterC K W H J ds := by
  obtain ⟨G, Y, h1, h2, h3⟩ := h
  exact ⟨G, Y, h1, fun H3 e => h2 H3 (s.trans e), fun i H3 x H4 W3 hi _ => h3 i H3 x H4 W3 hi⟩
def iAny (K : PySem.W.Frag) (tl : TE) : TI := fun σ H R => tl σ H fun x H1 => (∃ a, x = .ref a ∧ (∃ xs, SqL K H1 a xs) ∧ R (Itl K a) H1) ∨ (∃ a, x = .ref a ∧ (∃ xs, SqT K H1 a xs) ∧ R (Itt K a) H1) ∨ ∃ z, x = .str z ∧ R (Its z) H1
theorem pi_any {l : Expr} {tl : TE} (hl : PE X l tl) (hK : X.K = K := by rfl) : PI X tg l (iAny K tl) := by
  subst hK
  refine ⟨fun pins s σ H R I h => ?_⟩
  refine thn (hl.run pins s σ H _ I h) fun v s1 ⟨x, H1, I1, r1, q1⟩ => ?_
  rcases q1 with ⟨a, e, ⟨xs, hq⟩, q⟩ | ⟨a, e, ⟨xs, hq⟩, q⟩ | ⟨z, e, q⟩
  · subst e
    cases r1
    obtain ⟨its, rv, p, hz⟩ := I1.list hq
    refine wpAny_pyIter_list p.isList ?_
    refine ⟨s1.heap.objs.size, [s1.heap.objs.size], _, _, H1, rfl, I1.kept (t' := s1.toks) fun b o e => Heap.get?_push_of_some _ e, turn_list a _, ⟨_, Heap.get?_push_size _ rfl, rfl, rfl⟩, fun b hb => ?_, q⟩
    have e : b = s1.heap.objs.size := by simpa using hb
    subst e
    exact I1.fpOk (Nat.le_refl _) (I1.hok.fresh (Nat.le_refl _))
  · subst e
    cases r1
    obtain ⟨its, rv, p, hz⟩ := I1.tuple hq
    refine wpAny_pyIter_tuple (show s1.heap.IsTuple a its.toArray from p) ?_
    refine ⟨s1.heap.objs.size, [s1.heap.objs.size], _, _, H1, rfl, I1.kept (t' := s1.toks) fun b o e => Heap.get?_push_of_some _ e, turn_tuple a _, ⟨_, Heap.get?_push_size _ rfl, rfl, rfl⟩, fun b hb => ?_, q⟩
    have e : b = s1.heap.objs.size := by simpa using hb
    subst e
    exact I1.fpOk (Nat.le_refl _) (I1.hok.fresh (Nat.le_refl _))
  · subst e
    obtain ⟨t, rfl⟩ := r1
    cases ha : z.cps.all (· < 128)
    · exact wpAny_pyIter_wide ha (pi_one (tk := s1.toks) I1 _ (turn_str _ z t "str_iterator" (.inr rfl)) ⟨_, Heap.get?_push_size _ rfl, rfl, rfl⟩ q)
    · exact wpAny_pyIter_ascii ha (pi_one (tk := s1.toks) I1 _ (turn_str _ z t "str_ascii_iterator" (.inl rfl)) ⟨_, Heap.get?_push_size _ rfl, rfl, rfl⟩ q)
/-- the items of what is walked -/
def itD : D → Option (List D)
  | .lst ds => some ds
  | .tup ds => some ds
  | .str z => if z.length ≤ sizeLine then some (signsD z) else none
  | _ => none
def fIt (F : FE) : FA := fun ρ Q Z => F ρ (fun d => ∃ ds, itD d = some ds ∧ Q ds) Z
theorem d_itC (h : PE X e (tDT K E F)) (hK : X.K = K := by rfl) : PI X tg e (tDI K E (fIt F)) := (pi_any h hK).mono fun σ H R ⟨W0, H0, W, ρ, Q, Z, st, f, k, x⟩ => ⟨W0, H0, W, ρ, _, Z, st, f, fun v W1 H1 d e1 r ⟨ds, hd, q⟩ => (by
  cases d with
  | lst es =>
    cases hd
    obtain ⟨p, vs, h1, h2, h3, h4⟩ := r.lst_inv e1.s
    exact .inl ⟨p, h1, ⟨vs, SqL.of h2⟩, k _ W1 H1 _ e1 (iter_listC h2 h3) q⟩
  | tup es =>
    cases hd
    cases r with
    | val r =>
      cases r with
      | tup h2 h3 h4 => exact .inr (.inl ⟨_, rfl, ⟨_, e1.s.t h2⟩, k _ W1 H1 _ e1 ((iter_tup h2 h3).c e1.s) q⟩)
  | str z =>
    have hd : (if z.length ≤ sizeLine then some (signsD z) else none) = some ds := hd
    by_cases hz : z.length ≤ sizeLine
    · rw [if_pos hz] at hd
      cases hd
      exact .inr (.inr ⟨z, r.str_inv, k _ W1 H1 _ e1 (iter_str.c e1.s) q⟩)
    · rw [if_neg hz] at hd
      cases hd
  | _ => cases hd), x⟩
theorem d_itF (h : PE X e (tD K E F)) (hK : X.K = K := by rfl) : PI X tg e (tDF K E (fIt F)) := (pi_any h hK).mono fun σ H R ⟨W0, H0, W, ρ, Q, Z, st, f, k, x⟩ => ⟨W0, H0, W, ρ, _, Z, st, f, fun v W1 H1 d e1 r ⟨ds, hd, q⟩ => (by
  cases d with
  | lst es =>
    cases hd
    cases r with
    | lst h2 h3 h4 => exact .inl ⟨_, rfl, ⟨_, SqL.of (e1.s _ _ h2)⟩, k _ W1 H1 _ e1 (iter_list (H := H1) h2 h3) q⟩
  | tup es =>
    cases hd
    cases r with
    | tup h2 h3 h4 => exact .inr (.inl ⟨_, rfl, ⟨_, e1.s.t h2⟩, k _ W1 H1 _ e1 (iter_tup h2 h3) q⟩)
  | str z =>
    have hd : (if z.length ≤ sizeLine then some (signsD z) else none) = some ds := hd
    by_cases hz : z.length ≤ sizeLine
    · rw [if_pos hz] at hd
      cases hd
      cases r
      exact .inr (.inr ⟨z, rfl, k _ W1 H1 _ e1 iter_str q⟩)
    · rw [if_neg hz] at hd
      cases hd
  | _ => cases hd), x⟩
/-- ranges -/
def rngD (lo : Int) (c : Int) (n : Nat) : List D := (List.range n).map fun k => .int (lo + (k : Nat) * c)
def fRng1 (A : FA) : FA := fun ρ Q Z => A ρ (fun as => ∃ j, as = [.int j] ∧ (-1000000 ≤ j ∧ j ≤ 1000000) ∧ Q (rngD 0 1 j.toNat)) Z
def fRng2 (A : FA) : FA := fun ρ Q Z => A ρ (fun as => ∃ i j, as = [.int i, .int j] ∧ (-1000000 ≤ i ∧ i ≤ 1000000) ∧ (-1000000 ≤ j ∧ j ≤ 1000000) ∧ Q (rngD i 1 (j - i).toNat)) Z
def fRng3 (A : FA) : FA := fun ρ Q Z => A ρ (fun as => ∃ i j, as = [.int i, .int j, .int (-1)] ∧ (-1000000 ≤ i ∧ i ≤ 1000000) ∧ (-1000000 ≤ j ∧ j ≤ 1000000) ∧ Q (rngD i (-1) (i - j).toNat)) Z
theorem iter_rng {W : Hp} {lo : Int} {n : Nat} : IterF K W (Itr lo n) (rngD lo 1 n) :=
  ⟨_, _, by unfold rngD; rw [List.length_map, List.length_range]; exact walk_range (lo := lo) (n := n), fun _ _ => trivial, fun i H3 x H4 W3 hi e s y => by
    obtain ⟨rfl, rfl⟩ := y
    have hi : i < n := by
      unfold rngD at hi
      rw [List.length_map, List.length_range] at hi
      exact hi
    refine ⟨W3, .int (lo + (i : Nat) * 1), by unfold rngD; rw [List.getElem?_map, List.getElem?_range hi]; rfl, Ex.refl s, ?_⟩
    rw [Int.mul_one]
    exact .int _⟩
theorem iter_rngC {W : Hp} {lo c : Int} {n : Nat} : IterF K W (Itc lo c n) (rngD lo c n) :=
  ⟨_, _, by unfold rngD; rw [List.length_map, List.length_range]; exact walk_rangeC (lo := lo) (c := c) (n := n), fun _ _ => trivial, fun i H3 x H4 W3 hi e s y => by
    obtain ⟨rfl, rfl⟩ := y
    have hi : i < n := by
      unfold rngD at hi
      rw [List.length_map, List.length_range] at hi
      exact hi
    exact ⟨W3, .int (lo + (i : Nat) * c), by unfold rngD; rw [List.getElem?_map, List.getElem?_range hi]; rfl, Ex.refl s, .int _⟩⟩
theorem ints1 {W : Hp} {vs : List V} {i : Int} (r : RepAll K W vs [.int i]) : vs = [.int i] := by
  cases r with
  | cons r rs => cases r; cases rs; rfl
theorem ints2 {W : Hp} {vs : List V} {i j : Int} (r : RepAll K W vs [.int i, .int j]) : vs = [.int i, .int j] := by
  cases r with
  | cons r rs => cases r; rw [ints1 rs]
theorem ints3 {W : Hp} {vs : List V} {i j l : Int} (r : RepAll K W vs [.int i, .int j, .int l]) : vs = [.int i, .int j, .int l] := by
  cases r with
  | cons r rs => cases r; rw [ints2 rs]
theorem rng1_to {σ : L2.St} {H : Hp} {R : It → Hp → Prop} (h : tDF K E (fRng1 A) σ H R) : iRng1 (tDA K E A) σ H R := by
  obtain ⟨W0, H0, W, ρ, Q, Z, st, f, k, x⟩ := h
  refine ⟨W0, H0, W, ρ, _, Z, st, f, fun vs W1 H1 ds e1 r ⟨j, z, hb, q⟩ => ?_, x⟩
  subst z
  exact ⟨j, ints1 r, by omega, by omega, k _ W1 H1 _ e1 iter_rng q⟩
theorem rng2_to {σ : L2.St} {H : Hp} {R : It → Hp → Prop} (h : tDF K E (fRng2 A) σ H R) : iRng2 (tDA K E A) σ H R := by
  obtain ⟨W0, H0, W, ρ, Q, Z, st, f, k, x⟩ := h
  refine ⟨W0, H0, W, ρ, _, Z, st, f, fun vs W1 H1 ds e1 r ⟨i, j, z, hb, hb2, q⟩ => ?_, x⟩
  subst z
  exact ⟨i, j, ints2 r, by omega, k _ W1 H1 _ e1 iter_rng q⟩
theorem rng3_to {σ : L2.St} {H : Hp} {R : It → Hp → Prop} (h : tDF K E (fRng3 A) σ H R) : iRng3 (tDA K E A) σ H R := by
  obtain ⟨W0, H0, W, ρ, Q, Z, st, f, k, x⟩ := h
  refine ⟨W0, H0, W, ρ, _, Z, st, f, fun vs W1 H1 ds e1 r ⟨i, j, z, hb, hb2, q⟩ => ?_, x⟩
  subst z
  exact ⟨i, j, -1, _, ints3 r, RgC.neg (by omega) (by omega) (by omega) (by omega), k _ W1 H1 _ e1 iter_rngC q⟩
/-- what a for may walk, a comprehension may -/
theorem df_di {σ : L2.St} {H : Hp} {R : It → Hp → Prop} (h : tDI K E A σ H R) : tDF K E A σ H R := by
  obtain ⟨W0, H0, W, ρ, Q, Z, st, f, k, x⟩ := h
  exact ⟨W0, H0, W, ρ, Q, Z, st, f, fun J W' H' ds e i q => k J W' H' ds e (i.c e.s) q, x⟩
theorem d_fc (h : PI X tg e (tDF K E A)) : PI X tg e (tDI K E A) := h.mono fun _ _ _ q => df_di q
theorem d_rng1 {p : Pos} (hg : Gl X "range") (hm : X.mg "range" = none) (ha : PA X [a] (tDA K E A)) (hs : starEach [a] X.env = [(false, eval a X.env)] := by rfl) : PI X tg (.Call (.Name "range" p) [a] [] pos) (tDF K E (fRng1 A)) := (pi_range1 hg hm ha hs).mono fun _ _ _ h => rng1_to h
theorem d_rng2 {p : Pos} (hg : Gl X "range") (hm : X.mg "range" = none) (ha : PA X [a, b] (tDA K E A)) (hs : starEach [a, b] X.env = [(false, eval a X.env), (false, eval b X.env)] := by rfl) (hs2 : starEach [b] X.env = [(false, eval b X.env)] := by rfl) :
    PI X tg (.Call (.Name "range" p) [a, b] [] pos) (tDF K E (fRng2 A)) := (pi_range2 hg hm ha hs hs2).mono fun _ _ _ h => rng2_to h
theorem d_rng3 {p : Pos} {c : Expr} (hg : Gl X "range") (hm : X.mg "range" = none) (ha : PA X [a, b, c] (tDA K E A)) (hs : starEach [a, b, c] X.env = (false, eval a X.env) :: starEach [b, c] X.env := by rfl) (hpl : (backTo pos (starEach [b, c] X.env)).any (·.1) = false := by rfl) :
    PI X tg (.Call (.Name "range" p) [a, b, c] [] pos) (tDF K E (fRng3 A)) := (pi_range3 hg hm ha hs hpl).mono fun _ _ _ h => rng3_to h
/-- pairs -/
def pairsD : List D → List D → List D
  | a :: as, b :: bs => .tup [a, b] :: pairsD as bs
  | _, _ => []
theorem pairsD_len : ∀ as bs : List D, (pairsD as bs).length = min as.length bs.length
  | [], _ => by simp [pairsD]
  | _ :: _, [] => by simp [pairsD]
  | a :: as, b :: bs => by simp [pairsD, pairsD_len as bs]
theorem pairsD_get : ∀ (as bs : List D) (i : Nat) (a b : D), as[i]? = some a → bs[i]? = some b → (pairsD as bs)[i]? = some (.tup [a, b])
  | [], _, _, _, _, h, _ => by simp at h
  | _ :: _, [], _, _, _, _, h => by simp at h
  | a :: as, b :: bs, 0, x, y, h, h2 => by simp at h h2; subst h; subst h2; rfl
  | a :: as, b :: bs, i + 1, x, y, h, h2 => by
    rw [pairsD, List.getElem?_cons_succ]
    exact pairsD_get as bs i x y (by simpa using h) (by simpa using h2)
theorem pair_new {W3 H3 H4 : Hp} {x : V} {T : Addr} {v w : V} {a b : D} (s : Gx W3 H3) (hx : x = .ref T) (hT : H3 T = none) (h4 : H4 = upd H3 T (.tup [v, w])) (r1 : Rep K W3 v a) (r2 : Rep K W3 w b) : ∃ W4, Ex W3 H3 W4 H4 ∧ Rep K W4 x (.tup [a, b]) := by
  subst h4
  subst hx
  have e := Gx.new (o := .tup [v, w]) (s.free hT)
  exact ⟨_, Ex.new s hT, .tup (SqT.of upd_same) (.cons (r1.gx e) (.cons (r2.gx e) .nil)) (by show 2 ≤ sizeLine; decide)⟩
/-- zip of two lists or of two tuples -/
def fZip (A : FA) : FA := fun ρ Q Z => A ρ (fun as => ∃ xs ys, (as = [.lst xs, .lst ys] ∨ as = [.tup xs, .tup ys]) ∧ Q (pairsD xs ys)) Z
theorem zip_to {σ : L2.St} {H : Hp} {R : It → Hp → Prop} (h : tDF K E (fZip A) σ H R) : iZipA K (tDA K E A) σ H R := by
  obtain ⟨W0, H0, W, ρ, Q, Z, st, f, k, x⟩ := h
  refine ⟨W0, H0, W, ρ, _, Z, st, f, fun vs W1 H1 ds e1 r ⟨xs, ys, z, q⟩ => ?_, x⟩
  rcases z with z | z
  · subst z
    cases r with
    | cons r1 r =>
      cases r with
      | cons r2 r =>
        cases r
        cases r1 with
        | lst h1 h2 h3 =>
          cases r2 with
          | lst h4 h5 h6 =>
            refine ⟨_, _, _, _, rfl, .inl ⟨SqL.of (e1.s _ _ h1), SqL.of (e1.s _ _ h4), k _ W1 H1 _ e1 ⟨_, _, walk_zip (by rw [pairsD_len, h2.len, h5.len]), fun H3 e => ⟨SqL.of (e _ _ h1), SqL.of (e _ _ h4)⟩, fun i H3 x H4 W3 hi e s y => ?_⟩ q⟩⟩
            obtain ⟨T, v, w, y1, y2, y3, y4, y5⟩ := y
            obtain ⟨a, g1, g2⟩ := h2.get y4
            obtain ⟨b, g3, g4⟩ := h5.get y5
            obtain ⟨W4, g5, g6⟩ := pair_new s y1 y2 y3 (g2.gx e) (g4.gx e)
            exact ⟨W4, _, pairsD_get _ _ i _ _ g1 g3, g5, g6⟩
  · subst z
    cases r with
    | cons r1 r =>
      cases r with
      | cons r2 r =>
        cases r
        cases r1 with
        | @tup a1 us _ h1 h2 h3 =>
          cases r2 with
          | @tup a2 ws _ h4 h5 h6 =>
            refine ⟨_, _, _, _, rfl, .inr ⟨e1.s.t h1, e1.s.t h4, k _ W1 H1 _ e1 ⟨fun H => SqT K H _ us ∧ SqT K H _ ws, YPair (fun i => us[i]?) (fun i => ws[i]?), ⟨fun i H hi q => ?_, fun H q => ?_, fun i H v H' hi q y => ?_⟩, fun H3 e => ⟨e.t h1, e.t h4⟩, fun i H3 x H4 W3 hi e s y => ?_⟩ q⟩⟩
            · rw [pairsD_len, ← h2.len, ← h5.len] at hi
              have g1 : i < us.length := by omega
              have g2 : i < ws.length := by omega
              exact ⟨us, ws, us[i], ws[i], q.1, q.2, by simp [g1], by simp [g2]⟩
            · rw [pairsD_len, ← h2.len, ← h5.len]
              exact ⟨us, ws, q.1, q.2, by omega⟩
            · obtain ⟨T, x, z, g1, g2, g3, g4, g5⟩ := y
              exact ⟨T, x, z, g1, g2, g3, g4 us q.1, g5 ws q.2⟩
            · obtain ⟨T, v, w, y1, y2, y3, y4, y5⟩ := y
              obtain ⟨a, g1, g2⟩ := h2.get y4
              obtain ⟨b, g3, g4⟩ := h5.get y5
              obtain ⟨W4, g5, g6⟩ := pair_new s y1 y2 y3 (g2.gx e) (g4.gx e)
              exact ⟨W4, _, pairsD_get _ _ i _ _ g1 g3, g5, g6⟩
theorem d_zip {p tpos : Pos} {elts : List Expr} {kk : Nat} (hg : Gl X "zip") (hm : X.mg "zip" = none) (ha : PA X [a, b] (tDA K E A)) (hK : X.K = K := by rfl) (hs : starEach [a, b] X.env = (false, eval a X.env) :: starEach [b] X.env := by rfl) (hpl : (backTo pos (starEach [b] X.env)).any (·.1) = false := by rfl) :
    PI X (.Tuple elts kk tpos) (.Call (.Name "zip" p) [a, b] [] pos) (tDF K E (fZip A)) := by
  subst hK
  exact (pi_zipA hg hm ha hs hpl).mono fun _ _ _ h => zip_to h
/-- enumerate of a tuple -/
def enumD (i : Nat) : List D → List D
  | [] => []
  | d :: ds => .tup [.int (i : Nat), d] :: enumD (i + 1) ds
theorem enumD_len : ∀ (ds : List D) (i : Nat), (enumD i ds).length = ds.length
  | [], _ => rfl
  | d :: ds, i => by rw [enumD, List.length_cons, List.length_cons, enumD_len ds]
theorem enumD_get : ∀ (ds : List D) (j i : Nat) (d : D), ds[i]? = some d → (enumD j ds)[i]? = some (.tup [.int ((j + i : Nat) : Int), d])
  | [], _, _, _, h => by simp at h
  | d :: ds, j, 0, x, h => by simp at h; subst h; rfl
  | d :: ds, j, i + 1, x, h => by
    rw [enumD, List.getElem?_cons_succ, enumD_get ds (j + 1) i x (by simpa using h), show j + 1 + i = j + (i + 1) by omega]
def fEnum (A : FA) : FA := fun ρ Q Z => A ρ (fun as => ∃ xs, as = [.tup xs] ∧ Q (enumD 0 xs)) Z
theorem enum_to {σ : L2.St} {H : Hp} {R : It → Hp → Prop} (h : tDF K E (fEnum A) σ H R) : iEnumT K (tDA K E A) σ H R := by
  obtain ⟨W0, H0, W, ρ, Q, Z, st, f, k, x⟩ := h
  refine ⟨W0, H0, W, ρ, _, Z, st, f, fun vs W1 H1 ds e1 r ⟨xs, z, q⟩ => ?_, x⟩
  subst z
  cases r with
  | cons r1 r =>
    cases r
    cases r1 with
    | tup h1 h2 h3 =>
      refine ⟨_, _, rfl, e1.s.t h1, k _ W1 H1 _ e1 ⟨_, _, by rw [enumD_len, ← h2.len]; exact walk_enumT, fun H3 e => e.t h1, fun i H3 x H4 W3 hi e s y => ?_⟩ q⟩
      obtain ⟨T, v, w, y1, y2, y3, y4, y5⟩ := y
      cases y4
      obtain ⟨b, g3, g4⟩ := h2.get y5
      obtain ⟨W4, g5, g6⟩ := pair_new s y1 y2 y3 (.int _) (g4.gx e)
      exact ⟨W4, _, by rw [enumD_get _ 0 i _ g3, Nat.zero_add], g5, g6⟩
theorem d_enum {p tpos : Pos} {elts : List Expr} {kk : Nat} (hg : Gl X "enumerate") (hm : X.mg "enumerate" = none) (ha : PA X [e] (tDA K E A)) (hK : X.K = K := by rfl) (hs : starEach [e] X.env = [(false, eval e X.env)] := by rfl) :
    PI X (.Tuple elts kk tpos) (.Call (.Name "enumerate" p) [e] [] pos) (tDF K E (fEnum A)) := (kpi_enumT hg hm ha hK hs).mono fun _ _ _ h => enum_to h

/-! ### targets -/
abbrev FG := D → Env → (Env → Prop) → Prop
/-- a target: the slots it stores are among vs -/
def GSnd (K : PySem.W.Frag) (gh : TG) (g : FG) (vs : List Nat) : Prop := ∀ W0 H0 W ρ σ H x d k Q, Sat K W0 H0 W ρ σ H → Rep K W x d → g d ρ k → (∀ ρ2 σ2, Sat K W0 H0 W ρ2 σ2 H → wipe σ2 vs = wipe σ vs → k ρ2 → Q σ2 H) → gh x σ H Q
def gN (i : Nat) : FG := fun d ρ k => k (ρ.set i (.val d))
def gT (is : List Nat) : FG := fun d ρ k => ∃ ds, d = .tup ds ∧ ds.length = is.length ∧ k ((is.zip ds).foldl (fun ρ p => ρ.set p.1 (.val p.2)) ρ)
theorem wipe_set {σ : L2.St} {x : Option V} {j : Nat} : ∀ {vs : List Nat}, j ∈ vs → wipe (σ.set j x) vs = wipe σ vs
  | [], h => by cases h
  | v :: vs, h => by
    by_cases hj : j ∈ vs
    · show (wipe (σ.set j x) vs).set v none = (wipe σ vs).set v none
      rw [wipe_set hj]
    · have hv : j = v := by
        rcases List.mem_cons.mp h with h | h
        · exact h
        · exact absurd h hj
      subst hv
      show (wipe (σ.set j x) vs).set j none = (wipe σ vs).set j none
      have : ∀ {us : List Nat}, j ∉ us → wipe (σ.set j x) us = (wipe σ us).set j x := fun {us} => by
        induction us with
        | nil => intro _; rfl
        | cons u us ih =>
          intro hn
          show (wipe (σ.set j x) us).set u none = ((wipe σ us).set u none).set j x
          rw [ih (fun z => hn (List.mem_cons_of_mem _ z)), List.set_comm _ _ (fun z => hn (by rw [← z]; exact List.mem_cons_self ..))]
      rw [this hj, List.set_set]
theorem g_name {j : Nat} {vs : List Nat} (hj : j ∈ vs) : GSnd K (gName j) (gN j) vs := fun W0 H0 W ρ σ H x d k Q st r g q => q _ _ (st.set r) (wipe_set hj) g
theorem g_pair {i j : Nat} {vs : List Nat} (hi : i ∈ vs) (hj : j ∈ vs) : GSnd K (gTup K 2 (gCons (gName i) (gCons (gName j) gNil))) (gT [i, j]) vs := fun W0 H0 W ρ σ H x d k Q st r ⟨ds, z, hl, g⟩ q => by
  subst z
  cases r with
  | tup h1 h2 h3 =>
    cases h2 with
    | nil => cases hl
    | cons r1 h2 =>
      cases h2 with
      | nil => cases hl
      | cons r2 h2 =>
        cases h2 with
        | cons _ _ => simp at hl
        | nil => exact ⟨_, _, rfl, st.see.t h1, rfl, _, _, rfl, _, _, rfl, rfl, q _ _ ((st.set r1).set r2) (by rw [wipe_set hj, wipe_set hi]) g⟩

/-! ### comprehensions -/
abbrev F0 : ZX := fun _ => False
def wipeB (ρ : Env) : List Nat → Env
  | [] => ρ
  | v :: vs => (wipeB ρ vs).set v .un
theorem Sat.wipe {W0 H0 W H : Hp} {ρ : Env} {σ : L2.St} (h : Sat K W0 H0 W ρ σ H) : ∀ vs : List Nat, Sat K W0 H0 W (wipeB ρ vs) (L2.wipe σ vs) H
  | [] => h
  | v :: vs => (Sat.wipe h vs).wipe1
theorem wipe_wipe {σ : L2.St} : ∀ vs : List Nat, L2.wipe (L2.wipe σ vs) vs = L2.wipe σ vs := by
  intro vs
  have key : ∀ (us ws : List Nat), (∀ u ∈ us, u ∈ ws) → L2.wipe (L2.wipe σ us) ws = L2.wipe σ ws := by
    intro us
    induction us with
    | nil => intro ws _; rfl
    | cons u us ih =>
      intro ws hs
      show L2.wipe ((L2.wipe σ us).set u none) ws = _
      rw [wipe_set (hs u (List.mem_cons_self ..))]
      exact ih ws fun v hv => hs v (List.mem_cons_of_mem _ hv)
  exact key vs vs fun _ h => h
def lcD (g : FG) (T : FT) (F : FE) (ρ : Env) : List D → (List D → Prop) → Prop
  | [], Q => Q []
  | d :: ds, Q => g d ρ fun ρ2 => T ρ2 (fun b => if b = true then F ρ2 (fun y => lcD g T F ρ ds fun ys => Q (y :: ys)) F0 else lcD g T F ρ ds Q) F0
def fLc (A : FA) (g : FG) (T : FT) (F : FE) (vs : List Nat) : FA := fun ρ Q Z => A ρ (fun ds => ds.length ≤ sizeLine ∧ lcD g T F (wipeB ρ vs) ds Q) Z
theorem xc0 {W H : Hp} : XC K E0 W H F0 := fun _ _ _ _ _ _ _ z => z.elim
theorem lc_to {wi : TI} {gh : TG} {tt : TT} {te : TE} {g : FG} {vs : List Nat} {σ : L2.St} {H : Hp} {Qh : VK} (hw : ∀ σ H R, tDI K E A σ H R → wi σ H R) (gs : GSnd K gh g vs) (ht : ∀ σ H Q, tDB K E0 T σ H Q → tt σ H Q) (he : ∀ σ H Q, tD K E0 F σ H Q → te σ H Q)
    (h : tDN K E (fLc A g T F vs) σ H Qh) : tLc wi gh tt te vs σ H Qh := by
  obtain ⟨W0, H0, W, ρ, Q, Z, st, f, k, x⟩ := h
  refine hw _ _ _ ⟨W0, H0, W, ρ, _, Z, st, f, fun J W1 H1 ds e1 ⟨G, Y, hW, hG, hY⟩ ⟨hn, q⟩ => ?_, x⟩
  intro Dd hD
  refine lc_it hW (fun i H' => ∃ W' us acc, i ≤ ds.length ∧ Ex W1 H1 W' H' ∧ W' Dd = none ∧ H' Dd = some (.lst us) ∧ RepAll K W' us acc ∧ us.length ≤ i ∧ lcD g T F (wipeB ρ vs) (ds.drop i) fun ys => Q (acc ++ ys)) ?_ ?_ ?_ ?_
  · exact ⟨W1, [], [], Nat.zero_le _, Ex.hid e1.s hD, e1.s.free hD, upd_same, .nil, Nat.le_refl _, q⟩
  · rintro i H' _ ⟨W', us, acc, _, e2, _⟩
    exact hG H' e2.h
  · rintro i v H3 H4 hi ⟨W3, us, acc, _, e3, hw3, hd3, r3, l3, q3⟩ y
    obtain ⟨W4, d, hd, e4, r4⟩ := hY i H3 v H4 W3 hi e3.h e3.w e3.s y
    have e5 := e3.trans e4
    have hw4 : ∀ {W' H' : Hp}, Ex W3 H3 W' H' → W' Dd = none := fun {W' H'} e => by
      cases z : W' Dd with
      | none => rfl
      | some o =>
        rcases e.n _ _ z with z | z
        · rw [hw3] at z; cases z
        · rw [hd3] at z; cases z
    have hdr : ds.drop i = d :: ds.drop (i + 1) := by
      rw [List.drop_eq_getElem_cons hi]
      congr 1
      rw [List.getElem?_eq_getElem hi] at hd
      exact Option.some.inj hd
    rw [hdr] at q3
    have stw : Sat K W0 H0 W4 (wipeB ρ vs) (L2.wipe σ vs) H4 := (st.ext (e1.trans e5)).wipe vs
    refine gs W0 H0 W4 _ _ H4 v d _ _ stw r4 q3 fun ρ2 σ2 st2 hw2 q4 => ⟨by rw [hw2, wipe_wipe], ?_⟩
    refine ht _ _ _ ⟨W0, H0, W4, ρ2, _, F0, st2, q4, fun b W5 H5 e6 q5 => ?_, xc0⟩
    cases b with
    | true =>
      rw [if_pos rfl] at q5
      refine iteT (he _ _ _ ⟨W0, H0, W5, ρ2, _, F0, st2.ext e6, q5, fun u W6 H6 d6 e7 r6 q6 => ?_, xc0⟩)
      have e8 := (e4.trans e6).trans e7
      have hd6 := e8.h _ _ hd3
      refine ⟨us, hd6, by omega, W6, us ++ [u], acc ++ [d6], hi, Ex.mut (e3.trans e8) hD (hw4 e8), hw4 e8, upd_same, (r3.gx e8.w).app (.one r6), by rw [List.length_append]; show us.length + 1 ≤ i + 1; omega, ?_⟩
      have : (fun ys => Q (acc ++ [d6] ++ ys)) = fun ys => Q (acc ++ (d6 :: ys)) := by
        funext ys
        rw [List.append_assoc]
        rfl
      rw [this]
      exact q6
    | false =>
      rw [if_neg (by decide)] at q5
      have e8 := e4.trans e6
      exact iteF ⟨W5, us, acc, hi, e3.trans e8, hw4 e8, e8.h _ _ hd3, r3.gx e8.w, by omega, q5⟩
  · rintro H3 ⟨W3, us, acc, _, e3, hw3, hd3, r3, l3, q3⟩
    rw [List.drop_length] at q3
    have q3 : Q (acc ++ []) := q3
    rw [List.append_nil] at q3
    exact k Dd us W3 H3 acc (e1.trans e3) (e1.h.free hD) hw3 hd3 r3 (by omega) q3
theorem d_lc {elt tg iter : Expr} {ifs : List Expr} {scope : Scope} {own : List (Str × Nat)} {gh : TG} {g : FG} (hc : X.calm = true) (hN : X.N.Nodup) (hi : PI X tg iter (tDI K E A)) (ok : BlkOk X.N X.env.scope scope own) (gs : GSnd K gh g (own.map (·.2)))
    (hg : ∀ (s : Shared) (H : Hp) (C : Addr) (cl : List (Str × Addr)) (fp : List Addr), PG (X.blk s H scope (compEnvC scope cl C X.env) fp) tg gh) (ht : ∀ (s : Shared) (H : Hp) (C : Addr) (cl : List (Str × Addr)) (fp : List Addr), PTs (X.blk s H scope (compEnvC scope cl C X.env) fp) ifs (tDB K E0 T))
    (he : ∀ (s : Shared) (H : Hp) (C : Addr) (cl : List (Str × Addr)) (fp : List Addr), PE (X.blk s H scope (compEnvC scope cl C X.env) fp) elt (tD K E0 F)) (hs : ∀ x, foldedSetIterable iter X.env x = pure x := by intro _; rfl) :
    PE X (.ListComp elt [⟨tg, iter, ifs, 0⟩] scope pos) (tDN K E (fLc A g T F (own.map (·.2)))) := (pe_lc hc hN hi ok hg ht he hs).mono fun _ _ _ h => lc_to (fun _ _ _ q => q) gs (fun _ _ _ q => q) (fun _ _ _ q => q) h
def fYes : FT := fun _ Q _ => Q true
theorem d_pts0 : PTs X [] (tDB K E fYes) := ⟨fun pins s σ H Q I ⟨W0, H0, W, ρ, Q', Z, st, f, k, x⟩ => pts_nil.run pins s σ H Q I (k true W H (Ex.refl st.see) f)⟩
theorem d_pts1 {c : Expr} (h : PT X c (tDB K E T)) : PTs X [c] (tDB K E T) := pts_one h
end
end Pu

set_option Elab.async false
set_option maxRecDepth 100000
set_option linter.all false
namespace Pu
open PySem PySem.Spec PyProof.Rows L2 Ly
/-! ### statements -/
structure EndsD where
  nx : Env → Prop
  rt : D → Prop
  bk : Env → Prop := fun _ => False
  ct : Env → Prop := fun _ => False
  ex : ZX
abbrev FS := Env → EndsD → Prop
structure Ok (K : PySem.W.Frag) (W0 H0 : Hp) (E : XK) (W : Hp) (De : EndsD) (Dh : Ends) : Prop where
  nx : ∀ W' ρ' σ' H', Gx W W' → Sat K W0 H0 W' ρ' σ' H' → De.nx ρ' → Dh.nx σ' H'
  rt : ∀ v W' H' d, Ex W0 H0 W' H' → Rep K W' v d → De.rt d → Dh.rt v H'
  bk : ∀ W' ρ' σ' H', Gx W W' → Sat K W0 H0 W' ρ' σ' H' → De.bk ρ' → Dh.bk σ' H'
  ct : ∀ W' ρ' σ' H', Gx W W' → Sat K W0 H0 W' ρ' σ' H' → De.ct ρ' → Dh.ct σ' H'
  ex : XC K E W0 H0 De.ex
def tDS (K : PySem.W.Frag) (W0 H0 : Hp) (E : XK) (S : FS) : TS := fun Dh σ H => ∃ W ρ De, Sat K W0 H0 W ρ σ H ∧ S ρ De ∧ Ok K W0 H0 E W De Dh
theorem _root_.L2.PS.mono {X : Cx} {st : Stmt} {t u : TS} (h : PS X st t) (m : ∀ D σ H, u D σ H → t D σ H) : PS X st u := ⟨fun pins s σ H D I q => h.run pins s σ H D I (m _ _ _ q)⟩
theorem _root_.L2.PSs.mono {X : Cx} {st : List Stmt} {t u : TS} (h : PSs X st t) (m : ∀ D σ H, u D σ H → t D σ H) : PSs X st u := ⟨fun pins s σ H D I q => h.run pins s σ H D I (m _ _ _ q)⟩
section
variable {X : Cx} {K : PySem.W.Frag} {E : XK} {W0 H0 : Hp} {F G L : FE} {T U : FT} {A N : FA} {S S' : FS} {tg e a b : Expr} {es : List Expr} {pos pos' : Pos} {st : Stmt} {rest body : List Stmt} {i j : Nat}
theorem Ok.up {De : EndsD} {Dh : Ends} {W W1 : Hp} (o : Ok K W0 H0 E W De Dh) (e : Gx W W1) : Ok K W0 H0 E W1 De Dh := ⟨fun W' ρ' σ' H' g => o.nx W' ρ' σ' H' (e.trans g), o.rt, fun W' ρ' σ' H' g => o.bk W' ρ' σ' H' (e.trans g), fun W' ρ' σ' H' g => o.ct W' ρ' σ' H' (e.trans g), o.ex⟩
theorem Ok.xc {De : EndsD} {Dh : Ends} {W H Wb : Hp} {ρ : Env} {σ : L2.St} (o : Ok K W0 H0 E Wb De Dh) (s : Sat K W0 H0 W ρ σ H) : XC K E W H De.ex := o.ex.ext s.ex
def sNext : FS := fun ρ De => De.nx ρ
def sSeq (S S' : FS) : FS := fun ρ De => S ρ { De with nx := fun ρ' => S' ρ' De }
theorem d_snil : PSs X [] (tDS K W0 H0 E sNext) := pss_nil.mono fun D σ H ⟨W, ρ, De, s, q, o⟩ => o.nx W ρ σ H (Gx.refl W) s q
theorem d_seq (h1 : PS X st (tDS K W0 H0 E S)) (h2 : PSs X rest (tDS K W0 H0 E S')) : PSs X (st :: rest) (tDS K W0 H0 E (sSeq S S')) := (pss_cons h1 h2).mono fun D σ H ⟨W, ρ, De, s, q, o⟩ =>
  ⟨W, ρ, _, s, q, ⟨fun W' ρ' σ' H' g s' q' => ⟨W', ρ', De, s', q', o.up g⟩, o.rt, o.bk, o.ct, o.ex⟩⟩
theorem d_sone (h1 : PS X st (tDS K W0 H0 E S)) : PSs X [st] (tDS K W0 H0 E S) := pss_one h1
theorem d_pass : PS X (.Pass pos) (tDS K W0 H0 E sNext) := ps_pass.mono fun D σ H ⟨W, ρ, De, s, q, o⟩ => o.nx W ρ σ H (Gx.refl W) s q
def sRet (F : FE) : FS := fun ρ De => F ρ De.rt De.ex
theorem d_ret (h : PE X e (tD K E F)) : PS X (.Return (some e) pos) (tDS K W0 H0 E (sRet F)) := (ps_ret h).mono fun D σ H ⟨W, ρ, De, s, q, o⟩ => ⟨W0, H0, W, ρ, _, _, s, q, fun v W' H' d e r z => o.rt v W' H' d (s.ex.trans e) r z, o.xc s⟩
def sIf (T : FT) (S S' : FS) : FS := fun ρ De => T ρ (fun b => if b = true then S ρ De else S' ρ De) De.ex
theorem d_ifs {c : Expr} {u v : List Stmt} (hc : PT X c (tDB K E T)) (ha : PSs X u (tDS K W0 H0 E S)) (hb : PSs X v (tDS K W0 H0 E S')) : PS X (.If c u v pos) (tDS K W0 H0 E (sIf T S S')) := (ps_if hc ha hb).mono fun D σ H ⟨W, ρ, De, s, q, o⟩ =>
  ⟨W0, H0, W, ρ, _, _, s, q, fun b W' H' e z => by
    cases b with
    | true =>
      rw [if_pos rfl] at z
      exact iteT ⟨W', ρ, De, s.ext e, z, o.up e.w⟩
    | false =>
      rw [if_neg (by decide)] at z
      exact iteF ⟨W', ρ, De, s.ext e, z, o.up e.w⟩, o.xc s⟩
/-- x = a value -/
def sAsg (i : Nat) (F : FE) : FS := fun ρ De => F ρ (fun d => De.nx (ρ.set i (.val d))) De.ex
theorem d_asg (he : PE X e (tD K E F)) (hg : PG X tg (gName i)) (hs : swapsWithSole [tg] e pos.line X.env = pure false := by rfl) (hw : swappedStores [tg] e X.env = pure none := by rfl)
    (h1 : (assignEach [tg] X.env).map (·.2) = [assign tg X.env] := by rfl) : PS X (.Assign [tg] e pos) (tDS K W0 H0 E (sAsg i F)) := (ps_asg he hg hs hw h1).mono fun D σ H ⟨W, ρ, De, s, q, o⟩ =>
  ⟨W0, H0, W, ρ, _, _, s, q, fun v W' H' d e r z => o.nx W' _ _ H' e.w ((s.ext e).set r) z, o.xc s⟩
/-- x = a new list -/
def sNew (i : Nat) (N : FA) : FS := fun ρ De => N ρ (fun ds => De.nx (ρ.set i (.lst ds))) De.ex
theorem d_new (he : PE X e (tDN K E N)) (hg : PG X tg (gName i)) (hs : swapsWithSole [tg] e pos.line X.env = pure false := by rfl) (hw : swappedStores [tg] e X.env = pure none := by rfl)
    (h1 : (assignEach [tg] X.env).map (·.2) = [assign tg X.env] := by rfl) : PS X (.Assign [tg] e pos) (tDS K W0 H0 E (sNew i N)) := (ps_asg he hg hs hw h1).mono fun D σ H ⟨W, ρ, De, s, q, o⟩ =>
  ⟨W0, H0, W, ρ, _, _, s, q, fun p vs W' H' ds e hp hw h' r n z => o.nx W' _ _ H' e.w (s.put (b := .lst ds) e hp ⟨p, vs, rfl, rfl, hw, s.ex.h.free hp, h', r, n⟩) z, o.xc s⟩
/-- (a, b) = a value -/
def sTgt (g : FG) (F : FE) : FS := fun ρ De => F ρ (fun d => g d ρ De.nx) De.ex
theorem d_tgt {gh : TG} {g : FG} {vs : List Nat} (he : PE X e (tD K E F)) (hg : PG X tg gh) (gs : GSnd K gh g vs) (hs : swapsWithSole [tg] e pos.line X.env = pure false := by rfl) (hw : swappedStores [tg] e X.env = pure none := by rfl)
    (h1 : (assignEach [tg] X.env).map (·.2) = [assign tg X.env] := by rfl) : PS X (.Assign [tg] e pos) (tDS K W0 H0 E (sTgt g F)) := (ps_asg he hg hs hw h1).mono fun D σ H ⟨W, ρ, De, s, q, o⟩ =>
  ⟨W0, H0, W, ρ, _, _, s, q, fun v W' H' d e r z => gs W0 H0 W' ρ σ H' v d _ _ (s.ext e) r z fun ρ2 σ2 s2 _ q2 => o.nx W' ρ2 σ2 H' e.w s2 q2, o.xc s⟩
/-- a, b = x, y -/
def sPar (i j : Nat) (A : FA) : FS := fun ρ De => A ρ (fun ds => ∃ d f, ds = [d, f] ∧ De.nx ((ρ.set i (.val d)).set j (.val f))) De.ex
theorem d_par {st : Stmt} (h : PS X st (tPar i j (tDA K E A))) : PS X st (tDS K W0 H0 E (sPar i j A)) := h.mono fun D σ H ⟨W, ρ, De, s, q, o⟩ =>
  ⟨W0, H0, W, ρ, _, _, s, q, fun vs W' H' ds e r ⟨d, f, z, q⟩ => by
    subst z
    cases r with
    | cons r1 r =>
      cases r with
      | cons r2 r =>
        cases r
        exact ⟨_, _, rfl, o.nx W' _ _ H' e.w (((s.ext e).set r1).set r2) q⟩, o.xc s⟩
/-- a list is given away ahead of a statement -/
def demB (i : Nat) (ρ : Env) : Env := match ρ[i]? with
  | some (.lst ds) => ρ.set i (.val (.lst ds))
  | _ => ρ
def sDem (i : Nat) (S : FS) : FS := fun ρ De => S (demB i ρ) De
theorem dem_to {D : Ends} {σ : L2.St} {H : Hp} (h : tDS K W0 H0 E (sDem i S) D σ H) : tDS K W0 H0 E S D σ H := by
  obtain ⟨W, ρ, De, s, q, o⟩ := h
  unfold sDem demB at q
  split at q
  · rename_i ds hi
    obtain ⟨W', g, s'⟩ := s.dem hi
    exact ⟨W', _, De, s', q, o.up g⟩
  · exact ⟨W, ρ, De, s, q, o⟩
theorem d_dem (i : Nat) (h : PS X st (tDS K W0 H0 E S)) : PS X st (tDS K W0 H0 E (sDem i S)) := h.mono fun _ _ _ q => dem_to q
/-- x[k] = v of an own list -/
def sPut (i : Nat) (G F : FE) : FS := fun ρ De => F ρ (fun d => ∃ ds, ρ[i]? = some (.lst ds) ∧ G ρ (fun k => ∃ n m, k = .int n ∧ ixN ds.length n = some m ∧ De.nx (ρ.set i (.lst (ds.set m d)))) De.ex) De.ex
theorem d_put {st : Stmt} (h : PS X st (tAsg (tD K E F) (gSub (tVar i) (tD K E G) rSetL))) : PS X st (tDS K W0 H0 E (sPut i G F)) := h.mono fun D σ H ⟨W, ρ, De, s, q, o⟩ => by
  refine ⟨W0, H0, W, ρ, _, _, s, q, fun v W1 H1 d e1 r1 ⟨ds, hi, q1⟩ => ?_, o.xc s⟩
  have s1 := s.ext e1
  obtain ⟨p, vs, h1, _⟩ := s1.own hi
  refine ⟨.ref p, h1, W0, H0, W1, ρ, _, _, s1, q1, fun k W2 H2 dk e2 r2 ⟨n, m, z, hm, q2⟩ => ?_, o.xc s1⟩
  subst z
  cases r2
  have s2 := s1.ext e2
  obtain ⟨p', us, g1, g2, g3, g4, g5, g6⟩ := s2.own hi
  rw [h1] at g1
  cases g1
  refine ⟨p, us, n, m, rfl, rfl, g4, by rw [g5.len]; exact hm, ?_⟩
  exact o.nx W2 _ σ _ (e1.trans e2).w (s2.chg hi h1 (g5.set (r1.gx e2.w) m) (by rw [List.length_set]; exact g6)) q2
/-- x.append(v), x.extend(v) of an own list -/
def sApp (i : Nat) (F : FE) : FS := fun ρ De => ∃ ds, ρ[i]? = some (.lst ds) ∧ F ρ (fun d => ds.length < sizeLine ∧ De.nx (ρ.set i (.lst (ds ++ [d])))) De.ex
def sExt (i : Nat) (F : FE) : FS := fun ρ De => ∃ ds, ρ[i]? = some (.lst ds) ∧ F ρ (fun d => ∃ es, d = .lst es ∧ ds.length + es.length ≤ sizeLine ∧ De.nx (ρ.set i (.lst (ds ++ es)))) De.ex
theorem d_app {st : Stmt} (h : PS X st (tDrop (tBM K "list" rAppend (tVar i) (tCons (tD K E F) tNil)))) : PS X st (tDS K W0 H0 E (sApp i F)) := h.mono fun D σ H ⟨W, ρ, De, s, ⟨ds, hi, q⟩, o⟩ => by
  obtain ⟨p, vs, h1, _, _, h4, _⟩ := s.own hi
  refine ⟨.ref p, h1, .inl ⟨rfl, vs, SqL.of h4⟩, W0, H0, W, ρ, _, _, s, q, fun v W1 H1 d e1 r1 ⟨hn, q1⟩ => ?_, o.xc s⟩
  have s1 := s.ext e1
  obtain ⟨p', us, g1, g2, g3, g4, g5, g6⟩ := s1.own hi
  rw [h1] at g1
  cases g1
  refine ⟨p, us, v, rfl, rfl, g4, by rw [g5.len]; exact hn, ?_⟩
  exact o.nx W1 _ σ _ e1.w (s1.chg hi h1 (g5.app (.one r1)) (by rw [List.length_append, g5.len]; exact hn)) q1
theorem d_ext {st : Stmt} (h : PS X st (tDrop (tBM K "list" rExtend (tVar i) (tCons (tD K E F) tNil)))) : PS X st (tDS K W0 H0 E (sExt i F)) := h.mono fun D σ H ⟨W, ρ, De, s, ⟨ds, hi, q⟩, o⟩ => by
  obtain ⟨p, vs, h1, _, _, h4, _⟩ := s.own hi
  refine ⟨.ref p, h1, .inl ⟨rfl, vs, SqL.of h4⟩, W0, H0, W, ρ, _, _, s, q, fun v W1 H1 d e1 r1 ⟨es, z, hn, q1⟩ => ?_, o.xc s⟩
  subst z
  cases r1 with
  | lst k1 k2 k3 =>
    have s1 := s.ext e1
    obtain ⟨p', us, g1, g2, g3, g4, g5, g6⟩ := s1.own hi
    rw [h1] at g1
    cases g1
    refine ⟨p, _, us, _, rfl, rfl, g4, e1.s _ _ k1, by rw [g5.len, k2.len]; exact hn, ?_⟩
    exact o.nx W1 _ σ _ e1.w (s1.chg hi h1 (g5.app k2) (by rw [List.length_append, g5.len, k2.len]; exact hn)) q1
/-- self.f = v of an own instance -/
def putN (f : Str) (d : D) : List Str → List D → List Str × List D
  | n :: ns, x :: ds => if n = f then (n :: ns, d :: ds) else ((n :: (putN f d ns ds).1), (x :: (putN f d ns ds).2))
  | _, _ => ([f], [d])
theorem putN_v {W : Hp} {f : Str} {v : V} {d : D} (r : Rep K W v d) : ∀ {fs : List (Str × V)} {ds : List D}, RepAll K W (fs.map Prod.snd) ds → (putF f v fs).map Prod.fst = (putN f d (fs.map Prod.fst) ds).1 ∧ RepAll K W ((putF f v fs).map Prod.snd) (putN f d (fs.map Prod.fst) ds).2 ∧ (putN f d (fs.map Prod.fst) ds).1.length ≤ fs.length + 1
  | [], [], .nil => ⟨rfl, .one r, Nat.le_refl _⟩
  | (n, x) :: fs, y :: ds, .cons r1 rs => by
    obtain ⟨h1, h2, h3⟩ := putN_v (f := f) r rs
    show (if n = f then (n, v) :: fs else (n, x) :: putF f v fs).map Prod.fst = (if n = f then (n :: fs.map Prod.fst, d :: ds) else (n :: (putN f d (fs.map Prod.fst) ds).1, y :: (putN f d (fs.map Prod.fst) ds).2)).1 ∧
      RepAll K W ((if n = f then (n, v) :: fs else (n, x) :: putF f v fs).map Prod.snd) (if n = f then (n :: fs.map Prod.fst, d :: ds) else (n :: (putN f d (fs.map Prod.fst) ds).1, y :: (putN f d (fs.map Prod.fst) ds).2)).2 ∧
      (if n = f then (n :: fs.map Prod.fst, d :: ds) else (n :: (putN f d (fs.map Prod.fst) ds).1, y :: (putN f d (fs.map Prod.fst) ds).2)).1.length ≤ fs.length + 1 + 1
    by_cases h : n = f
    · rw [if_pos h, if_pos h]
      exact ⟨rfl, .cons r rs, by simp⟩
    · rw [if_neg h, if_neg h]
      exact ⟨by rw [List.map_cons, h1], .cons r1 h2, by rw [List.length_cons]; omega⟩
def sFldS (K : PySem.W.Frag) (i : Nat) (f : Str) (F : FE) : FS := fun ρ De => F ρ (fun d => ∃ a C ns ds, ρ[i]? = some (.obj a C ns ds) ∧ Cls K C ∧ NoAttr K C f ∧ ns.length < 100 ∧ De.nx (ρ.set i (.obj a C (putN f d ns ds).1 (putN f d ns ds).2))) De.ex
theorem Sat.chgO {W H : Hp} {ρ : Env} {σ : L2.St} (h : Sat K W0 H0 W ρ σ H) {C p dx : Addr} {ns ms : List Str} {ds es : List D} {fs : List (Str × V)} {x : Addr} (hi : ρ[i]? = some (.obj x C ns ds)) (hs : σ[i]? = some (some (.ref p))) (hp : ∃ gs, H p = some (.ins C dx gs)) (k : fs.map Prod.fst = ms) (r : RepAll K W (fs.map Prod.snd) es) (hn : ms.length ≤ 100) : Sat K W0 H0 W (ρ.set i (.obj x C ms es)) σ (upd H p (.ins C dx fs)) := by
  obtain ⟨oa, h1, h2⟩ := h.rep
  obtain ⟨s, h3, q, dx', vs, h0, h4, h5, h6, h7, h8, h9, h10, _⟩ := h2 i _ hi
  obtain ⟨gs, hg⟩ := hp
  have hq : q = p := by
    rw [h3, h5] at hs
    cases hs
    rfl
  subst hq
  rw [h8] at hg
  cases hg
  have hσ : σ.set i (some (.ref q)) = σ := by
    apply List.ext_getElem?
    intro j
    by_cases e : j = i
    · subst e
      rw [List.getElem?_set_self (List.getElem?_eq_some_iff.mp hs).1, hs]
    · rw [List.getElem?_set_ne (Ne.symm e)]
  rw [← hσ]
  refine sat_set (o := some q) (Ex.mut h.ex h7 h6) h.len h1 (fun j p z hj _ hp => ?_) (fun j b hj hb => ?_) ⟨q, dx, fs, h0, rfl, rfl, h6, h7, upd_same, by rw [upd_ne (fun z => by rw [z, h8] at h9; cases h9)]; exact h9, h10, k, r, hn⟩
  · cases z
    exact hj (h1 j i q hp h4)
  · obtain ⟨s', h11, h12⟩ := h2 j b hb
    exact ⟨s', h11, h12.mut (fun z => hj (h1 j i q z h4)) fun x z => by rw [h8] at z; cases z⟩
theorem d_fldS {st : Stmt} {f : Str} (h : PS X st (sFld K (tVar i) (tD K E F) f)) : PS X st (tDS K W0 H0 E (sFldS K i f F)) := h.mono fun D σ H ⟨W, ρ, De, s, q, o⟩ => by
  refine ⟨W0, H0, W, ρ, _, _, s, q, fun v W1 H1 d e1 r1 ⟨x, C, ns, ds, hi, hc, hn, hl, q1⟩ => ?_, o.xc s⟩
  have s1 := s.ext e1
  obtain ⟨oa, _, h2⟩ := s1.rep
  obtain ⟨u, h3, q, dx, vs, _, _, h5, _, _, h8, _, _, k1, k2, _⟩ := h2 i _ hi
  subst h5
  subst k1
  obtain ⟨g1, g2, g3⟩ := putN_v (f := f) r1 k2
  have hl : vs.length < 100 := by
    rw [List.length_map] at hl
    exact hl
  refine ⟨.ref q, h3, q, C, dx, vs, rfl, h8, hc, hn, by omega, ?_⟩
  exact o.nx W1 _ σ _ e1.w (s1.chgO hi h3 ⟨vs, h8⟩ g1 g2 (by omega)) q1

/-! ### loops -/
def forD (g : FG) (S : FS) : List D → Env → EndsD → Prop
  | [], ρ, De => De.nx ρ
  | d :: ds, ρ, De => g d ρ fun ρ2 => S ρ2 { De with nx := fun ρ3 => forD g S ds ρ3 De, ct := fun ρ3 => forD g S ds ρ3 De, bk := De.nx }
def sFor (A : FA) (g : FG) (S : FS) : FS := fun ρ De => A ρ (fun ds => forD g S ds ρ De) De.ex
theorem d_for {iter : Expr} {gh : TG} {g : FG} {vs : List Nat} (hp : PassesOwn (model X.prog X.w) X.A X.env X.xe) (hc : X.calm = true) (hi : PI X tg iter (tDF K E A)) (hg : PG X tg gh) (gs : GSnd K gh g vs) (hb : PSs X body (tDS K W0 H0 E S))
    (hs : ∀ x, foldedSetIterable iter X.env x = pure x := by intro _; rfl) : PS X (.For tg iter body [] pos) (tDS K W0 H0 E (sFor A g S)) := (ps_for hp hc hi hg hb hs).mono fun D σ H ⟨W, ρ, De, s, q, o⟩ => by
  refine ⟨W0, H0, W, ρ, _, _, s, q, fun J W1 H1 ds e1 ⟨G, Y, hW, hG, hY⟩ q1 => ?_, o.xc s⟩
  refine for_it hW (D := D) (fun i σ' H' => ∃ W' ρ', Gx W1 W' ∧ Sat K W0 H0 W' ρ' σ' H' ∧ forD g S (ds.drop i) ρ' De) ⟨W1, ρ, Gx.refl _, s.ext e1, q1⟩ ?_ ?_ ?_
  · rintro i σ' H' _ ⟨W', ρ', e2, s2, _⟩
    exact hG H' (e2.trans s2.see)
  · rintro i x σ' H2 H3 hi ⟨W2, ρ2, e2, s2, q2⟩ y
    obtain ⟨W3, d, hd, e3, r3⟩ := hY i H2 x H3 W2 hi e2 s2.see y
    have hdr : ds.drop i = d :: ds.drop (i + 1) := by
      rw [List.drop_eq_getElem_cons hi]
      congr 1
      rw [List.getElem?_eq_getElem hi] at hd
      exact Option.some.inj hd
    rw [hdr] at q2
    refine gs W0 H0 W3 ρ2 σ' H3 x d _ _ (s2.ext e3) r3 q2 fun ρ3 σ3 s3 _ q3 => ?_
    exact ⟨W3, ρ3, _, s3, q3, ⟨fun W' ρ' σ' H' g s' q' => ⟨W', ρ', (e2.trans e3.w).trans g, s', q'⟩, o.rt, fun W' ρ' σ' H' g s' q' => o.nx W' ρ' σ' H' (((e1.w.trans e2).trans e3.w).trans g) s' q', fun W' ρ' σ' H' g s' q' => ⟨W', ρ', (e2.trans e3.w).trans g, s', q'⟩, o.ex⟩⟩
  · rintro σ' H' ⟨W', ρ', e2, s2, q2⟩
    rw [List.drop_length] at q2
    exact o.nx W' ρ' σ' H' (e1.w.trans e2) s2 q2
end
end Pu

set_option Elab.async false
set_option maxRecDepth 100000
set_option linter.all false
namespace Pu
open PySem PySem.Spec PyProof.Rows L2 Ly
/-! ### what a def does -/
abbrev Fn := List D → (D → Prop) → ZX → Prop
def spD (K : PySem.W.Frag) (n : Nat) (f : Fn) : Sp := fun vs H Qh E => ∃ W ds Q Z, Gx W H ∧ RepAll K W vs ds ∧ ds.length = n ∧ f ds Q Z ∧ (∀ v W' H' d, Ex W H W' H' → Rep K W' v d → Q d → Qh v H') ∧ XC K E W H Z
def startB (n : Nat) (ds : List D) : Env := ds.map .val ++ List.replicate (n - ds.length) .un
def fnS (n : Nat) (S : FS) : Fn := fun ds Q Z => S (startB n ds) { nx := fun _ => Q .non, rt := Q, ex := Z }
section
variable {K : PySem.W.Frag}
theorem rep_start {W H : Hp} {n : Nat} {N : List Str} {vs : List V} {ds : List D} (s : Gx W H) (hN : N.length = n) (r : RepAll K W vs ds) : Sat K W H W (startB n ds) (L2.start N vs) H := by
  refine ⟨Ex.refl s, ?_, fun _ => none, (fun _ _ _ z => by cases z), fun i b hb => ?_⟩
  · unfold startB L2.start
    simp [r.len, hN]
  · unfold startB at hb
    unfold L2.start
    by_cases hi : i < ds.length
    · rw [List.getElem?_append_left (by simpa using hi), List.getElem?_map, List.getElem?_eq_getElem hi] at hb
      cases hb
      obtain ⟨v, h1, h2⟩ := r.getD (List.getElem?_eq_getElem hi)
      refine ⟨some v, ?_, rfl, v, rfl, h2⟩
      rw [List.getElem?_append_left (by rw [List.length_map, r.len]; exact hi), List.getElem?_map, h1]
      rfl
    · rw [List.getElem?_append_right (by simpa using Nat.le_of_not_lt hi), List.length_map] at hb
      have hlt : i - ds.length < n - ds.length := by
        have := (List.getElem?_eq_some_iff.mp hb).1
        rw [List.length_replicate] at this
        exact this
      rw [List.getElem?_replicate_of_lt hlt] at hb
      cases hb
      refine ⟨none, ?_, rfl⟩
      rw [List.getElem?_append_right (by rw [List.length_map, r.len]; omega), List.length_map, r.len, hN, List.getElem?_replicate_of_lt hlt]
end
section
variable {P : Program} {w : World} {K : PySem.W.Frag} {mg : Str → Option Value} {base : Heap}
/-- a def by its body -/
theorem fn_d {x qual : Str} {st : Stmt} {f : Addr} {fd : FuncData} {N ps : List Str} {k n : Nat} {g : Fn} {S : FS} (F : Fun K x qual st f fd) (Sc : FnScope N ps (defScope st)) (hn : ps.length = n)
    (hbody : ∀ (cdv : Value) (A : Around) (outer : List PySem.Env) (s : Shared) (H : Hp) (E : XK) (W0 : Hp), Room k (A.deeper (envOfC qual (defScope st) s.heap.objs.size f cdv)) →
      PSs (cxOf (L2.CX P w) P w K mg base N qual (defScope st) f cdv A outer s H E) (defBody st) (tDS K W0 H E S)) (hg : ∀ ds Q Z, ds.length = n → g ds Q Z → fnS N.length S ds Q Z) : FnOk P w K mg base (L2.CX P w) (k + 1) f fd ps (spD K n g) :=
  F.okX Sc (fun vs H Q E ⟨W, ds, _, _, _, r, hl, _⟩ => by rw [r.len, hl, hn]) fun cdv A outer s H vs Q E hr ⟨W, ds, Qd, Z, sw, r, hl, hf, k, x⟩ =>
    ⟨_, hbody cdv A outer s H E W hr, W, startB N.length ds, _, rep_start sw rfl r, hg ds Qd Z hl hf, ⟨fun W' ρ' σ' H' _ s' q => k _ W' H' _ s'.ex .non q, fun v W' H' d e r q => k v W' H' d e r q, (fun _ _ _ _ _ _ z => z.elim), (fun _ _ _ _ _ _ z => z.elim), x⟩⟩
/-- nothing raised is within all that may be -/
theorem fn_cx {k : Nat} {f : Addr} {fd : FuncData} {ps : List Str} {sp : Sp} (F : FnOk P w K mg base CX0 k f fd ps sp) : FnOk P w K mg base (L2.CX P w) k f fd ps sp :=
  ⟨F.len, fun A outer s H args us vs Q E hr he hb hv hs => codeAny_mono (F.run A outer s H args us vs Q E hr he hb hv hs) fun r s' h => by
    cases r with
    | error e => exact False.elim h
    | ok fl => cases fl <;> exact h⟩
/-- a def for its callers -/
structure CalF (P : Program) (w : World) (K : PySem.W.Frag) (mg : Str → Option Value) (base : Heap) (x : Str) (k n : Nat) (g : Fn) : Prop where
  ex : ∃ (f : Addr) (fd : FuncData) (ps : List Str), FnOk P w K mg base (L2.CX P w) k f fd ps (spD K n g) ∧ mg x = some (.ref f) ∧ PySem.W.keepIn K (.ref f) = true ∧ Binds K fd ps []
end
section
variable {X : Cx} {K : PySem.W.Frag} {E : XK} {W0 H0 : Hp} {F G L : FE} {T U : FT} {A N : FA} {S S' : FS} {g : Fn} {tg e a b o : Expr} {es : List Expr} {p pos apos : Pos} {i j k n : Nat} {x m f : Str} {C : Addr}
def fCall (g : Fn) (n : Nat) (A : FA) : FE := fun ρ Q Z => A ρ (fun ds => ds.length = n ∧ g ds Q Z) Z
theorem sp_to {σ : L2.St} {H : Hp} {Qh : VK} (h : tD K E (fCall g n A) σ H Qh) : tCall (spD K n g) [] E (tDA K E A) σ H Qh := by
  obtain ⟨W0, H0, W, ρ, Q, Z, st, f, k, x⟩ := h
  refine ⟨W0, H0, W, ρ, _, Z, st, f, fun vs W1 H1 ds e1 r ⟨hl, q⟩ => ?_, x⟩
  show spD K n g (vs ++ []) H1 Qh E
  rw [List.append_nil]
  exact ⟨W1, ds, Q, Z, e1.s, r, hl, q, fun v W2 H2 d e2 r2 q2 => k v W2 H2 d (e1.trans e2) r2 q2, x.ext e1⟩
theorem d_call (c : CalF X.prog X.w X.K X.mg X.base x k n g) (hr : Room k X.A) (hg : Gl X x) (hx : Passes (L2.CX X.prog X.w) X E) (ha : PA X (e :: es) (tDA K E A)) (hK : X.K = K := by rfl) (hdb : (x == ("__debug__" : Str)) = false := by decide)
    (he : starEach (e :: es) X.env = (false, eval e X.env) :: starEach es X.env := by rfl) (hpl : (backTo pos (starEach es X.env)).any (·.1) = false := by rfl) : PE X (.Call (.Name x p) (e :: es) [] pos) (tD K E (fCall g n A)) := by
  subst hK
  obtain ⟨f, fd, ps, F, hm, hk, hb⟩ := c.ex
  exact (pe_call F hr hg hm hk hb .nil hx ha hdb he hpl).mono fun _ _ _ h => sp_to h
theorem d_call0 (c : CalF X.prog X.w X.K X.mg X.base x k n g) (hr : Room k X.A) (hg : Gl X x) (hx : Passes (L2.CX X.prog X.w) X E) (hK : X.K = K := by rfl) (hdb : (x == ("__debug__" : Str)) = false := by decide) : PE X (.Call (.Name x p) [] [] pos) (tD K E (fCall g n fNil)) := by
  subst hK
  obtain ⟨f, fd, ps, F, hm, hk, hb⟩ := c.ex
  exact (pe_call0 F hr hg hm hk hb .nil hx hdb).mono fun σ H Qh ⟨W0, H0, W, ρ, Q, Z, st, ⟨hl, q⟩, k, x⟩ => ⟨W, [], Q, Z, st.see, .nil, hl, q, k, x⟩

/-! ### new instances -/
/-- __init__ as a def: the instance is its own -/
def spI (K : PySem.W.Frag) (C : Addr) (n : Nat) (g : Fn) : Sp := fun vs H Qh E => ∃ x dx us H1 W ds Q Z, vs = .ref x :: us ∧ H1 x = none ∧ H1 dx = none ∧ dx ≠ x ∧ H = upd (upd H1 dx (.own x)) x (.ins C dx []) ∧ Gx W H1 ∧ RepAll K W us ds ∧ ds.length = n ∧ g ds Q Z ∧
  (∀ W' H' d, Ex W H1 W' H' → Rep K W' (.ref x) d → Q d → Qh .non H') ∧ XC K E W H1 Z
def initB (x C : Addr) (n : Nat) (ds : List D) : Env := .obj x C [] [] :: startB (n - 1) ds
def fnI (C : Addr) (n : Nat) (S : FS) : Fn := fun ds Q Z => ∀ x, S (initB x C n ds) { nx := fun ρ => ∃ ns fs, ρ[0]? = some (.obj x C ns fs) ∧ Q (.obj C ns fs), rt := fun _ => False, ex := Z }
end
section
variable {P : Program} {w : World} {K : PySem.W.Frag} {mg : Str → Option Value} {base : Heap}
theorem fn_i {qual : Str} {st : Stmt} {f C : Addr} {fd : FuncData} {N ps : List Str} {k n : Nat} {g : Fn} {S : FS} (F : Fun K "__init__" qual st f fd) (Sc : FnScope N ps (defScope st)) (hn : ps.length = n + 1) (hN : 0 < N.length)
    (hbody : ∀ (cdv : Value) (A : Around) (outer : List PySem.Env) (s : Shared) (H : Hp) (E : XK) (W0 H0 : Hp), Room k (A.deeper (envOfC qual (defScope st) s.heap.objs.size f cdv)) →
      PSs (cxOf (L2.CX P w) P w K mg base N qual (defScope st) f cdv A outer s H E) (defBody st) (tDS K W0 H0 E S)) (hg : ∀ ds Q Z, ds.length = n → g ds Q Z → fnI C N.length S ds Q Z) : FnOk P w K mg base (L2.CX P w) (k + 1) f fd ps (spI K C n g) :=
  F.okX Sc (fun vs H Q E ⟨_, _, us, _, W, ds, _, _, z, _, _, _, _, _, r, hl, _⟩ => by rw [z, List.length_cons, r.len, hl, hn]) fun cdv A outer s H vs Q E hr ⟨x, dx, us, H1, W, ds, Qd, Z, hv, hx, hdx, hne, hH, sw, r, hl, hf, k, xc⟩ => by
    subst hv
    subst hH
    have e1 : Ex W H1 W (upd (upd H1 dx (.own x)) x (.ins C dx [])) := (Ex.hid sw hdx).trans (Ex.hid (sw.trans (Gx.new hdx)) (by rw [upd_ne (Ne.symm hne)]; exact hx))
    have s0 := rep_start (N := N.tail) (n := N.length - 1) sw (by rw [List.length_tail]) r
    have hst : L2.start N (.ref x :: us) = some (.ref x) :: L2.start N.tail us := by
      unfold L2.start
      rw [List.length_tail, List.map_cons, List.length_cons]
      show some (V.ref x) :: (us.map some ++ List.replicate (N.length - (us.length + 1)) none) = some (V.ref x) :: (us.map some ++ List.replicate (N.length - 1 - us.length) none)
      rw [show N.length - (us.length + 1) = N.length - 1 - us.length by omega]
    refine ⟨_, hbody cdv A outer s _ E W H1 hr, W, initB x C N.length ds, _, ?_, hg ds Qd Z hl hf x, ⟨fun W' ρ' σ' H' _ s' ⟨ns, fs, h0, q⟩ => ?_, (fun _ _ _ _ _ _ z => z.elim), (fun _ _ _ _ _ _ z => z.elim), (fun _ _ _ _ _ _ z => z.elim), xc⟩⟩
    · rw [hst]
      refine ⟨e1, by unfold initB; rw [List.length_cons, List.length_cons, s0.len], ?_⟩
      obtain ⟨oa, h1, h2⟩ := s0.rep
      have hoa : ∀ i, i < (startB (N.length - 1) ds).length → oa i = none := fun i hi => by
        obtain ⟨b, hb⟩ : ∃ b, (startB (N.length - 1) ds)[i]? = some b := ⟨_, List.getElem?_eq_getElem hi⟩
        obtain ⟨s, h3, h4⟩ := h2 i b hb
        cases hq : oa i with
        | none => rfl
        | some p =>
          obtain ⟨⟨u, h5⟩, h6, _⟩ := h4.place hq
          rw [h6] at h5
          cases h5
      refine ⟨fun i => if i = 0 then some x else none, fun i j p hi hj => ?_, fun i b hb => ?_⟩
      · by_cases qi : i = 0
        · by_cases qj : j = 0
          · rw [qi, qj]
          · dsimp only at hj
            rw [if_neg qj] at hj
            cases hj
        · dsimp only at hi
          rw [if_neg qi] at hi
          cases hi
      · cases i with
        | zero =>
          cases hb
          refine ⟨_, rfl, x, dx, [], rfl, rfl, rfl, sw.free hx, hx, upd_same, ?_, hdx, rfl, .nil, by decide⟩
          rw [upd_ne hne, upd_same]
        | succ i =>
          have hb : (startB (N.length - 1) ds)[i]? = some b := hb
          obtain ⟨s, h3, h4⟩ := h2 i b hb
          rw [hoa i (List.getElem?_eq_some_iff.mp hb).1] at h4
          exact ⟨s, h3, h4.ext e1⟩
    · obtain ⟨oa, h1, h2⟩ := s'.rep
      obtain ⟨s, h3, q', dx', vs, hxx, h4, h5, h6, h7, h8, h9, h10, h11, h12, _⟩ := h2 0 _ h0
      subst hxx
      exact k (upd W' q' (.ins C dx' vs)) H' _ (s'.ex.see hx h6 h8) (.obj upd_same h11 (h12.gx (Gx.new h6))) q
end
end Pu

set_option Elab.async false
set_option maxRecDepth 100000
set_option linter.all false
namespace Pu
open PySem PySem.Spec PyProof.Rows L2 Ly
section
variable {P : Program} {w : World} {K : PySem.W.Frag} {mg : Str → Option Value} {base : Heap}
/-- a class that makes instances -/
structure CalI (P : Program) (w : World) (K : PySem.W.Frag) (mg : Str → Option Value) (base : Heap) (x : Str) (C : Addr) (k n : Nat) (g : Fn) : Prop where
  ex : ∃ (f : Addr) (fd : FuncData) (ps : List Str), Mk K C f ∧ FnOk P w K mg base (L2.CX P w) k f fd ps (spI K C n g) ∧ mg x = some (.ref C) ∧ Binds K fd ps []
/-- a method -/
structure CalO (P : Program) (w : World) (K : PySem.W.Frag) (mg : Str → Option Value) (base : Heap) (C : Addr) (m : Str) (k n : Nat) (g : Fn) : Prop where
  cl : Cls K C
  ex : ∃ (f : Addr) (fd : FuncData) (ps : List Str), Meth K C m f ∧ FnOk P w K mg base (L2.CX P w) k f fd ps (spD K n g) ∧ Binds K fd ps []
/-- a property -/
structure CalP (P : Program) (w : World) (K : PySem.W.Frag) (mg : Str → Option Value) (base : Heap) (C : Addr) (m : Str) (k : Nat) (g : Fn) : Prop where
  cl : Cls K C
  ex : ∃ (p f : Addr) (fd : FuncData) (ps : List Str), PropOf K C m p f ∧ FnOk P w K mg base (L2.CX P w) k f fd ps (spD K 1 g) ∧ Binds K fd ps []
end
section
variable {X : Cx} {K : PySem.W.Frag} {E : XK} {W0 H0 : Hp} {F G L : FE} {T U : FT} {A N : FA} {S S' : FS} {g : Fn} {tg e a b o : Expr} {es : List Expr} {p pos apos : Pos} {i j k n : Nat} {x m f : Str} {C : Addr}
theorem make_to {σ : L2.St} {H : Hp} {Qh : VK} (h : tD K E (fCall g n A) σ H Qh) : tMake C (spI K C n g) [] E (tDA K E A) σ H Qh := by
  obtain ⟨W0, H0, W, ρ, Q, Z, st, f, k, x⟩ := h
  refine ⟨W0, H0, W, ρ, _, Z, st, f, fun vs W1 H1 ds e1 r ⟨hl, q⟩ y dy hy hdy hne => ?_, x⟩
  rw [List.append_nil]
  exact ⟨y, dy, vs, H1, W1, ds, Q, Z, rfl, hy, hdy, hne, rfl, e1.s, r, hl, q, fun W2 H2 d e2 r2 q2 => ⟨rfl, k _ W2 H2 d (e1.trans e2) r2 q2⟩, x.ext e1⟩
theorem d_make (c : CalI X.prog X.w X.K X.mg X.base x C k n g) (hr : Room (k + 1) X.A) (hg : Gl X x) (hx : Passes (L2.CX X.prog X.w) X E) (ha : PA X (e :: es) (tDA K E A)) (hK : X.K = K := by rfl) (hdb : (x == ("__debug__" : Str)) = false := by decide)
    (he : starEach (e :: es) X.env = (false, eval e X.env) :: starEach es X.env := by rfl) (hpl : (backTo pos (starEach es X.env)).any (·.1) = false := by rfl) : PE X (.Call (.Name x p) (e :: es) [] pos) (tD K E (fCall g n A)) := by
  subst hK
  obtain ⟨f, fd, ps, M, F, hm, hb⟩ := c.ex
  exact (pe_make M F hr hg hm hb .nil hx ha hdb he hpl).mono fun _ _ _ h => make_to h
/-- o.m(..) -/
def fMeth (C : Addr) (m : Str) (g : Fn) (n : Nat) (F : FE) (A : FA) : FE := fun ρ Q Z => F ρ (fun d => ∃ ns ds, d = .obj C ns ds ∧ m ∉ ns ∧ A ρ (fun es => es.length + 1 = n ∧ g (d :: es) Q Z) Z) Z
theorem look_none : ∀ {fs : List (Str × V)}, m ∉ fs.map Prod.fst → fs.lookup m = none
  | [], _ => rfl
  | (n, v) :: fs, h => by
    rw [List.map_cons, List.mem_cons, not_or] at h
    rw [List.lookup_cons, beq_eq_false_iff_ne.mpr h.1]
    exact look_none h.2
theorem meth_to {σ : L2.St} {H : Hp} {Qh : VK} (h : tD K E (fMeth C m g n F A) σ H Qh) : tMeth C m (spD K n g) [] E (tD K E F) (tDA K E A) σ H Qh := by
  obtain ⟨W0, H0, W, ρ, Q, Z, st, f, k, x⟩ := h
  refine ⟨W0, H0, W, ρ, _, Z, st, f, fun v W1 H1 d e1 r ⟨ns, ds, z, hm, q⟩ => ?_, x⟩
  subst z
  cases r with
  | @obj a _ dx fs _ _ h1 h2 h3 =>
    subst h2
    refine ⟨a, dx, fs, rfl, e1.s _ _ h1, look_none hm, W0, H0, W1, ρ, _, Z, st.ext e1, q, fun us W2 H2 es e2 r2 ⟨hl, q2⟩ => ?_, x.ext e1⟩
    show spD K n g (V.ref a :: (us ++ [])) H2 Qh E
    rw [List.append_nil]
    exact ⟨W2, _, Q, Z, e2.s, .cons ((Rep.obj h1 rfl h3).gx e2.w) r2, by rw [List.length_cons]; exact hl, q2, fun v W3 H3 d e3 r3 q3 => k v W3 H3 d ((e1.trans e2).trans e3) r3 q3, x.ext (e1.trans e2)⟩
theorem d_meth {pl : Sem Bool} (c : CalO X.prog X.w X.K X.mg X.base C m k n g) (hr : Room k X.A) (hx : Passes (L2.CX X.prog X.w) X E) (ho : PE X o (tD K E F)) (ha : PA X (e :: es) (tDA K E A)) (hK : X.K = K := by rfl)
    (hst : starEach (e :: es) X.env = (false, eval e X.env) :: starEach es X.env := by rfl) (hpl : (backTo pos (starEach es X.env)).any (·.1) = false := by rfl)
    (ht : eval (.Call (.Attribute o m apos) (e :: es) [] pos) X.env = (do
      let ov ← eval o X.env
      standAt apos.atName
      let (f, first) ← holding [ov] (getMethod ov m pl)
      callWith pos f first (backTo pos (starEach (e :: es) X.env)) (backToKw pos (keywordEach [] X.env))) := by rfl) : PE X (.Call (.Attribute o m apos) (e :: es) [] pos) (tD K E (fMeth C m g n F A)) := by
  subst hK
  obtain ⟨f, fd, ps, hm, F, hb⟩ := c.ex
  exact (pe_meth (pl := pl) ho c.cl hm F hr hb .nil hx ha hst hpl ht).mono fun _ _ _ h => meth_to h
/-- o.f, a property -/
def fProp (C : Addr) (g : Fn) (F : FE) : FE := fun ρ Q Z => F ρ (fun d => ∃ ns ds, d = .obj C ns ds ∧ g [d] Q F0) Z
theorem d_prop (c : CalP X.prog X.w X.K X.mg X.base C m k g) (hr : Room (k + 1) X.A) (ho : PE X o (tD K E F)) (hab : attributeBase o m X.env (eval o X.env) = eval o X.env) (hK : X.K = K := by rfl) : PE X (.Attribute o m pos) (tD K E (fProp C g F)) := by
  subst hK
  obtain ⟨p, f, fd, ps, hp, F, hb⟩ := c.ex
  refine (pe_prop ho c.cl hp F hr hb .nil (passL (X := X.nox)) hab).mono fun σ H Qh ⟨W0, H0, W, ρ, Q, Z, st, f, k, x⟩ => ⟨W0, H0, W, ρ, _, Z, st, f, fun v W1 H1 d e1 r ⟨ns, ds, z, q⟩ => ?_, x⟩
  subst z
  cases r with
  | @obj a _ dx fs _ _ h1 h2 h3 => exact ⟨a, dx, fs, rfl, e1.s _ _ h1, W1, _, Q, F0, e1.s, .one (.obj h1 h2 h3), rfl, q, fun v W3 H3 d e3 r3 q3 => k v W3 H3 d (e1.trans e3) r3 q3, xc0⟩

/-! ### built-ins -/
def CSnd (K : PySem.W.Frag) (r : List V → Hp → VK → Prop) (R : List D → (D → Prop) → Prop) : Prop := ∀ W H xs ds Q Qh, Gx W H → RepTs K W H xs ds → R ds Q → (∀ v W' H' d, Ex W H W' H' → Rep K W' v d → Q d → Qh v H') → r xs H Qh
def CSndN (K : PySem.W.Frag) (r : List V → Hp → VK → Prop) (R : List D → (List D → Prop) → Prop) : Prop := ∀ W H xs ds Q Qh, Gx W H → RepTs K W H xs ds → R ds Q →
  (∀ p vs W' H' ds, Ex W H W' H' → H p = none → W' p = none → H' p = some (.lst vs) → RepAll K W' vs ds → vs.length ≤ sizeLine → Q ds → Qh (.ref p) H') → r xs H Qh
def fCB (R : List D → (D → Prop) → Prop) (A : FA) : FE := fun ρ Q Z => A ρ (fun ds => R ds Q) Z
def fCBN (R : List D → (List D → Prop) → Prop) (A : FA) : FA := fun ρ Q Z => A ρ (fun ds => R ds Q) Z
variable {r : List V → Hp → VK → Prop} {R : List D → (D → Prop) → Prop} {RN : List D → (List D → Prop) → Prop} {idn Tn : String}
theorem cb_to (hR : CSnd K r R) {σ : L2.St} {H : Hp} {Qh : VK} (h : tD K E (fCB R A) σ H Qh) : tCB r (tDAT K E A) σ H Qh := by
  obtain ⟨W0, H0, W, ρ, Q, Z, st, f, k, x⟩ := h
  exact ⟨W0, H0, W, ρ, _, Z, st, f, fun vs W1 H1 ds e1 r1 q => hR W1 H1 vs ds Q Qh e1.s r1 q fun v W2 H2 d e2 r2 q2 => k v W2 H2 d (e1.trans e2) r2 q2, x⟩
theorem cbn_to (hR : CSndN K r RN) {σ : L2.St} {H : Hp} {Qh : VK} (h : tDN K E (fCBN RN A) σ H Qh) : tCB r (tDAT K E A) σ H Qh := by
  obtain ⟨W0, H0, W, ρ, Q, Z, st, f, k, x⟩ := h
  exact ⟨W0, H0, W, ρ, _, Z, st, f, fun vs W1 H1 ds e1 r1 q => hR W1 H1 vs ds Q Qh e1.s r1 q fun p vs W2 H2 ds e2 hp hw h' r2 n q2 => k p vs W2 H2 ds (e1.trans e2) (e1.h.free hp) hw h' r2 n q2, x⟩
theorem d_cb (hc : CallR X (.builtin idn) r) (hR : CSnd K r R) (hg : Gl X x) (hm : X.mg x = none) (hv : bootBuiltins x = some (.builtin idn)) (ha : PA X (e :: es) (tDAT K E A)) (hn : x ≠ "__name__" := by decide) (hdb : (x == ("__debug__" : Str)) = false := by decide)
    (hs : starEach (e :: es) X.env = (false, eval e X.env) :: starEach es X.env := by rfl) (hpl : (backTo pos (starEach es X.env)).any (·.1) = false := by rfl) : PE X (.Call (.Name x p) (e :: es) [] pos) (tD K E (fCB R A)) :=
  (pe_callB hc hg hm hv ha hn hdb hs hpl).mono fun _ _ _ h => cb_to hR h
theorem d_ct (hc : CallR X (.type Tn) r) (hR : CSnd K r R) (hg : Gl X x) (hm : X.mg x = none) (hv : bootBuiltins x = some (.type Tn)) (ha : PA X (e :: es) (tDAT K E A)) (hn : x ≠ "__name__" := by decide) (hdb : (x == ("__debug__" : Str)) = false := by decide)
    (hs : starEach (e :: es) X.env = (false, eval e X.env) :: starEach es X.env := by rfl) (hpl : (backTo pos (starEach es X.env)).any (·.1) = false := by rfl) : PE X (.Call (.Name x p) (e :: es) [] pos) (tD K E (fCB R A)) :=
  (pe_callTy hc hg hm hv ha hn hdb hs hpl).mono fun _ _ _ h => cb_to hR h
theorem d_ctN (hc : CallR X (.type Tn) r) (hR : CSndN K r RN) (hg : Gl X x) (hm : X.mg x = none) (hv : bootBuiltins x = some (.type Tn)) (ha : PA X (e :: es) (tDAT K E A)) (hn : x ≠ "__name__" := by decide) (hdb : (x == ("__debug__" : Str)) = false := by decide)
    (hs : starEach (e :: es) X.env = (false, eval e X.env) :: starEach es X.env := by rfl) (hpl : (backTo pos (starEach es X.env)).any (·.1) = false := by rfl) : PE X (.Call (.Name x p) (e :: es) [] pos) (tDN K E (fCBN RN A)) :=
  (pe_callTy hc hg hm hv ha hn hdb hs hpl).mono fun _ _ _ h => cbn_to hR h
theorem d_cbN (hc : CallR X (.builtin idn) r) (hR : CSndN K r RN) (hg : Gl X x) (hm : X.mg x = none) (hv : bootBuiltins x = some (.builtin idn)) (ha : PA X (e :: es) (tDAT K E A)) (hn : x ≠ "__name__" := by decide) (hdb : (x == ("__debug__" : Str)) = false := by decide)
    (hs : starEach (e :: es) X.env = (false, eval e X.env) :: starEach es X.env := by rfl) (hpl : (backTo pos (starEach es X.env)).any (·.1) = false := by rfl) : PE X (.Call (.Name x p) (e :: es) [] pos) (tDN K E (fCBN RN A)) :=
  (pe_callB hc hg hm hv ha hn hdb hs hpl).mono fun _ _ _ h => cbn_to hR h
theorem ts1 {W H : Hp} {xs : List V} {d : D} (h : RepTs K W H xs [d]) : ∃ v, xs = [v] ∧ RepT K W H v d := by
  cases h with
  | cons r rs => cases rs; exact ⟨_, rfl, r⟩
theorem ts2 {W H : Hp} {xs : List V} {d d' : D} (h : RepTs K W H xs [d, d']) : ∃ v v', xs = [v, v'] ∧ RepT K W H v d ∧ RepT K W H v' d' := by
  cases h with
  | cons r rs =>
    obtain ⟨v', z, r'⟩ := ts1 rs
    subst z
    exact ⟨_, v', rfl, r, r'⟩
/-- len -/
def lenD : D → Option Nat
  | .lst ds => some ds.length
  | .tup ds => some ds.length
  | .dic ks _ => some ks.length
  | .lsk ds => some ds.length
  | .str z => if z.length ≤ sizeLine then some z.length else none
  | _ => none
def RLen (ds : List D) (Q : D → Prop) : Prop := ∃ d n, ds = [d] ∧ lenD d = some n ∧ Q (.int (n : Nat))
def rLenA (K : PySem.W.Frag) : List V → Hp → VK → Prop := fun xs H Q => (rLenK K xs H Q ∨ ∃ z, xs = [.str z] ∧ z.length ≤ sizeLine ∧ Q (.int z.length) H) ∨ ∃ a kvs, xs = [V.ref a] ∧ Rd H a (.dK kvs) ∧ Q (.int kvs.length) H
theorem callR_or {r r' : List V → Hp → VK → Prop} {v : Value} (h : CallR X v r) (h' : CallR X v r') : CallR X v (fun xs H Q => r xs H Q ∨ r' xs H Q) := fun pins s σ H xs us Q I rv q => by
  rcases q with q | q
  · exact h pins s σ H xs us Q I rv q
  · exact h' pins s σ H xs us Q I rv q
theorem call_lenDR : CallR X (.builtin "len") (fun xs H Q => ∃ a kvs, xs = [V.ref a] ∧ Rd H a (.dK kvs) ∧ Q (.int kvs.length) H) := by
  intro pins s σ H xs us Q I r h
  obtain ⟨a, kvs, rfl, ha, q⟩ := h
  obtain ⟨u, rfl, ru⟩ := vals1 r
  cases ru
  exact d_len I ha fun t s' I' => ⟨.int kvs.length, H, I', ⟨t, rfl⟩, q⟩
theorem c_len (hK : X.K = K := by rfl) : CallR X (.builtin "len") (rLenA K) := callR_or (callR_or (kcall_len hK) call_len_str) call_lenDR
theorem s_len : CSnd K (rLenA K) RLen := fun W H xs ds Q Qh s rr ⟨d, n, z, hd, q⟩ k => by
  subst z
  obtain ⟨v, rfl, r⟩ := ts1 rr
  cases d with
  | lst ds =>
    cases hd
    obtain ⟨p, vs, h1, h2, h3, h4⟩ := r.lst_inv s
    subst h1
    refine .inl (.inl ⟨p, vs, rfl, .inl (SqL.of h2), ?_⟩)
    rw [h3.len]
    exact k _ W H _ (Ex.refl s) (.int _) q
  | tup ds =>
    cases hd
    obtain ⟨p, vs, h1, h2, h3, h4⟩ := r.tup_inv s
    subst h1
    refine .inl (.inl ⟨p, vs, rfl, .inr h2, ?_⟩)
    rw [h3.len]
    exact k _ W H _ (Ex.refl s) (.int _) q
  | str z =>
    have hd : (if z.length ≤ sizeLine then some z.length else none) = some n := hd
    by_cases hz : z.length ≤ sizeLine
    · rw [if_pos hz] at hd
      cases hd
      rw [r.str_inv]
      exact .inl (.inr ⟨z, rfl, hz, k _ W H _ (Ex.refl s) (.int _) q⟩)
    · rw [if_neg hz] at hd
      cases hd
  | dic ks ds =>
    cases hd
    obtain ⟨p, vs, h1, h2, h3, h4, h5⟩ := r.dic_inv s
    subst h1
    refine .inr ⟨p, vs, rfl, h2, ?_⟩
    rw [← List.length_map (f := Prod.fst), h3]
    exact k _ W H _ (Ex.refl s) (.int _) q
  | lsk ds =>
    cases hd
    cases r with
    | val r =>
      cases r with
      | @lsk p vs _ h2 h3 h4 =>
        refine .inl (.inl ⟨p, vs, rfl, .inl (s.l h2), ?_⟩)
        rw [h3.len]
        exact k _ W H _ (Ex.refl s) (.int _) q
  | _ => cases hd
/-- list(x): a new list -/
def RList (ds : List D) (Q : List D → Prop) : Prop := ∃ d xs, ds = [d] ∧ seqD d = some xs ∧ Q xs
theorem s_list : CSndN K (rListK K) RList := fun W H xs ds Q Qh s rr ⟨d, ys, z, hd, q⟩ k => by
  subst z
  obtain ⟨v, rfl, r⟩ := ts1 rr
  obtain ⟨p, vs, h1, h2, h3, h4⟩ := r.seq_inv s hd
  subst h1
  exact ⟨p, vs, rfl, h2, fun l hl => k l vs W _ ys (Ex.hid s hl) hl (s.free hl) upd_same h3 h4 q⟩
/-- tuple(x) -/
def RTuple (ds : List D) (Q : D → Prop) : Prop := ∃ d xs, ds = [d] ∧ seqD d = some xs ∧ Q (.tup xs)
theorem s_tuple : CSnd K (rTupK K) RTuple := fun W H xs ds Q Qh s rr ⟨d, ys, z, hd, q⟩ k => by
  subst z
  obtain ⟨v, rfl, r⟩ := ts1 rr
  cases d with
  | lst es =>
    cases hd
    obtain ⟨p, vs, h1, h2, h3, h4⟩ := r.lst_inv s
    subst h1
    exact ⟨p, vs, rfl, .inl ⟨SqL.of h2, fun l hl => k _ _ _ _ (Ex.new s hl) (.tup (SqT.of upd_same) (h3.gx (Gx.new (s.free hl))) h4) q⟩⟩
  | tup es =>
    cases hd
    cases r with
    | val r =>
      cases r with
      | tup h1 h2 h3 => exact ⟨_, _, rfl, .inr ⟨s.t h1, k _ W H _ (Ex.refl s) (.tup h1 h2 h3) q⟩⟩
  | _ => cases hd
/-- all, any of truth values -/
def blsD : List D → Option (List Bool)
  | [] => some []
  | .bl b :: ds => (blsD ds).map (b :: ·)
  | _ => none
theorem bls_v {W : Hp} : ∀ {ds : List D} {vs : List V} {bs : List Bool}, RepAll K W vs ds → blsD ds = some bs → vs = bs.map V.bl
  | [], _, _, .nil, h => by cases h; rfl
  | d :: ds, _, bs, .cons r rs, h => by
    cases d with
    | bl b =>
      have h : (blsD ds).map (b :: ·) = some bs := h
      cases q : blsD ds with
      | none => rw [q] at h; cases h
      | some cs =>
        rw [q] at h
        cases h
        cases r
        rw [bls_v rs q]
        rfl
    | _ => cases h
theorem blsD_map {α : Type} (f : α → Bool) : ∀ l : List α, blsD (l.map fun x => .bl (f x)) = some (l.map f)
  | [] => rfl
  | x :: l => by
    show (blsD (l.map fun x => .bl (f x))).map (f x :: ·) = _
    rw [blsD_map f l]
    rfl
def RAll (ds : List D) (Q : D → Prop) : Prop := ∃ xs bs, ds = [.lst xs] ∧ blsD xs = some bs ∧ Q (.bl (bs.all id))
def RAny (ds : List D) (Q : D → Prop) : Prop := ∃ xs bs, ds = [.lst xs] ∧ blsD xs = some bs ∧ Q (.bl (bs.any id))
theorem s_all : CSnd K (rAll K) RAll := fun W H xs ds Q Qh s rr ⟨ys, bs, z, hb, q⟩ k => by
  subst z
  obtain ⟨v, rfl, r⟩ := ts1 rr
  obtain ⟨p, vs, h1, h2, h3, h4⟩ := r.lst_inv s
  subst h1
  exact ⟨p, bs, rfl, by rw [← bls_v h3 hb]; exact SqL.of h2, k _ W H _ (Ex.refl s) (.bl _) q⟩
theorem s_any : CSnd K (rAny K) RAny := fun W H xs ds Q Qh s rr ⟨ys, bs, z, hb, q⟩ k => by
  subst z
  obtain ⟨v, rfl, r⟩ := ts1 rr
  obtain ⟨p, vs, h1, h2, h3, h4⟩ := r.lst_inv s
  subst h1
  exact ⟨p, bs, rfl, by rw [← bls_v h3 hb]; exact SqL.of h2, k _ W H _ (Ex.refl s) (.bl _) q⟩
/-- max, min of two numbers -/
def RMax2 (ds : List D) (Q : D → Prop) : Prop := ∃ i j : Int, ds = [.int i, .int j] ∧ Q (.int (if j > i then j else i))
def RMin2 (ds : List D) (Q : D → Prop) : Prop := ∃ i j : Int, ds = [.int i, .int j] ∧ Q (.int (if j < i then j else i))
theorem s_max2 : CSnd K (fun xs H Q => ∃ i j, xs = [.int i, .int j] ∧ Q (.int (if j > i then j else i)) H) RMax2 := fun W H xs ds Q Qh s rr ⟨i, j, z, q⟩ k => by
  subst z
  obtain ⟨v, v', rfl, r, r'⟩ := ts2 rr
  exact ⟨i, j, by rw [r.int_inv, r'.int_inv], k _ W H _ (Ex.refl s) (.int _) q⟩
theorem s_min2 : CSnd K (fun xs H Q => ∃ i j, xs = [.int i, .int j] ∧ Q (.int (if j < i then j else i)) H) RMin2 := fun W H xs ds Q Qh s rr ⟨i, j, z, q⟩ k => by
  subst z
  obtain ⟨v, v', rfl, r, r'⟩ := ts2 rr
  exact ⟨i, j, by rw [r.int_inv, r'.int_inv], k _ W H _ (Ex.refl s) (.int _) q⟩
/-- str(text) -/
def RStr (ds : List D) (Q : D → Prop) : Prop := ∃ z, ds = [.str z] ∧ Q (.str z)
theorem s_str : CSnd K (fun xs H Q => ∃ a, xs = [.str a] ∧ Q (.str a) H) RStr := fun W H xs ds Q Qh s rr ⟨z, h, q⟩ k => by
  subst h
  obtain ⟨v, rfl, r⟩ := ts1 rr
  exact ⟨z, by rw [r.str_inv], k _ W H _ (Ex.refl s) (.str _) q⟩
/-! ### isinstance -/
def kdD : D → Kd
  | .non => .non
  | .bl _ => .bl
  | .int _ => .int
  | .str _ => .str
  | .lst _ => .lst
  | .tup _ => .tup
  | .dic _ _ => .dic
  | _ => .own
def okI (K : PySem.W.Frag) : D → Prop
  | .obj C _ _ => Own K C
  | .dice => False
  | .cls _ => False
  | .exn _ _ _ _ => False
  | .lsk _ => False
  | _ => True
def seven : List String := ["NoneType", "bool", "int", "str", "list", "tuple", "dict"]
theorem ty_of {H : Hp} {v : V} {d : D} (r : Rep K H v d) (o : okI K d) : (∃ t ∈ seven, TyX K H v (.type t) ∧ (∀ C ns ds, d ≠ .obj C ns ds) ∧ ∀ n ∈ asked, kitB t n = some (kdIs (kdD d) n)) ∨ ∃ C ns ds, d = .obj C ns ds ∧ TyX K H v (.ref C) ∧ Own K C := by
  cases r with
  | non => exact .inl ⟨_, by decide, .base .non, (by intros; simp), show ∀ n ∈ asked, kitB "NoneType" n = some (kdIs .non n) by decide +kernel⟩
  | bl b => exact .inl ⟨_, by decide, .base (.bl b), (by intros; simp), show ∀ n ∈ asked, kitB "bool" n = some (kdIs .bl n) by decide +kernel⟩
  | int i => exact .inl ⟨_, by decide, .base (.int i), (by intros; simp), show ∀ n ∈ asked, kitB "int" n = some (kdIs .int n) by decide +kernel⟩
  | str x => exact .inl ⟨_, by decide, .base (.str x), (by intros; simp), show ∀ n ∈ asked, kitB "str" n = some (kdIs .str n) by decide +kernel⟩
  | lst h _ _ => exact .inl ⟨_, by decide, .base (.lst h), (by intros; simp), show ∀ n ∈ asked, kitB "list" n = some (kdIs .lst n) by decide +kernel⟩
  | tup h _ _ =>
    refine .inl ⟨"tuple", by decide, ?_, (by intros; simp), show ∀ n ∈ asked, kitB "tuple" n = some (kdIs .tup n) by decide +kernel⟩
    rcases h with (h | ⟨o, h⟩) | ⟨o, its, n, h1, h2, _⟩
    · exact .base (.tup h)
    · exact .fTuple h
    · exact .kTuple h1 h2
  | dic h _ _ _ =>
    refine .inl ⟨"dict", by decide, ?_, (by intros; simp), show ∀ n ∈ asked, kitB "dict" n = some (kdIs .dic n) by decide +kernel⟩
    rcases h with h | ⟨o, h⟩
    · exact .base (.dK h)
    · exact .fDict h
  | obj h _ _ => exact .inr ⟨_, _, _, rfl, .base (.ins h o.cl o.ha o.hn o.htk o.hm), o⟩
  | dice => exact o.elim
  | cls => exact o.elim
  | exn => exact o.elim
  | lsk => exact o.elim
def fIsi (K : PySem.W.Frag) (n : String) (F : FE) : FE := fun ρ Q Z => F ρ (fun d => okI K d ∧ Q (.bl (kdIs (kdD d) n))) Z
theorem d_isi {n : String} {y : Str} {p2 : Pos} (hn : n ∈ asked) (hg : Gl X "isinstance") (hm : X.mg "isinstance" = none) (h : PE X e (tDT K E F)) (ht : PE X (.Name y p2) (tC (.ty n))) (hK : X.K = K := by rfl)
    (hs : starEach [e, .Name y p2] X.env = (false, eval e X.env) :: starEach [.Name y p2] X.env := by rfl) (hs2 : starEach [.Name y p2] X.env = [(false, eval (.Name y p2) X.env)] := by rfl) (hpl : (backTo pos (starEach [.Name y p2] X.env)).any (·.1) = false := by rfl) :
    PE X (.Call (.Name "isinstance" p) [e, .Name y p2] [] pos) (tD K E (fIsi K n F)) := by
  refine (pe_callB (kcall_isi hK) hg hm (by decide +kernel) (pa_cons h (pa_cons ht pa_nil hs2) hs) (by decide) (by decide) hs hpl).mono fun σ H Qh ⟨W0, H0, W, ρ, Q, Z, st, f, k, x⟩ => ⟨W0, H0, W, ρ, _, Z, st, f, fun v W1 H1 d e1 r ⟨o, q⟩ => ?_, x⟩
  have fin := k _ W1 H1 _ e1 (.bl _) q
  rcases ty_of (r.full e1.s) o with ⟨t, _, h1, _, h2⟩ | ⟨C, ns, ds, z, h1, h2⟩
  · exact ⟨v, .ty n, .type t, .type n, _, rfl, .ty n, h1, kit_ty (h2 n hn), fin⟩
  · subst z
    refine ⟨v, .ty n, .ref C, .type n, false, rfl, .ty n, h1, h2.no n hn, ?_⟩
    have : kdIs (kdD (.obj C ns ds)) n = false := by
      show kdIs .own n = false
      rfl
    rw [this] at fin
    exact fin
/-- is of the class at C -/
def isC (K : PySem.W.Frag) (C : Addr) (d : D) (b : Bool) : Prop := okI K d ∧ match d with
  | .obj C' _ _ => PySem.W.kitOne K (.ref C') (.ref C) = some b
  | _ => b = false ∧ ∀ n ∈ seven, PySem.W.kitOne K (.type n) (.ref C) = some false
def fIsc (K : PySem.W.Frag) (C : Addr) (F : FE) : FE := fun ρ Q Z => F ρ (fun d => ∃ b, isC K C d b ∧ Q (.bl b)) Z
theorem d_isc {y : Str} {p2 : Pos} (hg : Gl X "isinstance") (hm : X.mg "isinstance" = none) (h : PE X e (tDT K E F)) (ht : PE X (.Name y p2) (tC (.ref C))) (hK : X.K = K := by rfl)
    (hs : starEach [e, .Name y p2] X.env = (false, eval e X.env) :: starEach [.Name y p2] X.env := by rfl) (hs2 : starEach [.Name y p2] X.env = [(false, eval (.Name y p2) X.env)] := by rfl) (hpl : (backTo pos (starEach [.Name y p2] X.env)).any (·.1) = false := by rfl) :
    PE X (.Call (.Name "isinstance" p) [e, .Name y p2] [] pos) (tD K E (fIsc K C F)) := by
  refine (pe_callB (kcall_isi hK) hg hm (by decide +kernel) (pa_cons h (pa_cons ht pa_nil hs2) hs) (by decide) (by decide) hs hpl).mono fun σ H Qh ⟨W0, H0, W, ρ, Q, Z, st, f, k, x⟩ => ⟨W0, H0, W, ρ, _, Z, st, f, fun v W1 H1 d e1 r ⟨b, ⟨o, hb⟩, q⟩ => ?_, x⟩
  have fin := k _ W1 H1 _ e1 (.bl _) q
  rcases ty_of (r.full e1.s) o with ⟨t, ht, h1, h0, h2⟩ | ⟨C', ns, ds, z, h1, h2⟩
  · cases d with
    | obj C' ns ds => exact absurd rfl (h0 C' ns ds)
    | _ =>
      obtain ⟨rfl, hb⟩ := hb
      exact ⟨v, .ref C, .type t, .ref C, false, rfl, .own C, h1, hb t ht, fin⟩
  · subst z
    exact ⟨v, .ref C, .ref C', .ref C, b, rfl, .own C, h1, hb, fin⟩
/-! ### sep.join(list of texts) -/
def strsD : List D → Option (List Str)
  | [] => some []
  | .str b :: ds => (strsD ds).map (b :: ·)
  | _ => none
theorem strs_v {W : Hp} : ∀ {ds : List D} {vs : List V} {bs : List Str}, RepAll K W vs ds → strsD ds = some bs → vs = bs.map V.str
  | [], _, _, .nil, h => by cases h; rfl
  | d :: ds, _, bs, .cons r rs, h => by
    cases d with
    | str b =>
      have h : (strsD ds).map (b :: ·) = some bs := h
      cases q : strsD ds with
      | none => rw [q] at h; cases h
      | some cs =>
        rw [q] at h
        cases h
        cases r
        rw [strs_v rs q]
        rfl
    | _ => cases h
theorem strsD_map {α : Type} (f : α → Str) : ∀ l : List α, strsD (l.map fun x => .str (f x)) = some (l.map f)
  | [] => rfl
  | x :: l => by
    show (strsD (l.map fun x => .str (f x))).map (f x :: ·) = _
    rw [strsD_map f l]
    rfl
def fJoin (F G : FE) : FE := fun ρ Q Z => F ρ (fun a => ∃ s, a = .str s ∧ G ρ (fun d => ∃ xs ys, seqD d = some xs ∧ strsD xs = some ys ∧ (ys.map (·.length)).sum + ys.length * s.length ≤ 16777216 ∧ Q (.str (Txt.join s ys))) Z) Z
theorem d_join (ho : PE X o (tD K E F)) (he : PE X e (tDT K E G)) (hK : X.K = K := by rfl) (hs : starEach [e] X.env = [(false, eval e X.env)] := by rfl) (hbase : attributeBase o "join" X.env (eval o X.env) = eval o X.env := by rfl) (hline : (apos.endLine == pos.line) = true := by rfl) :
    PE X (.Call (.Attribute o "join" apos) [e] [] pos) (tD K E (fJoin F G)) := (kpe_join ho he hK hs hbase hline).mono fun σ H Qh ⟨W0, H0, W, ρ, Q, Z, st, f, k, x⟩ => by
  refine ⟨W0, H0, W, ρ, _, Z, st, f, fun v W1 H1 d e1 r ⟨s, z, q⟩ => ?_, x⟩
  subst z
  cases r
  refine ⟨⟨s, rfl⟩, W0, H0, W1, ρ, _, Z, st.ext e1, q, fun v2 W2 H2 d2 e2 r2 ⟨xs, ys, h1, h2, h3, q2⟩ => ?_, x.ext e1⟩
  obtain ⟨p, vs, g1, g2, g3, g4⟩ := r2.seq_inv e2.s h1
  subst g1
  rw [strs_v g3 h2] at g2
  exact ⟨s, p, ys, rfl, rfl, g2, h3, k _ W2 H2 _ (e1.trans e2) (.str _) q2⟩
/-! ### sorted(list of texts) -/
end
end Pu

set_option Elab.async false
set_option maxRecDepth 100000
set_option linter.all false
namespace Pu
open PySem PySem.Spec PyProof.Rows L2 Ly
section
variable {X : Cx} {K : PySem.W.Frag} {E : XK} {W0 H0 : Hp} {F G L : FE} {T U : FT} {A N : FA} {S S' : FS} {g : Fn} {tg e a b o : Expr} {es : List Expr} {p pos apos : Pos} {i j k n : Nat} {x m f : Str} {C : Addr} {st : Stmt} {body : List Stmt}
/-- x = [..] on one line -/
theorem d_setLc {gh : TG} {gg : FG} {vs : List Nat} (gs : GSnd K gh gg vs) (h : PS X st (tAsg (tLc (tDI K E A) gh (tDB K E0 T) (tD K E0 F) vs) (gName i))) : PS X st (tDS K W0 H0 E (sNew i (fLc A gg T F vs))) := h.mono fun D σ H ⟨W, ρ, De, s, q, o⟩ =>
  lc_to (K := K) (E := E) (A := A) (T := T) (F := F) (g := gg) (fun _ _ _ q => q) gs (fun _ _ _ q => q) (fun _ _ _ q => q) ⟨W0, H0, W, ρ, _, _, s, q, fun p vs W' H' ds e hp hw h' r n z => o.nx W' _ _ H' e.w (s.put (b := .lst ds) e hp ⟨p, vs, rfl, rfl, hw, s.ex.h.free hp, h', r, n⟩) z, o.xc s⟩
theorem d_setLcV {gh : TG} {gg : FG} {vs : List Nat} (gs : GSnd K gh gg vs) (h : PS X st (tAsg (tLc (tDI K E A) gh (tDB K E0 T) (tD K E0 F) vs) (gName i))) : PS X st (tDS K W0 H0 E (sAsg i (fNew (fLc A gg T F vs)))) := h.mono fun D σ H ⟨W, ρ, De, s, q, o⟩ =>
  lc_to (K := K) (E := E) (A := A) (T := T) (F := F) (g := gg) (fun _ _ _ q => q) gs (fun _ _ _ q => q) (fun _ _ _ q => q) ⟨W0, H0, W, ρ, _, _, s, q, fun p vs W' H' ds e hp hw h' r n z =>
    o.nx _ _ _ H' (e.w.trans (Gx.new hw)) ((s.ext (e.see hp hw h')).set (.lst upd_same (r.gx (Gx.new hw)) n)) z, o.xc s⟩
/-- while -/
def sWhile (T : FT) (S : FS) : FS := fun ρ De => ∃ I : Nat → Env → Prop, (∃ m, I m ρ) ∧ ∀ m ρ, I m ρ → T ρ (fun b => if b = true then S ρ { De with nx := fun ρ' => ∃ m', m' < m ∧ I m' ρ', ct := fun ρ' => ∃ m', m' < m ∧ I m' ρ', bk := De.nx } else De.nx ρ) De.ex
theorem d_while {c : Expr} (hp : PassesOwn (model X.prog X.w) X.A X.env X.xe) (hc : PT X c (tDB K E T)) (hb : PSs X body (tDS K W0 H0 E S)) : PS X (.While c body [] pos) (tDS K W0 H0 E (sWhile T S)) := (ps_while hp hc hb).mono fun D σ H ⟨W, ρ, De, s, ⟨I, ⟨m0, i0⟩, turn⟩, o⟩ => by
  refine ⟨fun m σ' H' => ∃ W' ρ', Gx W W' ∧ Sat K W0 H0 W' ρ' σ' H' ∧ I m ρ', ⟨m0, W, ρ, Gx.refl _, s, i0⟩, ?_⟩
  rintro m σ' H' ⟨W', ρ', e2, s2, i2⟩
  refine ⟨W0, H0, W', ρ', _, _, s2, turn m ρ' i2, fun b W3 H3 e3 q3 => ?_, o.xc s2⟩
  cases b with
  | true =>
    rw [if_pos rfl] at q3
    refine iteT ⟨fun σ4 H4 => ∃ m', m' < m ∧ ∃ W4 ρ4, Gx W W4 ∧ Sat K W0 H0 W4 ρ4 σ4 H4 ∧ I m' ρ4, fun σ4 H4 ⟨m', h1, h2⟩ => ⟨m', h1, h2⟩, W3, ρ', _, s2.ext e3, q3, ?_⟩
    exact ⟨fun W' ρ' σ' H' g s' ⟨m', h1, h2⟩ => ⟨m', h1, W', ρ', (e2.trans e3.w).trans g, s', h2⟩, o.rt, fun W' ρ' σ' H' g s' q' => o.nx W' ρ' σ' H' ((e2.trans e3.w).trans g) s' q', fun W' ρ' σ' H' g s' ⟨m', h1, h2⟩ => ⟨m', h1, W', ρ', (e2.trans e3.w).trans g, s', h2⟩, o.ex⟩
  | false =>
    rw [if_neg (by decide)] at q3
    exact iteF (o.nx W3 ρ' σ' H3 (e2.trans e3.w) (s2.ext e3) q3)
/-- raise C('..') -/
def sRaise (C : Addr) : FS := fun _ De => De.ex (.bare C)
theorem d_raise (h : PS X st (fun _ σ H => E (.ref C) none H)) : PS X st (tDS K W0 H0 E (sRaise C)) := h.mono fun D σ H ⟨W, ρ, De, s, q, o⟩ => o.ex _ _ _ W H s.ex (.bare C) q
/-- an expression whose value is dropped -/
def sDrop (F : FE) : FS := fun ρ De => F ρ (fun _ => De.nx ρ) De.ex
theorem d_drop (h : PE X e (tD K E F)) (hs : swapsWith e none pos.line X.env = pure false := by rfl) : PS X (.Expr e pos) (tDS K W0 H0 E (sDrop F)) := (ps_expr h hs).mono fun D σ H ⟨W, ρ, De, s, q, o⟩ =>
  ⟨W0, H0, W, ρ, _, _, s, q, fun v W' H' d e r z => o.nx W' ρ σ H' e.w (s.ext e) z, o.xc s⟩
def sBrk : FS := fun ρ De => De.bk ρ
def sCont : FS := fun ρ De => De.ct ρ
theorem d_brk : PS X (.Break pos) (tDS K W0 H0 E sBrk) := ps_break.mono fun D σ H ⟨W, ρ, De, s, q, o⟩ => o.bk W ρ σ H (Gx.refl W) s q
theorem d_cont : PS X (.Continue pos) (tDS K W0 H0 E sCont) := ps_continue.mono fun D σ H ⟨W, ρ, De, s, q, o⟩ => o.ct W ρ σ H (Gx.refl W) s q
end
theorem hr65 {k : Nat} {A : Around} (hr : Room k A) : A.units + 65 < cLine := by have := hr.un; omega
theorem hr1 {k : Nat} {A : Around} (hr : Room k A) : A.units + 1 < cLine := by have := hr.un; omega
end Pu

set_option Elab.async false
set_option maxRecDepth 100000
set_option linter.all false
/-! the pure layer: dicts -/
namespace Pu
open PySem PySem.Spec PyProof.Rows L2 Ly
def keyD : D → Option Key
  | .int i => some (.inl i)
  | .str x => some (.inr x)
  | _ => none
def kD : Key → D
  | .inl i => .int i
  | .inr x => .str x
theorem keyD_kD (k : Key) : keyD (kD k) = some k := by cases k <;> rfl
def valD : List Key → List D → Key → Option D
  | k' :: ks, d :: ds, k => if k' = k then some d else valD ks ds k
  | _, _, _ => none
def putKs (ks : List Key) (k : Key) : List Key := if (ks.any fun x => decide (x = k)) = true then ks else ks ++ [k]
def putDs (ks : List Key) (ds : List D) (k : Key) (d : D) : List D := if (ks.any fun x => decide (x = k)) = true then List.zipWith (fun x y => if x = k then d else y) ks ds else ds ++ [d]
section
variable {K : PySem.W.Frag} {W H : Hp}
theorem key_v {v : V} {d : D} {k : Key} (r : Rep K W v d) (h : keyD d = some k) : v = kV k := by
  cases r <;> cases h <;> rfl
theorem keyT_v {v : V} {d : D} {k : Key} (r : RepT K W H v d) (h : keyD d = some k) : v = kV k := by
  cases d with
  | int i => cases h; exact r.int_inv
  | str x => cases h; exact r.str_inv
  | _ => cases h
theorem rep_kV (k : Key) : Rep K W (kV k) (kD k) := by
  cases k with
  | inl i => exact .int i
  | inr x => exact .str x
theorem val_v {k : Key} : ∀ {kvs : List (Key × V)} {ds : List D}, RepAll K W (kvs.map Prod.snd) ds → (valV kvs k = none ∧ valD (kvs.map Prod.fst) ds k = none) ∨ ∃ v d, valV kvs k = some v ∧ valD (kvs.map Prod.fst) ds k = some d ∧ Rep K W v d
  | [], _, _ => .inl ⟨rfl, rfl⟩
  | (k', v) :: kvs, d :: ds, .cons r rs => by
    unfold valV
    rw [List.find?_cons, List.map_cons]
    by_cases h : k' = k
    · refine .inr ⟨v, d, ?_, ?_, r⟩
      · rw [decide_eq_true h]
        rfl
      · show (if k' = k then some d else _) = some d
        rw [if_pos h]
    · rw [decide_eq_false h]
      have e : valD (k' :: kvs.map Prod.fst) (d :: ds) k = valD (kvs.map Prod.fst) ds k := by
        show (if k' = k then some d else _) = _
        rw [if_neg h]
      rw [e]
      exact val_v rs
theorem any_k {k : Key} : ∀ kvs : List (Key × V), (kvs.any fun kv => decide (kv.1 = k)) = ((kvs.map Prod.fst).any fun x => decide (x = k))
  | [] => rfl
  | p :: kvs => by rw [List.any_cons, List.map_cons, List.any_cons, any_k kvs]
theorem rep_put {k : Key} {v : V} {d : D} {kvs : List (Key × V)} {ds : List D} (r : Rep K W v d) (rs : RepAll K W (kvs.map Prod.snd) ds) : (putK kvs k v).map Prod.fst = putKs (kvs.map Prod.fst) k ∧ RepAll K W ((putK kvs k v).map Prod.snd) (putDs (kvs.map Prod.fst) ds k d) := by
  unfold putK putKs putDs
  rw [any_k]
  by_cases h : ((kvs.map Prod.fst).any fun x => decide (x = k)) = true
  · rw [if_pos h, if_pos h, if_pos h]
    clear h
    have : ∀ {kvs : List (Key × V)} {ds : List D}, RepAll K W (kvs.map Prod.snd) ds → (kvs.map fun kv => if kv.1 = k then (kv.1, v) else kv).map Prod.fst = kvs.map Prod.fst ∧ RepAll K W ((kvs.map fun kv => if kv.1 = k then (kv.1, v) else kv).map Prod.snd) (List.zipWith (fun x y => if x = k then d else y) (kvs.map Prod.fst) ds) := by
      intro kvs
      induction kvs with
      | nil =>
        intro ds h
        cases h
        exact ⟨rfl, .nil⟩
      | cons p kvs ih =>
        intro ds h
        cases h with
        | cons r1 rs =>
          obtain ⟨h1, h2⟩ := ih rs
          refine ⟨?_, ?_⟩
          · rw [List.map_cons, List.map_cons, h1, List.map_cons]
            congr 1
            split <;> rfl
          · rw [List.map_cons, List.map_cons, List.map_cons, List.zipWith_cons_cons]
            refine .cons ?_ h2
            split
            · exact r
            · exact r1
    exact this rs
  · rw [if_neg h, if_neg h, if_neg h]
    refine ⟨by rw [List.map_append]; rfl, ?_⟩
    rw [List.map_append]
    exact rs.app (.one r)
theorem put_len (kvs : List (Key × V)) (k : Key) (v : V) : (putK kvs k v).length ≤ kvs.length + 1 := Ly.putK_len kvs k v
end
section
variable {X : Cx} {K : PySem.W.Frag} {E : XK} {W0 H0 : Hp} {F G L : FE} {T U : FT} {A N : FA} {S S' : FS} {g : Fn} {tg e a b o : Expr} {es : List Expr} {p pos apos : Pos} {i j k n : Nat} {x m f : Str} {C : Addr} {st : Stmt} {body : List Stmt}
/-! ### d[k], k in d, d.get(k, x) -/
def fGet (F G : FE) : FE := fun ρ Q Z => F ρ (fun d => ∃ ks ds, d = .dic ks ds ∧ G ρ (fun y => ∃ k v, keyD y = some k ∧ valD ks ds k = some v ∧ Q v) Z) Z
theorem d_get (hu : X.A.units + 1 < cLine) (ho : PE X o (tDT K E F)) (hi : PE X a (tD K E G)) (hs : NoSl a) : PE X (.Subscript o a pos) (tD K E (fGet F G)) := (pe_dget hu ho hi hs).mono fun σ H Qh ⟨W0, H0, W, ρ, Q, Z, st, f, k, x⟩ => by
  refine ⟨W0, H0, W, ρ, _, Z, st, f, fun v W1 H1 d e1 r ⟨ks, ds, z, q⟩ => ?_, x⟩
  subst z
  refine ⟨W0, H0, W1, ρ, _, Z, st.ext e1, q, fun v2 W2 H2 d2 e2 r2 ⟨kk, u, hk, hv, q2⟩ => ?_, x.ext e1⟩
  obtain ⟨ad, kvs, h1, h2, h3, h4, h5⟩ := (r.ext e2).dic_inv e2.s
  subst h3
  rcases val_v (k := kk) h4 with ⟨g1, g2⟩ | ⟨w, d', g1, g2, g3⟩
  · rw [hv] at g2; cases g2
  · rw [hv] at g2
    cases g2
    exact ⟨ad, w, h1, .inl ⟨kvs, kk, h2, key_v r2 hk, g1.symm⟩, k _ W2 H2 _ (e1.trans e2) g3 q2⟩
def fHas (neg : Bool) (G F : FE) : FE := fun ρ Q Z => G ρ (fun y => F ρ (fun d => ∃ ks ds k, d = .dic ks ds ∧ keyD y = some k ∧ Q (.bl (neg != (valD ks ds k).isSome))) Z) Z
theorem has_to {σ : L2.St} {H : Hp} {Qh : VK} (h : tD K E (fHas false G F) σ H Qh) : tDIn (tD K E G) (tDT K E F) σ H Qh := by
  obtain ⟨W0, H0, W, ρ, Q, Z, st, f, k, x⟩ := h
  refine ⟨W0, H0, W, ρ, _, Z, st, f, fun v W1 H1 d e1 r q => ?_, x⟩
  refine ⟨W0, H0, W1, ρ, _, Z, st.ext e1, q, fun v2 W2 H2 d2 e2 r2 ⟨ks, ds, kk, z, hk, q2⟩ => ?_, x.ext e1⟩
  subst z
  obtain ⟨ad, kvs, h1, h2, h3, h4, h5⟩ := r2.dic_inv e2.s
  subst h3
  rw [Bool.false_bne] at q2
  refine ⟨ad, valV kvs kk, h1, .inl ⟨kvs, kk, h2, key_v r hk, rfl⟩, ?_⟩
  rcases val_v (k := kk) h4 with ⟨g1, g2⟩ | ⟨w, d', g1, g2, g3⟩
  · rw [g1]
    rw [g2] at q2
    exact k _ W2 H2 _ (e1.trans e2) (.bl _) q2
  · rw [g1]
    rw [g2] at q2
    exact k _ W2 H2 _ (e1.trans e2) (.bl _) q2
theorem hasnt_to {σ : L2.St} {H : Hp} {Qh : VK} (h : tD K E (fHas true G F) σ H Qh) : tDNotIn (tD K E G) (tDT K E F) σ H Qh := by
  obtain ⟨W0, H0, W, ρ, Q, Z, st, f, k, x⟩ := h
  refine ⟨W0, H0, W, ρ, _, Z, st, f, fun v W1 H1 d e1 r q => ?_, x⟩
  refine ⟨W0, H0, W1, ρ, _, Z, st.ext e1, q, fun v2 W2 H2 d2 e2 r2 ⟨ks, ds, kk, z, hk, q2⟩ => ?_, x.ext e1⟩
  subst z
  obtain ⟨ad, kvs, h1, h2, h3, h4, h5⟩ := r2.dic_inv e2.s
  subst h3
  rw [Bool.true_bne] at q2
  refine ⟨ad, valV kvs kk, h1, .inl ⟨kvs, kk, h2, key_v r hk, rfl⟩, ?_⟩
  rcases val_v (k := kk) h4 with ⟨g1, g2⟩ | ⟨w, d', g1, g2, g3⟩
  · rw [g1]
    rw [g2] at q2
    exact k _ W2 H2 _ (e1.trans e2) (.bl _) q2
  · rw [g1]
    rw [g2] at q2
    exact k _ W2 H2 _ (e1.trans e2) (.bl _) q2
theorem d_has (hu : X.A.units + 1 < cLine) (ha : PE X a (tD K E G)) (hb : PE X b (tDT K E F)) (hm : behindInMarks .In b = false := by rfl) : PE X (.Compare a [.In] [b] pos) (tD K E (fHas false G F)) := (pe_cmp (pc_din hu ha hb) hm).mono fun _ _ _ h => has_to h
theorem d_hasnt (hu : X.A.units + 1 < cLine) (ha : PE X a (tD K E G)) (hb : PE X b (tDT K E F)) (hm : behindInMarks .NotIn b = false := by rfl) : PE X (.Compare a [.NotIn] [b] pos) (tD K E (fHas true G F)) := (pe_cmp (pc_dnotin hu ha hb) hm).mono fun _ _ _ h => hasnt_to h
theorem d_thas (hu : X.A.units + 1 < cLine) (ha : PE X a (tD K E G)) (hb : PE X b (tDT K E F)) (hm : behindInMarks .In b = false := by rfl) : PT X (.Compare a [.In] [b] pos) (tDB K E (fTst (fHas false G F))) := (pt_cmp (pc_din hu ha hb) hm).mono fun _ _ _ h => has_to (tst_to h)
theorem d_thasnt (hu : X.A.units + 1 < cLine) (ha : PE X a (tD K E G)) (hb : PE X b (tDT K E F)) (hm : behindInMarks .NotIn b = false := by rfl) : PT X (.Compare a [.NotIn] [b] pos) (tDB K E (fTst (fHas true G F))) := (pt_cmp (pc_dnotin hu ha hb) hm).mono fun _ _ _ h => hasnt_to (tst_to h)
def fGet2 (F G L : FE) : FE := fun ρ Q Z => F ρ (fun d => ∃ ks ds, d = .dic ks ds ∧ G ρ (fun y => L ρ (fun z => ∃ k, keyD y = some k ∧ Q ((valD ks ds k).getD z)) Z) Z) Z
theorem d_get2 {c : Expr} (hu : X.A.units + 1 < cLine) (ho : PE X o (tDT K E F)) (he : PE X a (tD K E G)) (hf : PE X c (tD K E L)) (m : M2 X o "get" apos a c pos) : PE X (.Call (.Attribute o "get" apos) [a, c] [] pos) (tD K E (fGet2 F G L)) := (pe_dget2 hu ho he hf m).mono fun σ H Qh ⟨W0, H0, W, ρ, Q, Z, st, f, k, x⟩ => by
  refine ⟨W0, H0, W, ρ, _, Z, st, f, fun v W1 H1 d e1 r ⟨ks, ds, z, q⟩ => ?_, x⟩
  subst z
  obtain ⟨ad, kvs, h1, h2, h3, h4, h5⟩ := r.dic_inv e1.s
  subst h3
  refine ⟨ad, h1, .inl ⟨kvs, h2⟩, W0, H0, W1, ρ, _, Z, st.ext e1, q, fun v2 W2 H2 d2 e2 r2 q2 => ?_, x.ext e1⟩
  refine ⟨W0, H0, W2, ρ, _, Z, st.ext (e1.trans e2), q2, fun v3 W3 H3 d3 e3 r3 ⟨kk, hk, q3⟩ => ?_, x.ext (e1.trans e2)⟩
  have e13 := (e1.trans e2).trans e3
  refine ⟨valV kvs kk, .inl ⟨kvs, kk, (e2.trans e3).h.rd h2, key_v r2 hk, rfl⟩, ?_⟩
  rcases val_v (k := kk) h4 with ⟨g1, g2⟩ | ⟨w, d', g1, g2, g3⟩
  · rw [g1]
    rw [g2] at q3
    exact k _ W3 H3 _ e13 r3 q3
  · rw [g1]
    rw [g2] at q3
    exact k _ W3 H3 _ e13 (g3.gx (e2.trans e3).w) q3

/-! ### new dicts -/
/-- an expression that makes a dict -/
abbrev FDi := Env → (List Key → List D → Prop) → ZX → Prop
def tDD (K : PySem.W.Frag) (E : XK) (F : FDi) : TE := fun σ H Qh => ∃ W0 H0 W ρ Q Z, Sat K W0 H0 W ρ σ H ∧ F ρ Q Z ∧
  (∀ p kvs W' H' ds, Ex W H W' H' → H p = none → W' p = none → H' p = some (.dK kvs) → RepAll K W' (kvs.map Prod.snd) ds → kvs.length ≤ sizeLine → Q (kvs.map Prod.fst) ds → Qh (.ref p) H') ∧ XC K E W H Z
def fDic (F : FDi) : FE := fun ρ Q Z => F ρ (fun ks ds => Q (.dic ks ds)) Z
variable {Fd : FDi}
theorem d_dd (h : PE X e (tDD K E Fd)) : PE X e (tD K E (fDic Fd)) := h.mono fun σ H Qh ⟨W0, H0, W, ρ, Q, Z, st, f, k, x⟩ => ⟨W0, H0, W, ρ, _, Z, st, f, fun p kvs W' H' ds e hp hw h' r n q =>
  k _ _ H' _ (e.see hp hw h') (.dic (.inl upd_same) rfl (r.gx (Gx.new hw)) n) q, x⟩
def fDic0 : FDi := fun _ Q _ => Q [] []
theorem d_dic0 (h : PE X e tDNewK) : PE X e (tDD K E fDic0) := h.mono fun σ H Qh ⟨W0, H0, W, ρ, Q, Z, st, f, k, x⟩ p hp => k p [] W _ [] (Ex.hid st.see hp) hp (st.see.free hp) upd_same .nil (by decide) f
def sNewD (i : Nat) (F : FDi) : FS := fun ρ De => F ρ (fun ks ds => De.nx (ρ.set i (.dic ks ds))) De.ex
theorem d_newD (he : PE X e (tDD K E Fd)) (hg : PG X tg (gName i)) (hs : swapsWithSole [tg] e pos.line X.env = pure false := by rfl) (hw : swappedStores [tg] e X.env = pure none := by rfl)
    (h1 : (assignEach [tg] X.env).map (·.2) = [assign tg X.env] := by rfl) : PS X (.Assign [tg] e pos) (tDS K W0 H0 E (sNewD i Fd)) := (ps_asg he hg hs hw h1).mono fun D σ H ⟨W, ρ, De, s, q, o⟩ =>
  ⟨W0, H0, W, ρ, _, _, s, q, fun p vs W' H' ds e hp hw h' r n z => o.nx W' _ _ H' e.w (s.put (b := .dic _ ds) e hp ⟨p, vs, rfl, rfl, hw, s.ex.h.free hp, h', rfl, r, n⟩) z, o.xc s⟩
/-- x[k] = v of an own dict -/
def sPutD (i : Nat) (G F : FE) : FS := fun ρ De => F ρ (fun d => ∃ ks ds, ρ[i]? = some (.dic ks ds) ∧ G ρ (fun y => ∃ k, keyD y = some k ∧ ks.length < sizeLine ∧ De.nx (ρ.set i (.dic (putKs ks k) (putDs ks ds k d)))) De.ex) De.ex
theorem Sat.chgD {W H : Hp} {ρ : Env} {σ : L2.St} (h : Sat K W0 H0 W ρ σ H) {p : Addr} {ks ms : List Key} {ds es : List D} {kvs : List (Key × V)} (hi : ρ[i]? = some (.dic ks ds)) (hs : σ[i]? = some (some (.ref p))) (k : kvs.map Prod.fst = ms) (r : RepAll K W (kvs.map Prod.snd) es) (hn : kvs.length ≤ sizeLine) : Sat K W0 H0 W (ρ.set i (.dic ms es)) σ (upd H p (.dK kvs)) := by
  obtain ⟨oa, h1, h2⟩ := h.rep
  obtain ⟨s, h3, q, vs, h4, h5, h6, h7, h8, _⟩ := h2 i _ hi
  have hq : q = p := by
    rw [h3, h5] at hs
    cases hs
    rfl
  subst hq
  have hσ : σ.set i (some (.ref q)) = σ := by
    apply List.ext_getElem?
    intro j
    by_cases e : j = i
    · subst e
      rw [List.getElem?_set_self (List.getElem?_eq_some_iff.mp hs).1, hs]
    · rw [List.getElem?_set_ne (Ne.symm e)]
  rw [← hσ]
  refine sat_set (o := some q) (Ex.mut h.ex h7 h6) h.len h1 (fun j p z hj _ hp => ?_) (fun j b hj hb => ?_) ⟨q, kvs, rfl, rfl, h6, h7, upd_same, k, r, hn⟩
  · cases z
    exact hj (h1 j i q hp h4)
  · obtain ⟨s', h11, h12⟩ := h2 j b hb
    exact ⟨s', h11, h12.mut (fun z => hj (h1 j i q z h4)) fun x z => by rw [h8] at z; cases z⟩
theorem Sat.ownD {W H : Hp} {ρ : Env} {σ : L2.St} (h : Sat K W0 H0 W ρ σ H) {ks : List Key} {ds : List D} (hi : ρ[i]? = some (.dic ks ds)) : ∃ p kvs, σ[i]? = some (some (.ref p)) ∧ H p = some (.dK kvs) ∧ kvs.map Prod.fst = ks ∧ RepAll K W (kvs.map Prod.snd) ds ∧ kvs.length ≤ sizeLine := by
  obtain ⟨oa, _, h2⟩ := h.rep
  obtain ⟨s, h3, p, kvs, _, h4, _, _, h5⟩ := h2 i _ hi
  exact ⟨p, kvs, by rw [h3, h4], h5⟩
theorem d_putD (h : PS X st (sDPut (tVar i) (tD K E G) (tD K E F))) : PS X st (tDS K W0 H0 E (sPutD i G F)) := h.mono fun D σ H ⟨W, ρ, De, s, q, o⟩ => by
  refine ⟨W0, H0, W, ρ, _, _, s, q, fun v W1 H1 d e1 r1 ⟨ks, ds, hi, q1⟩ => ?_, o.xc s⟩
  have s1 := s.ext e1
  obtain ⟨p, kvs, h1, _⟩ := s1.ownD hi
  refine ⟨.ref p, h1, W0, H0, W1, ρ, _, _, s1, q1, fun y W2 H2 dk e2 r2 ⟨kk, hk, hn, q2⟩ => ?_, o.xc s1⟩
  have s2 := s1.ext e2
  obtain ⟨p', us, g1, g2, g3, g4, g5⟩ := s2.ownD hi
  rw [h1] at g1
  cases g1
  subst g3
  have hl : us.length < sizeLine := by
    rw [List.length_map] at hn
    exact hn
  obtain ⟨h6, h7⟩ := rep_put (k := kk) (r1.gx e2.w) g4
  refine ⟨p, _, rfl, .inl ⟨us, kk, g2, key_v r2 hk, hl, rfl⟩, ?_⟩
  exact o.nx W2 _ σ _ (e1.trans e2).w (s2.chgD hi h1 h6 h7 (by have := put_len us kk v; omega)) q2
/-- an own dict is given away -/
theorem Sat.demD {W H : Hp} {ρ : Env} {σ : L2.St} (h : Sat K W0 H0 W ρ σ H) {ks : List Key} {ds : List D} (hi : ρ[i]? = some (.dic ks ds)) : ∃ W', Gx W W' ∧ Sat K W0 H0 W' (ρ.set i (.val (.dic ks ds))) σ H := by
  obtain ⟨oa, h1, h2⟩ := h.rep
  obtain ⟨s, h3, q, vs, h4, h5, h6, h7, h8, h9, h10, h11⟩ := h2 i _ hi
  have hσ : σ.set i (some (.ref q)) = σ := by
    apply List.ext_getElem?
    intro j
    by_cases e : j = i
    · subst e
      rw [List.getElem?_set_self (List.getElem?_eq_some_iff.mp h3).1, h3, h5]
    · rw [List.getElem?_set_ne (Ne.symm e)]
  refine ⟨upd W q (.dK vs), Gx.new h6, ?_⟩
  have e2 : Gx W (upd W q (.dK vs)) := Gx.new h6
  rw [← hσ]
  refine sat_set (o := none) (Ex.see h.ex h7 h6 h8) h.len h1 (fun _ _ z => by cases z) (fun j b hj hb => ?_) ⟨rfl, _, rfl, .dic (.inl upd_same) h9 (h10.gx e2) h11⟩
  obtain ⟨s', h11, h12⟩ := h2 j b hb
  refine ⟨s', h11, ?_⟩
  have hne : ∀ p, oa j = some p → p ≠ q := fun p hp z => hj (h1 j i q (by rw [hp, z]) h4)
  cases b with
  | un => exact h12
  | val d =>
    obtain ⟨k1, v, k2, k3⟩ := h12
    exact ⟨k1, v, k2, k3.gx e2⟩
  | lst es =>
    obtain ⟨p, us, k1, k2, k3, k4, k5, k6, k7⟩ := h12
    exact ⟨p, us, k1, k2, by rw [upd_ne (hne p k1)]; exact k3, k4, k5, k6.gx e2, k7⟩
  | dic ks es =>
    obtain ⟨p, us, k1, k2, k3, k4, k5, k6, k7, k8⟩ := h12
    exact ⟨p, us, k1, k2, by rw [upd_ne (hne p k1)]; exact k3, k4, k5, k6, k7.gx e2, k8⟩
  | obj a C ns es =>
    obtain ⟨p, dx, us, k0, k1, k2, k3, k4, k5, k6, k7, k8, k9, k10⟩ := h12
    exact ⟨p, dx, us, k0, k1, k2, by rw [upd_ne (hne p k1)]; exact k3, k4, k5, k6, k7, k8, k9.gx e2, k10⟩
def demBD (i : Nat) (ρ : Env) : Env := match ρ[i]? with
  | some (.dic ks ds) => ρ.set i (.val (.dic ks ds))
  | _ => ρ
def sDemD (i : Nat) (S : FS) : FS := fun ρ De => S (demBD i ρ) De
theorem d_demD (i : Nat) (h : PS X st (tDS K W0 H0 E S)) : PS X st (tDS K W0 H0 E (sDemD i S)) := h.mono fun D σ H ⟨W, ρ, De, s, q, o⟩ => by
  unfold sDemD demBD at q
  split at q
  · rename_i ks ds hi
    obtain ⟨W', g, s'⟩ := s.demD hi
    exact ⟨W', _, De, s', q, o.up g⟩
  · exact ⟨W, ρ, De, s, q, o⟩
/-! ### displays {k: v, ..} -/
abbrev FP := Env → (List (D × D) → Prop) → ZX → Prop
def mergeKs : List Key → List (Key × D) → List Key
  | ks, [] => ks
  | ks, p :: ps => mergeKs (putKs ks p.1) ps
def mergeDs : List Key → List D → List (Key × D) → List D
  | _, ds, [] => ds
  | ks, ds, p :: ps => mergeDs (putKs ks p.1) (putDs ks ds p.1 p.2) ps
def keysD : List (D × D) → Option (List (Key × D))
  | [] => some []
  | p :: ps => match keyD p.1, keysD ps with
    | some k, some r => some ((k, p.2) :: r)
    | _, _ => none
theorem merge_v {W : Hp} : ∀ {more : List (Key × V)} {rs : List (Key × D)}, Paired (fun (p : Key × V) (q : Key × D) => p.1 = q.1 ∧ Rep K W p.2 q.2) more rs → ∀ {kvs : List (Key × V)} {ds : List D}, RepAll K W (kvs.map Prod.snd) ds →
    (mergeK kvs more).map Prod.fst = mergeKs (kvs.map Prod.fst) rs ∧ RepAll K W ((mergeK kvs more).map Prod.snd) (mergeDs (kvs.map Prod.fst) ds rs)
  | _, _, .nil, kvs, ds, h => ⟨rfl, h⟩
  | _, _, .cons (a := p) (b := q) h t, kvs, ds, r => by
    obtain ⟨h1, h2⟩ := rep_put (k := p.1) h.2 r
    obtain ⟨g1, g2⟩ := merge_v t h2
    show (mergeK (putK kvs p.1 p.2) _).map Prod.fst = mergeKs (putKs (kvs.map Prod.fst) q.1) _ ∧ RepAll K W ((mergeK (putK kvs p.1 p.2) _).map Prod.snd) (mergeDs (putKs (kvs.map Prod.fst) q.1) (putDs (kvs.map Prod.fst) ds q.1 q.2) _)
    rw [← h.1, ← h1]
    exact ⟨g1, g2⟩
end
end Pu

set_option Elab.async false
set_option maxRecDepth 100000
set_option linter.all false
/-! the pure layer: comprehensions over dicts, dict comprehensions -/
namespace Pu
open PySem PySem.Spec PyProof.Rows L2 Ly
section
variable {K : PySem.W.Frag} {E : XK} {F G L Fk Fv : FE} {T : FT} {A : FA} {g : FG} {vs : List Nat}
/-- a comprehension's turns, once its source is there -/
theorem lc_body {gh : TG} {tt : TT} {te : TE} {σ : L2.St} {W0 H0 W1 H1 : Hp} {ρ : Env} {J : It} {ds : List D} {Q : List D → Prop} {Qh : VK} (gs : GSnd K gh g vs) (ht : ∀ σ H Q, tDB K E0 T σ H Q → tt σ H Q) (he : ∀ σ H Q, tD K E0 F σ H Q → te σ H Q)
    (st : Sat K W0 H0 W1 ρ σ H1) (it : IterC K W1 H1 J ds) (hn : ds.length ≤ sizeLine) (q : lcD g T F (wipeB ρ vs) ds Q)
    (k : ∀ p us W' H' es, Ex W1 H1 W' H' → H1 p = none → W' p = none → H' p = some (.lst us) → RepAll K W' us es → us.length ≤ sizeLine → Q es → Qh (.ref p) H') :
    ∀ D, H1 D = none → ∃ W : Nat → Nat → Hp → Prop, (∃ m, W 0 m (upd H1 D (.lst []))) ∧ ∀ i m H, W i m H →
      (J.stop i H ∧ Qh (.ref D) H) ∨ (J.go i H ∧ ∃ Nx : Hp → Prop, (∀ H', Nx H' → ∃ m', m' < m ∧ W (i + 1) m' H') ∧ ∀ x H', J.yld i H x H' → gh x (wipe σ vs) H' fun σ2 H2 => wipe σ2 vs = wipe σ vs ∧ tt σ2 H2 fun b H3 =>
        if b = true then te σ2 H3 fun y H4 => ∃ acc, H4 D = some (.lst acc) ∧ acc.length < sizeLine ∧ Nx (upd H4 D (.lst (acc ++ [y]))) else Nx H3) := by
  obtain ⟨G, Y, hW, hG, hY⟩ := it
  intro Dd hD
  refine lc_it hW (fun i H' => ∃ W' us acc, i ≤ ds.length ∧ Ex W1 H1 W' H' ∧ W' Dd = none ∧ H' Dd = some (.lst us) ∧ RepAll K W' us acc ∧ us.length ≤ i ∧ lcD g T F (wipeB ρ vs) (ds.drop i) fun ys => Q (acc ++ ys)) ?_ ?_ ?_ ?_
  · exact ⟨W1, [], [], Nat.zero_le _, Ex.hid st.see hD, st.see.free hD, upd_same, .nil, Nat.le_refl _, q⟩
  · rintro i H' _ ⟨W', us, acc, _, e2, _⟩
    exact hG H' e2.h
  · rintro i v H3 H4 hi ⟨W3, us, acc, _, e3, hw3, hd3, r3, l3, q3⟩ y
    obtain ⟨W4, d, hd, e4, r4⟩ := hY i H3 v H4 W3 hi e3.h e3.w e3.s y
    have e5 := e3.trans e4
    have hw4 : ∀ {W' H' : Hp}, Ex W3 H3 W' H' → W' Dd = none := fun {W' H'} e => by
      cases z : W' Dd with
      | none => rfl
      | some o =>
        rcases e.n _ _ z with z | z
        · rw [hw3] at z; cases z
        · rw [hd3] at z; cases z
    have hdr : ds.drop i = d :: ds.drop (i + 1) := by
      rw [List.drop_eq_getElem_cons hi]
      congr 1
      rw [List.getElem?_eq_getElem hi] at hd
      exact Option.some.inj hd
    rw [hdr] at q3
    have stw : Sat K W0 H0 W4 (wipeB ρ vs) (L2.wipe σ vs) H4 := (st.ext e5).wipe vs
    refine gs W0 H0 W4 _ _ H4 v d _ _ stw r4 q3 fun ρ2 σ2 st2 hw2 q4 => ⟨by rw [hw2, wipe_wipe], ?_⟩
    refine ht _ _ _ ⟨W0, H0, W4, ρ2, _, F0, st2, q4, fun b W5 H5 e6 q5 => ?_, xc0⟩
    cases b with
    | true =>
      rw [if_pos rfl] at q5
      refine iteT (he _ _ _ ⟨W0, H0, W5, ρ2, _, F0, st2.ext e6, q5, fun u W6 H6 d6 e7 r6 q6 => ?_, xc0⟩)
      have e8 := (e4.trans e6).trans e7
      have hd6 := e8.h _ _ hd3
      refine ⟨us, hd6, by omega, W6, us ++ [u], acc ++ [d6], hi, Ex.mut (e3.trans e8) hD (hw4 e8), hw4 e8, upd_same, (r3.gx e8.w).app (.one r6), by rw [List.length_append]; show us.length + 1 ≤ i + 1; omega, ?_⟩
      have : (fun ys => Q (acc ++ [d6] ++ ys)) = fun ys => Q (acc ++ (d6 :: ys)) := by
        funext ys
        rw [List.append_assoc]
        rfl
      rw [this]
      exact q6
    | false =>
      rw [if_neg (by decide)] at q5
      have e8 := e4.trans e6
      exact iteF ⟨W5, us, acc, hi, e3.trans e8, hw4 e8, e8.h _ _ hd3, r3.gx e8.w, by omega, q5⟩
  · rintro H3 ⟨W3, us, acc, _, e3, hw3, hd3, r3, l3, q3⟩
    rw [List.drop_length] at q3
    have q3 : Q (acc ++ []) := q3
    rw [List.append_nil] at q3
    exact k Dd us W3 H3 acc e3 hD hw3 hd3 r3 (by omega) q3
/-! ### dict comprehensions -/
def dcD (g : FG) (T : FT) (Fk Fv : FE) (ρ : Env) : List D → List Key → List D → (List Key → List D → Prop) → Prop
  | [], ks, es, Q => Q ks es
  | d :: ds, ks, es, Q => g d ρ fun ρ2 => T ρ2 (fun b => if b = true then Fk ρ2 (fun y => Fv ρ2 (fun z => ∃ k, keyD y = some k ∧ dcD g T Fk Fv ρ ds (putKs ks k) (putDs ks es k z) Q) F0) F0 else dcD g T Fk Fv ρ ds ks es Q) F0
def fDc (A : FA) (g : FG) (T : FT) (Fk Fv : FE) (vs : List Nat) : FDi := fun ρ Q Z => A ρ (fun ds => ds.length ≤ sizeLine ∧ dcD g T Fk Fv (wipeB ρ vs) ds [] [] Q) Z
theorem dc_body {gh : TG} {tt : TT} {tk tv : TE} {σ : L2.St} {W0 H0 W1 H1 : Hp} {ρ : Env} {J : It} {ds : List D} {Q : List Key → List D → Prop} {Qh : VK} (gs : GSnd K gh g vs) (ht : ∀ σ H Q, tDB K E0 T σ H Q → tt σ H Q) (hk : ∀ σ H Q, tD K E0 Fk σ H Q → tk σ H Q) (hv : ∀ σ H Q, tD K E0 Fv σ H Q → tv σ H Q)
    (st : Sat K W0 H0 W1 ρ σ H1) (it : IterC K W1 H1 J ds) (hn : ds.length ≤ sizeLine) (q : dcD g T Fk Fv (wipeB ρ vs) ds [] [] Q)
    (k : ∀ p kvs W' H' es, Ex W1 H1 W' H' → H1 p = none → W' p = none → H' p = some (.dK kvs) → RepAll K W' (kvs.map Prod.snd) es → kvs.length ≤ sizeLine → Q (kvs.map Prod.fst) es → Qh (.ref p) H') :
    ∀ D, H1 D = none → ∃ W : Nat → Nat → Hp → Prop, (∃ m, W 0 m (upd H1 D (.dK []))) ∧ ∀ i m H, W i m H →
      (J.stop i H ∧ Qh (.ref D) H) ∨ (J.go i H ∧ ∃ Nx : Hp → Prop, (∀ H', Nx H' → ∃ m', m' < m ∧ W (i + 1) m' H') ∧ ∀ x H', J.yld i H x H' → gh x (wipe σ vs) H' fun σ2 H2 => wipe σ2 vs = wipe σ vs ∧ tt σ2 H2 fun b H3 =>
        if b = true then tk σ2 H3 fun y H4 => tv σ2 H4 fun z H5 => ∃ kvs k, y = kV k ∧ H5 D = some (.dK kvs) ∧ kvs.length < sizeLine ∧ Nx (upd H5 D (.dK (putK kvs k z))) else Nx H3) := by
  obtain ⟨G, Y, hW, hG, hY⟩ := it
  intro Dd hD
  refine ⟨fun i m H' => m = ds.length - i ∧ i ≤ ds.length ∧ ∃ W' kvs es, Ex W1 H1 W' H' ∧ W' Dd = none ∧ H' Dd = some (.dK kvs) ∧ RepAll K W' (kvs.map Prod.snd) es ∧ kvs.length ≤ i ∧ dcD g T Fk Fv (wipeB ρ vs) (ds.drop i) (kvs.map Prod.fst) es Q,
    ⟨ds.length, by omega, by omega, W1, [], [], Ex.hid st.see hD, st.see.free hD, upd_same, .nil, Nat.le_refl _, q⟩, ?_⟩
  rintro i m H3 ⟨rfl, hi, W3, kvs, es, e3, hw3, hd3, r3, l3, q3⟩
  by_cases hlt : i < ds.length
  · refine .inr ⟨hW.goes i H3 hlt (hG H3 e3.h), fun H' => ∃ W' kvs es, Ex W1 H1 W' H' ∧ W' Dd = none ∧ H' Dd = some (.dK kvs) ∧ RepAll K W' (kvs.map Prod.snd) es ∧ kvs.length ≤ i + 1 ∧ dcD g T Fk Fv (wipeB ρ vs) (ds.drop (i + 1)) (kvs.map Prod.fst) es Q, fun H' p' => ⟨ds.length - (i + 1), by omega, rfl, hlt, p'⟩, fun x H4 y => ?_⟩
    obtain ⟨W4, d, hd, e4, r4⟩ := hY i H3 x H4 W3 hlt e3.h e3.w e3.s (hW.yields i H3 x H4 hlt (hG H3 e3.h) y)
    have e5 := e3.trans e4
    have hw4 : ∀ {W' H' : Hp}, Ex W3 H3 W' H' → W' Dd = none := fun {W' H'} e => by
      cases z : W' Dd with
      | none => rfl
      | some o =>
        rcases e.n _ _ z with z | z
        · rw [hw3] at z; cases z
        · rw [hd3] at z; cases z
    have hdr : ds.drop i = d :: ds.drop (i + 1) := by
      rw [List.drop_eq_getElem_cons hlt]
      congr 1
      rw [List.getElem?_eq_getElem hlt] at hd
      exact Option.some.inj hd
    rw [hdr] at q3
    have stw : Sat K W0 H0 W4 (wipeB ρ vs) (L2.wipe σ vs) H4 := (st.ext e5).wipe vs
    refine gs W0 H0 W4 _ _ H4 x d _ _ stw r4 q3 fun ρ2 σ2 st2 hw2 q4 => ⟨by rw [hw2, wipe_wipe], ?_⟩
    refine ht _ _ _ ⟨W0, H0, W4, ρ2, _, F0, st2, q4, fun b W5 H5 e6 q5 => ?_, xc0⟩
    cases b with
    | true =>
      rw [if_pos rfl] at q5
      refine iteT (hk _ _ _ ⟨W0, H0, W5, ρ2, _, F0, st2.ext e6, q5, fun u W6 H6 d6 e7 r6 q6 => ?_, xc0⟩)
      refine hv _ _ _ ⟨W0, H0, W6, ρ2, _, F0, st2.ext (e6.trans e7), q6, fun u2 W7 H7 d7 e8 r7 ⟨kk, hkk, q7⟩ => ?_, xc0⟩
      have e9 := ((e4.trans e6).trans e7).trans e8
      have hd6 := e9.h _ _ hd3
      obtain ⟨g1, g2⟩ := rep_put (k := kk) r7 (r3.gx e9.w)
      refine ⟨kvs, kk, key_v r6 hkk, hd6, by omega, W7, putK kvs kk u2, _, Ex.mut (e3.trans e9) hD (hw4 e9), hw4 e9, upd_same, g2, by have := put_len kvs kk u2; omega, ?_⟩
      rw [g1]
      exact q7
    | false =>
      rw [if_neg (by decide)] at q5
      have e8 := e4.trans e6
      exact iteF ⟨W5, kvs, es, e3.trans e8, hw4 e8, e8.h _ _ hd3, r3.gx e8.w, by omega, q5⟩
  · have hie : i = ds.length := by omega
    subst hie
    rw [List.drop_length] at q3
    exact .inl ⟨hW.stops H3 (hG H3 e3.h), k Dd kvs W3 H3 es e3 hD hw3 hd3 r3 (by omega) q3⟩
end
/-! ### sources that stay: names, fields of them -/
/-- the heap with a dict locked -/
def LkH (H Hl : Hp) : Prop := ∀ a o, H a = some o → Hl a = some o ∨ ∃ kvs od, o = .dK kvs ∧ Hl a = some (.frz od (.dK kvs))
def Stat (K : PySem.W.Frag) (te : TE) (F : FE) : Prop := ∀ W0 H0 W ρ σ H Q Z, Sat K W0 H0 W ρ σ H → F ρ Q Z → ∃ v d, Rep K W v d ∧ Q d ∧ ∀ Hl Qh, LkH H Hl → Qh v Hl → te σ Hl Qh
section
variable {K : PySem.W.Frag} {E : XK} {F G L Fk Fv : FE} {T : FT} {A : FA} {g : FG} {vs : List Nat} {te : TE} {f : Str} {i : Nat}
theorem stat_var : Stat K (tVar i) (fVar i) := fun W0 H0 W ρ σ H Q Z st ⟨d, hi, q⟩ => by
  obtain ⟨v, h1, h2⟩ := st.val hi
  exact ⟨v, d, h2, q, fun Hl Qh _ h => ⟨v, h1, h⟩⟩
theorem stat_fld (h : Stat K te F) : Stat K (tFld K te f) (fFld K f F) := fun W0 H0 W ρ σ H Q Z st q => by
  obtain ⟨v, d, h1, ⟨C, ns, ds, u, z, hc, hn, hl, q2⟩, h2⟩ := h W0 H0 W ρ σ H _ Z st q
  subst z
  cases h1 with
  | @obj a _ dx fs _ _ h3 h4 h5 =>
    subst h4
    obtain ⟨w, h6, h7⟩ := look_v h5 hl
    refine ⟨w, u, h7, q2, fun Hl Qh lk hq => h2 Hl _ lk ⟨a, C, dx, fs, w, rfl, ?_, hc, hn, h6, hq⟩⟩
    rcases lk a _ (st.see _ _ h3) with z | ⟨_, _, z, _⟩
    · exact z
    · cases z
/-- the walkers of a dict -/
structure DWalk (K : PySem.W.Frag) (mk : Addr → Obj → List (Key × V) → It) (its : List Key → List D → List D) : Prop where
  len : ∀ ks ds, ks.length = ds.length → (its ks ds).length ≤ ks.length
  it : ∀ W H d o kvs ds, W d = some (.frz o (.dK kvs)) → Gx W H → RepAll K W (kvs.map Prod.snd) ds → IterC K W H (mk d o kvs) (its (kvs.map Prod.fst) ds)
def iDw (mk : Addr → Obj → List (Key × V) → It) (td : TE) : TI := fun σ H R => td σ H fun x H1 => ∃ d o kvs, x = .ref d ∧ H1 d = some (.frz o (.dK kvs)) ∧ R (mk d o kvs) H1
def fDw (its : List Key → List D → List D) (F : FE) : FA := fun ρ Q Z => F ρ (fun d => ∃ ks ds, d = .dic ks ds ∧ Q (its ks ds)) Z
def itemsD (ks : List Key) (ds : List D) : List D := pairsD (ks.map kD) ds
theorem dw_items : DWalk K Iti itemsD := ⟨fun ks ds h => by unfold itemsD; rw [pairsD_len, List.length_map]; omega, fun W H d o kvs ds hd s r => by
  have hl : (itemsD (kvs.map Prod.fst) ds).length = kvs.length := by
    unfold itemsD
    rw [pairsD_len, List.length_map, List.length_map, ← r.len, List.length_map]
    omega
  refine ⟨_, _, by rw [hl]; exact walk_items (d := d) (o := o) (kvs := kvs), fun H3 e => e _ _ (s _ _ hd), fun i H3 x H4 W3 hi _ e s3 y => ?_⟩
  obtain ⟨T, v, w, y1, y2, y3, y4, y5⟩ := y
  have hi : i < kvs.length := by rw [← hl]; exact hi
  have hk : kvs[i]? = some kvs[i] := List.getElem?_eq_getElem hi
  have y4 : kvs[i]?.map (fun kv => kV kv.1) = some v := y4
  have y5 : kvs[i]?.map Prod.snd = some w := y5
  rw [hk] at y4 y5
  cases y4
  cases y5
  obtain ⟨b, g3, g4⟩ := r.get (i := i) (v := kvs[i].2) (by rw [List.getElem?_map, hk]; rfl)
  obtain ⟨W4, g5, g6⟩ := pair_new s3 y1 y2 y3 (rep_kV kvs[i].1) (g4.gx e)
  exact ⟨W4, _, pairsD_get _ _ i _ _ (by rw [List.getElem?_map, List.getElem?_map, hk]; rfl) g3, g5, g6⟩⟩
theorem dw_vals : DWalk K Itd (fun _ ds => ds) := ⟨fun ks ds h => by omega, fun W H d o kvs ds hd s r => by
  have hl : ds.length = kvs.length := by rw [← r.len, List.length_map]
  refine ⟨_, _, by rw [hl]; exact walk_values (d := d) (o := o) (kvs := kvs), fun H3 e => e _ _ (s _ _ hd), fun i H3 x H4 W3 hi _ e s3 y => ?_⟩
  obtain ⟨rfl, k, hk⟩ := y
  obtain ⟨b, g3, g4⟩ := r.get (i := i) (v := x) (by rw [List.getElem?_map, hk]; rfl)
  exact ⟨W3, b, g3, Ex.refl s3, g4.gx e⟩⟩
theorem dw_keys : DWalk K Itk (fun ks _ => ks.map kD) := ⟨fun ks ds h => by rw [List.length_map]; omega, fun W H d o kvs ds hd s r => by
  refine ⟨_, _, by rw [List.length_map, List.length_map]; exact walk_keys (d := d) (o := o) (kvs := kvs), fun H3 e => e _ _ (s _ _ hd), fun i H3 x H4 W3 hi _ e s3 y => ?_⟩
  obtain ⟨rfl, k, v, hk, rfl⟩ := y
  exact ⟨W3, kD k, by rw [List.getElem?_map, List.getElem?_map, hk]; rfl, Ex.refl s3, rep_kV k⟩⟩
/-- with a dict locked or unlocked -/
def lk (d : Addr) (u : HO) (H : Hp) : Hp := fun a => if a = d then (H d).map fun _ => u else H a
theorem lk_at {d : Addr} {u o : HO} {H : Hp} (h : H d = some o) : lk d u H = upd H d u := by
  funext a
  unfold lk upd
  by_cases q : a = d
  · rw [if_pos q, if_pos q, h]
    rfl
  · rw [if_neg q, if_neg q]
theorem lk_off {d : Addr} {u : HO} {H : Hp} (h : H d = none) : lk d u H = H := by
  funext a
  unfold lk
  by_cases q : a = d
  · rw [if_pos q, h, q, h]
    rfl
  · rw [if_neg q]
theorem lk_ne {d a : Addr} {u : HO} {H : Hp} (h : a ≠ d) : lk d u H a = H a := if_neg h
theorem lk_none {d a : Addr} {u : HO} {H : Hp} : lk d u H a = none ↔ H a = none := by
  unfold lk
  by_cases q : a = d
  · rw [if_pos q, q]
    cases H d <;> simp
  · rw [if_neg q]
theorem lk_gx {d : Addr} {u : HO} {W H : Hp} (e : Gx W H) : Gx (lk d u W) (lk d u H) := fun a o h => by
  by_cases q : a = d
  · subst q
    unfold lk at h ⊢
    rw [if_pos rfl] at h ⊢
    cases z : W a with
    | none => rw [z] at h; cases h
    | some o' =>
      rw [z] at h
      rw [e _ _ z]
      exact h
  · rw [lk_ne q] at h ⊢
    exact e _ _ h
theorem lk_ex {d : Addr} {u : HO} {W H W' H' : Hp} (e : Ex W H W' H') : Ex (lk d u W) (lk d u H) (lk d u W') (lk d u H') := ⟨lk_gx e.h, lk_gx e.w, lk_gx e.s, fun a o h => by
  by_cases q : a = d
  · subst q
    unfold lk at h
    rw [if_pos rfl] at h
    cases z : W' a with
    | none => rw [z] at h; cases h
    | some o' =>
      rw [z] at h
      cases h
      rcases e.n _ _ z with z2 | z2
      · left
        unfold lk
        rw [if_pos rfl, z2]
        rfl
      · right
        exact lk_none.mpr z2
  · rw [lk_ne q] at h ⊢
    rw [lk_ne q]
    exact e.n _ _ h⟩
theorem le_lock {d : Addr} {od : Obj} {kvs : List (Key × V)} {W : Hp} (h : W d = some (.dK kvs)) : Le W (upd W d (.frz od (.dK kvs))) := by
  refine ⟨fun a xs q => ?_, fun a u hu q => ?_, fun a C dx fs q => ?_, fun a q => ?_, fun a fs q => ?_⟩
  · rw [upd_ne (fun z => by rw [z, h] at q; cases q)]; exact q
  · by_cases z : a = d
    · subst z
      rcases q with q | ⟨o, q⟩
      · rw [h] at q
        cases q
        exact .inr ⟨od, upd_same⟩
      · rw [h] at q; cases q
    · rcases q with q | ⟨o, q⟩
      · exact .inl (by rw [upd_ne z]; exact q)
      · exact .inr ⟨o, by rw [upd_ne z]; exact q⟩
  · rw [upd_ne (fun z => by rw [z, h] at q; cases q)]; exact q
  · rw [upd_ne (fun z => by rw [z, h] at q; cases q)]; exact q
  · rw [upd_ne (fun z => by rw [z, h] at q; cases q)]; exact q
theorem le_unlock {d : Addr} {od : Obj} {kvs : List (Key × V)} {W : Hp} (h : W d = some (.frz od (.dK kvs))) : Le W (upd W d (.dK kvs)) := by
  refine ⟨fun a xs q => ?_, fun a u hu q => ?_, fun a C dx fs q => ?_, fun a q => ?_, fun a fs q => ?_⟩
  · rw [upd_ne (fun z => by rw [z, h] at q; cases q)]; exact q
  · by_cases z : a = d
    · subst z
      rcases q with q | ⟨o, q⟩
      · rw [h] at q
        cases q
        exact absurd rfl (hu _ _)
      · rw [h] at q
        cases q
        exact .inl upd_same
    · rcases q with q | ⟨o, q⟩
      · exact .inl (by rw [upd_ne z]; exact q)
      · exact .inr ⟨o, by rw [upd_ne z]; exact q⟩
  · rw [upd_ne (fun z => by rw [z, h] at q; cases q)]; exact q
  · rw [upd_ne (fun z => by rw [z, h] at q; cases q)]; exact q
  · rw [upd_ne (fun z => by rw [z, h] at q; cases q)]; exact q
/-- a state with a dict locked -/
theorem Sat.lock {W0 H0 W H : Hp} {ρ : Env} {σ : L2.St} {d : Addr} {od : Obj} {kvs : List (Key × V)} (st : Sat K W0 H0 W ρ σ H) (hd : W d = some (.dK kvs)) : ∃ W0' H0', Sat K W0' H0' (upd W d (.frz od (.dK kvs))) ρ σ (upd H d (.frz od (.dK kvs))) := by
  have hH := st.see _ _ hd
  have e := lk_ex (d := d) (u := .frz od (.dK kvs)) st.ex
  rw [lk_at hd, lk_at hH] at e
  refine ⟨_, _, e, st.len, ?_⟩
  obtain ⟨oa, h1, h2⟩ := st.rep
  refine ⟨oa, h1, fun i b hb => ?_⟩
  obtain ⟨s, h3, h4⟩ := h2 i b hb
  refine ⟨s, h3, ?_⟩
  have ne : ∀ p, W p = none → p ≠ d := fun p hp z => by rw [z, hd] at hp; cases hp
  cases b with
  | un => exact h4
  | val d' =>
    obtain ⟨k1, v, k2, k3⟩ := h4
    exact ⟨k1, v, k2, k3.le (le_lock hd)⟩
  | lst es =>
    obtain ⟨p, us, k1, k2, k3, k4, k5, k6, k7⟩ := h4
    exact ⟨p, us, k1, k2, by rw [upd_ne (ne p k3)]; exact k3, lk_none.mpr k4, by rw [upd_ne (ne p k3)]; exact k5, k6.le (le_lock hd), k7⟩
  | dic ks es =>
    obtain ⟨p, us, k1, k2, k3, k4, k5, k6, k7, k8⟩ := h4
    exact ⟨p, us, k1, k2, by rw [upd_ne (ne p k3)]; exact k3, lk_none.mpr k4, by rw [upd_ne (ne p k3)]; exact k5, k6, k7.le (le_lock hd), k8⟩
  | obj a C ns es =>
    obtain ⟨p, dx, us, k0, k1, k2, k3, k4, k5, k6, k7, k8, k9, k10⟩ := h4
    exact ⟨p, dx, us, k0, k1, k2, by rw [upd_ne (ne p k3)]; exact k3, lk_none.mpr k4, by rw [upd_ne (ne p k3)]; exact k5, by rw [upd_ne (fun z => by rw [z, hH] at k6; cases k6)]; exact k6, lk_none.mpr k7, k8, k9.le (le_lock hd), k10⟩
theorem lkh_refl (H : Hp) : LkH H H := fun _ _ h => .inl h
theorem lkh_lock {H : Hp} {d : Addr} {od : Obj} {kvs : List (Key × V)} (h : H d = some (.dK kvs)) : LkH H (upd H d (.frz od (.dK kvs))) := fun a o q => by
  by_cases z : a = d
  · subst z
    rw [h] at q
    cases q
    exact .inr ⟨kvs, od, rfl, upd_same⟩
  · exact .inl (by rw [upd_ne z]; exact q)
/-- what was made under a lock -/
theorem ex_unlock {W H W' H' : Hp} {d : Addr} {od : Obj} {kvs : List (Key × V)} (hd : W d = some (.dK kvs)) (hH : H d = some (.dK kvs)) (e : Ex (upd W d (.frz od (.dK kvs))) (upd H d (.frz od (.dK kvs))) W' H') : Ex W H (upd W' d (.dK kvs)) (upd H' d (.dK kvs)) := by
  have h := lk_ex (d := d) (u := .dK kvs) e
  rw [lk_at (o := .frz od (.dK kvs)) upd_same, lk_at (o := .frz od (.dK kvs)) upd_same, upd_upd, upd_upd, upd_id hd, upd_id hH, lk_at (e.w _ _ upd_same), lk_at (e.h _ _ upd_same)] at h
  exact h
variable {mk : Addr → Obj → List (Key × V) → It} {its : List Key → List D → List D}
theorem lcw_to {gh : TG} {tt : TT} {td te : TE} {σ : L2.St} {H : Hp} {Qh : VK} (hs : Stat K td F) (dw : DWalk K mk its) (gs : GSnd K gh g vs) (ht : ∀ σ H Q, tDB K E0 T σ H Q → tt σ H Q) (he : ∀ σ H Q, tD K E0 G σ H Q → te σ H Q)
    (h : tDN K E (fLc (fDw its F) g T G vs) σ H Qh) : tLockE (tLc (iDw mk td) gh tt te vs) σ H Qh ∨ tLc (iDw mk td) gh tt te vs σ H Qh := by
  obtain ⟨W0, H0, W, ρ, Q, Z, st, f, k, x⟩ := h
  obtain ⟨v, d, r, ⟨ks, ds, z, hn, q⟩, hst⟩ := hs W0 H0 W ρ σ H _ Z st f
  subst z
  cases r with
  | @dic a kvs _ _ hd hk hr hl =>
    subst hk
    rcases hd with hd | ⟨od, hd⟩
    · have hH := st.see _ _ hd
      refine .inl ⟨a, .dK kvs, hH, trivial, fun od => ?_⟩
      obtain ⟨W0', H0', st'⟩ := st.lock (od := od) hd
      refine hst _ _ (lkh_lock hH) ⟨a, od, kvs, rfl, upd_same, ?_⟩
      refine lc_body (Qh := fun v H' => H' a = some (.frz od (.dK kvs)) ∧ Qh v (upd H' a (.dK kvs))) gs ht he st' (dw.it _ _ a od kvs ds upd_same st'.see (hr.le (le_lock hd))) hn q fun p us W' H' es e hp hw h' r n q => ?_
      have hpa : p ≠ a := fun z => by rw [z, upd_same] at hp; cases hp
      rw [upd_ne hpa] at hp
      refine ⟨e.h _ _ upd_same, k p us _ _ es (ex_unlock hd hH e) hp (by rw [upd_ne hpa]; exact hw) (by rw [upd_ne hpa]; exact h') (r.le (le_unlock (e.w _ _ upd_same))) n q⟩
    · refine .inr (hst _ _ (lkh_refl H) ⟨a, od, kvs, rfl, st.see _ _ hd, ?_⟩)
      exact lc_body (Qh := Qh) gs ht he st (dw.it _ _ a od kvs ds hd st.see hr) hn q k
theorem dcw_to {gh : TG} {tt : TT} {td tk tv : TE} {σ : L2.St} {H : Hp} {Qh : VK} (hs : Stat K td F) (dw : DWalk K mk its) (gs : GSnd K gh g vs) (ht : ∀ σ H Q, tDB K E0 T σ H Q → tt σ H Q) (hkk : ∀ σ H Q, tD K E0 Fk σ H Q → tk σ H Q) (hv : ∀ σ H Q, tD K E0 Fv σ H Q → tv σ H Q)
    (h : tDD K E (fDc (fDw its F) g T Fk Fv vs) σ H Qh) : tLockE (tDc (iDw mk td) gh tt tk tv vs) σ H Qh ∨ tDc (iDw mk td) gh tt tk tv vs σ H Qh := by
  obtain ⟨W0, H0, W, ρ, Q, Z, st, f, k, x⟩ := h
  obtain ⟨v, d, r, ⟨ks, ds, z, hn, q⟩, hst⟩ := hs W0 H0 W ρ σ H _ Z st f
  subst z
  cases r with
  | @dic a kvs _ _ hd hk hr hl =>
    subst hk
    rcases hd with hd | ⟨od, hd⟩
    · have hH := st.see _ _ hd
      refine .inl ⟨a, .dK kvs, hH, trivial, fun od => ?_⟩
      obtain ⟨W0', H0', st'⟩ := st.lock (od := od) hd
      refine hst _ _ (lkh_lock hH) ⟨a, od, kvs, rfl, upd_same, ?_⟩
      refine dc_body (Qh := fun v H' => H' a = some (.frz od (.dK kvs)) ∧ Qh v (upd H' a (.dK kvs))) gs ht hkk hv st' (dw.it _ _ a od kvs ds upd_same st'.see (hr.le (le_lock hd))) hn q fun p us W' H' es e hp hw h' r n q => ?_
      have hpa : p ≠ a := fun z => by rw [z, upd_same] at hp; cases hp
      rw [upd_ne hpa] at hp
      refine ⟨e.h _ _ upd_same, k p us _ _ es (ex_unlock hd hH e) hp (by rw [upd_ne hpa]; exact hw) (by rw [upd_ne hpa]; exact h') (r.le (le_unlock (e.w _ _ upd_same))) n q⟩
    · refine .inr (hst _ _ (lkh_refl H) ⟨a, od, kvs, rfl, st.see _ _ hd, ?_⟩)
      exact dc_body (Qh := Qh) gs ht hkk hv st (dw.it _ _ a od kvs ds hd st.see hr) hn q k
theorem dc_to {wi : TI} {gh : TG} {tt : TT} {tk tv : TE} {σ : L2.St} {H : Hp} {Qh : VK} (hw : ∀ σ H R, tDI K E A σ H R → wi σ H R) (gs : GSnd K gh g vs) (ht : ∀ σ H Q, tDB K E0 T σ H Q → tt σ H Q) (hkk : ∀ σ H Q, tD K E0 Fk σ H Q → tk σ H Q) (hv : ∀ σ H Q, tD K E0 Fv σ H Q → tv σ H Q)
    (h : tDD K E (fDc A g T Fk Fv vs) σ H Qh) : tDc wi gh tt tk tv vs σ H Qh := by
  obtain ⟨W0, H0, W, ρ, Q, Z, st, f, k, x⟩ := h
  refine hw _ _ _ ⟨W0, H0, W, ρ, _, Z, st, f, fun J W1 H1 ds e1 it ⟨hn, q⟩ => ?_, x⟩
  exact dc_body (Qh := Qh) gs ht hkk hv (st.ext e1) it hn q fun p us W' H' es e hp hw h' r n q => k p us W' H' es (e1.trans e) (e1.h.free hp) hw h' r n q
end
theorem _root_.L2.PE.or {X : Cx} {e : Expr} {t u : TE} (h : PE X e t) (h2 : PE X e u) : PE X e (fun σ H Q => t σ H Q ∨ u σ H Q) := ⟨fun pins s σ H Q I q => by
  rcases q with q | q
  · exact h.run pins s σ H Q I q
  · exact h2.run pins s σ H Q I q⟩
section
variable {X : Cx} {K : PySem.W.Frag} {E : XK} {W0 H0 : Hp} {F G L Fk Fv : FE} {T U : FT} {A N : FA} {S S' : FS} {tg e a b o : Expr} {es : List Expr} {p pos apos : Pos} {i j k n : Nat} {x m f : Str} {C : Addr} {st : Stmt} {body : List Stmt} {g : FG} {gh : TG} {td : TE} {scope : Scope} {own : List (Str × Nat)} {ifs : List Expr} {elt iter kx vx : Expr}
  {mk : Addr → Obj → List (Key × V) → It} {its : List Key → List D → List D}
/-- [.. for .. in a dict's walk] -/
theorem d_lcw (hs : Stat K td F) (dw : DWalk K mk its) (gs : GSnd K gh g (own.map (·.2))) (hp : PE X (.ListComp elt [⟨tg, iter, ifs, 0⟩] scope pos) (tLc (iDw mk td) gh (tDB K E0 T) (tD K E0 G) (own.map (·.2)))) :
    PE X (.ListComp elt [⟨tg, iter, ifs, 0⟩] scope pos) (tDN K E (fLc (fDw its F) g T G (own.map (·.2)))) := (PE.or (pe_lock hp) hp).mono fun _ _ _ h => lcw_to hs dw gs (fun _ _ _ q => q) (fun _ _ _ q => q) h
theorem d_dcw (hs : Stat K td F) (dw : DWalk K mk its) (gs : GSnd K gh g (own.map (·.2))) (hp : PE X (.DictComp kx vx [⟨tg, iter, ifs, 0⟩] scope pos) (tDc (iDw mk td) gh (tDB K E0 T) (tD K E0 Fk) (tD K E0 Fv) (own.map (·.2)))) :
    PE X (.DictComp kx vx [⟨tg, iter, ifs, 0⟩] scope pos) (tDD K E (fDc (fDw its F) g T Fk Fv (own.map (·.2)))) := (PE.or (pe_lock hp) hp).mono fun _ _ _ h => dcw_to hs dw gs (fun _ _ _ q => q) (fun _ _ _ q => q) (fun _ _ _ q => q) h
theorem d_dc (gs : GSnd K gh g (own.map (·.2))) (hp : PE X (.DictComp kx vx [⟨tg, iter, ifs, 0⟩] scope pos) (tDc (tDI K E A) gh (tDB K E0 T) (tD K E0 Fk) (tD K E0 Fv) (own.map (·.2)))) :
    PE X (.DictComp kx vx [⟨tg, iter, ifs, 0⟩] scope pos) (tDD K E (fDc A g T Fk Fv (own.map (·.2)))) := hp.mono fun _ _ _ h => dc_to (fun _ _ _ q => q) gs (fun _ _ _ q => q) (fun _ _ _ q => q) (fun _ _ _ q => q) h
/-! ### displays -/
def tPs (K : PySem.W.Frag) (E : XK) : List (FE × FE) → List (TE × TE) := List.map fun p => (tD K E p.1, tD K E p.2)
def pairsF : List (FE × FE) → FP
  | [] => fun _ Q _ => Q []
  | (k, v) :: r => fun ρ Q Z => k ρ (fun x => v ρ (fun y => pairsF r ρ (fun ps => Q ((x, y) :: ps)) Z) Z) Z
theorem pairs_to {σ : L2.St} : ∀ {fs : List (FE × FE)} {H : Hp} {W0 H0 W : Hp} {ρ : Env} {Q : List (D × D) → Prop} {Z : ZX} {R : List (V × V) → Hp → Prop}, Sat K W0 H0 W ρ σ H → pairsF fs ρ Q Z → XC K E W H Z →
    (∀ vs W' H' ps, Ex W H W' H' → Paired (fun (p : V × V) (q : D × D) => Rep K W' p.1 q.1 ∧ Rep K W' p.2 q.2) vs ps → Q ps → R vs H') → tPairs (tPs K E fs) σ H R
  | [], H, W0, H0, W, ρ, Q, Z, R, st, f, x, k => k [] W H [] (Ex.refl st.see) .nil f
  | (a, b) :: fs, H, W0, H0, W, ρ, Q, Z, R, st, f, x, k => by
    refine ⟨W0, H0, W, ρ, _, Z, st, f, fun v W1 H1 d e1 r q => ?_, x⟩
    refine ⟨W0, H0, W1, ρ, _, Z, st.ext e1, q, fun v2 W2 H2 d2 e2 r2 q2 => ?_, x.ext e1⟩
    refine pairs_to (st.ext (e1.trans e2)) q2 (x.ext (e1.trans e2)) fun vs W3 H3 ps e3 rp q3 => k _ W3 H3 _ ((e1.trans e2).trans e3) (.cons ⟨r.gx (e2.trans e3).w, r2.gx e3.w⟩ rp) q3
def fDisp (fs : List (FE × FE)) : FDi := fun ρ Q Z => pairsF fs ρ (fun ps => ∃ kds, keysD ps = some kds ∧ ps.length ≤ 15 ∧ Q (mergeKs [] kds) (mergeDs [] [] kds)) Z
theorem keys_v {W : Hp} : ∀ {vs : List (V × V)} {ps : List (D × D)} {kds : List (Key × D)}, Paired (fun (p : V × V) (q : D × D) => Rep K W p.1 q.1 ∧ Rep K W p.2 q.2) vs ps → keysD ps = some kds →
    ∃ kvs : List (Key × V), vs = kvs.map (fun kv => (kV kv.1, kv.2)) ∧ kvs.length = ps.length ∧ Paired (fun (p : Key × V) (q : Key × D) => p.1 = q.1 ∧ Rep K W p.2 q.2) kvs kds
  | _, _, _, .nil, h => by cases h; exact ⟨[], rfl, rfl, .nil⟩
  | _, _, kds, .cons (a := v) (b := p) (l₁ := vs) (l₂ := ps) h t, hk => by
    simp only [keysD] at hk
    cases h1 : keyD p.1 with
    | none => rw [h1] at hk; cases hk
    | some kk =>
      cases h2 : keysD ps with
      | none => rw [h1, h2] at hk; cases hk
      | some r =>
        rw [h1, h2] at hk
        cases hk
        obtain ⟨kvs, g1, g2, g3⟩ := keys_v t h2
        refine ⟨(kk, v.2) :: kvs, ?_, by rw [List.length_cons, List.length_cons, g2], .cons ⟨rfl, h.2⟩ g3⟩
        rw [List.map_cons, ← g1]
        congr 1
        exact Prod.ext (key_v h.1 h1) rfl
theorem d_disp {keys : List (Option Expr)} {values : List Expr} {fs : List (FE × FE)} (h : PE X (.Dict keys values pos) (tDisp (tPs K E fs))) : PE X (.Dict keys values pos) (tDD K E (fDisp fs)) := h.mono fun σ H Qh ⟨W0, H0, W, ρ, Q, Z, st, f, k, x⟩ p hp => by
  have e0 := Ex.hid (o := .dK []) st.see hp
  refine pairs_to (st.ext e0) f (x.ext e0) fun vs W1 H1 ps e1 rp ⟨kds, hk, hl, q⟩ => ?_
  have hw : W1 p = none := by
    cases z : W1 p with
    | none => rfl
    | some o =>
      rcases e1.n _ _ z with z | z
      · rw [st.see.free hp] at z; cases z
      · rw [upd_same] at z; cases z
  obtain ⟨kvs, g1, g2, g3⟩ := keys_v rp hk
  obtain ⟨g4, g5⟩ := merge_v g3 (kvs := []) (ds := []) .nil
  refine ⟨e1.h _ _ upd_same, kvs, g1, by omega, k p _ W1 _ _ (Ex.mut (e0.trans e1) hp hw) hp hw upd_same g5 ?_ ?_⟩
  · have h1 := length_mergeK kvs []
    rw [List.length_nil] at h1
    rw [sizeLine_eq]; omega
  · rw [g4]
    exact q
end
end Pu

set_option Elab.async false
set_option maxRecDepth 100000
set_option linter.all false
/-! operators of own classes, by their methods -/
namespace Pu
open PySem PySem.Spec PyProof.Rows L2 Ly
section
variable {X : Cx} {K : PySem.W.Frag} {CX : CXT} {k : Nat} {C f : Addr} {fd : FuncData} {ps : List Str} {sp : Sp} {E : XK} {m : Str} {pins : List (Addr × Obj)} {σ : L2.St} {H : Hp} {s : Shared} {Q : VK}
/-- the other operand: an instance of the class, or a plain value -/
def YOk (C : Addr) (H : Hp) (y : V) : Prop := (∃ b dx fs, y = .ref b ∧ H b = some (.ins C dx fs)) ∨ flatV y = true
theorem sub4 (n : String) (hn : n ∈ ["NoneType", "bool", "int", "str"]) : PySem.W.subIn K (.type n) (.ref C) = some false := by
  simp only [List.mem_cons, List.not_mem_nil, or_false] at hn
  rcases hn with rfl | rfl | rfl | rfl
  · show (fastBuiltinMro "NoneType").map (fun l => l.contains (Value.ref C)) = some false
    rw [show fastBuiltinMro "NoneType" = some [.type "NoneType", .type "object"] by decide +kernel]
    simp
  · show (fastBuiltinMro "bool").map (fun l => l.contains (Value.ref C)) = some false
    rw [show fastBuiltinMro "bool" = some [.type "bool", .type "int", .type "object"] by decide +kernel]
    simp
  · show (fastBuiltinMro "int").map (fun l => l.contains (Value.ref C)) = some false
    rw [show fastBuiltinMro "int" = some [.type "int", .type "object"] by decide +kernel]
    simp
  · show (fastBuiltinMro "str").map (fun l => l.contains (Value.ref C)) = some false
    rw [show fastBuiltinMro "str" = some [.type "str", .type "object"] by decide +kernel]
    simp
theorem y_looks {M : Model} {y : V} {u : Value} (I : Inv X pins σ H s) (ry : RelV y u) (h : YOk C H y) : ∃ tb, PySem.W.Looks M s.heap (typeOf u) tb ∧ PySem.W.notFirst X.K C tb = true := by
  rcases h with ⟨b, dx, fs, rfl, hb⟩ | h
  · cases ry
    obtain ⟨mB, J, _⟩ := ins_get I.hok hb
    obtain ⟨od, J, _⟩ := J.look
    exact ⟨.ref C, J.type, by simp [PySem.W.notFirst]⟩
  · have key : ∀ n, n ∈ ["NoneType", "bool", "int", "str"] → (∀ s' : Shared, s'.TypeIs u n) → ∃ tb, PySem.W.Looks M s.heap (typeOf u) tb ∧ PySem.W.notFirst X.K C tb = true := fun n hn ht =>
      ⟨.type n, fun A Q E s' _ q => wpAny_typeOf (ht s') q, by unfold PySem.W.notFirst; rw [sub4 n hn]; simp⟩
    cases y with
    | non => cases ry; exact key "NoneType" (by decide) fun _ => rfl
    | bl b => cases ry; exact key "bool" (by decide) fun _ => rfl
    | int i => obtain ⟨t, rfl⟩ := ry; exact key "int" (by decide) fun _ => rfl
    | str i => obtain ⟨t, rfl⟩ := ry; exact key "str" (by decide) fun _ => rfl
    | _ => cases h
/-- what an own method of two is asked for -/
def rMet (C : Addr) (sp : Sp) (E : XK) (g : VK → VK) : R2 := fun x y H Q => ∃ a dx fs, x = .ref a ∧ H a = some (.ins C dx fs) ∧ YOk C H y ∧ sp [x, y] H (g Q) E
/-- a truth value, as it is or turned -/
def blQ (neg : Bool) (Q : VK) : VK := fun v H' => ∃ b, v = .bl b ∧ Q (.bl (neg != b)) H'
theorem op_eqO (M : CalM X.prog X.w X.K X.mg X.base CX C "__eq__" k ps sp) (hr : Room k X.A) (hx : Passes CX X E) : OpR X (compareOp .Eq) (rMet C sp E (blQ false)) := fun pins s σ H x y v u Q I rx ry ⟨a, dx, fs, z, ha, hy, q⟩ => by
  subst z
  cases rx
  obtain ⟨f, fd, hm, hf, F, hb⟩ := M.ex
  obtain ⟨mA, J, _⟩ := ins_get I.hok ha
  obtain ⟨od, J, _⟩ := J.look
  obtain ⟨m, hF⟩ := I.fr
  obtain ⟨tb, h1, h2⟩ := y_looks (M := model X.prog X.w) I ry hy
  show wpAny _ _ (richCompare .Eq _ _) _ _ _
  refine PySem.W.cmp_K (op := .Eq) (tb := tb) hr.units0 hF I.ok.mod.kin J h1 h2 hm.at_ hm.fn ?_
  refine thn (run_at (vs := [.ref a, y]) rfl F hr hb hx I (.cons rfl (.cons ry .nil)) q) fun w s' ⟨z, H', I', rz, b, hz, q'⟩ => ?_
  subst hz
  cases rz
  rw [Bool.false_bne] at q'
  exact ⟨.bl b, H', I', rfl, q'⟩
/-! #### != by == -/
variable {prog : Program} {w : World} {A : Around} {ox : Obj} {od : Option Obj} {a : Addr} {h₀ : Heap} {L : Addr} {mm : Str → Option Value}
theorem bound_ne {args : List Value} {R : Option Value → Shared → Prop} {E' : Value → Shared → Prop} {M : Model} (hK : K.In s.heap) (J : PySem.W.InstAt s.heap a ox C od) (hs : PySem.W.findIn K (.ref C) "__ne__" = some (some (.builtin "object.__ne__")))
    (go : wpAny M A (call (.builtin "object.__ne__") (.ref a :: args)) (fun v => R (some v)) E' s) : wpAny M A (callSpecialIfBound? (.ref a) "__ne__" args) R E' s := by
  have end_ : wpAny M A (call (.builtin "object.__ne__") ([Value.ref a] ++ args) >>= fun v => pure (some v)) R E' s := wpAny_bind (wpAny_mono go (fun _ _ z => wpAny_pure z) fun _ _ z => z)
  simp only [callSpecialIfBound?, bindSpecialIfBound?]
  refine wpAny_holding (wpAny_bind (wpAny_bind (wpAny_bind (J.type.here ((PySem.W.looks_findIn hK hs).here (wpAny_bind (wpAny_askSetting (wpAny_ite ?_))))))))
  split
  · refine wpAny_bind (wpAny_of_eq (F.cmp_object.ne.bind _) (wpAny_pure ?_))
    exact end_
  · refine wpAny_tryCatch (wpAny_bind (wpAny_of_eq (F.cmp_object.ne.bind _) (wpAny_pure ?_)))
    exact end_
theorem entry_ne {v : Value} {R : Fin → Shared → Prop} {E' : Value → Shared → Prop} (hu : A.units < cLine) (hK : K.In s.heap) (J : PySem.W.InstAt s.heap a ox C od) (he : PySem.W.findIn K (.ref C) "__eq__" = some (some (.ref f))) (hf : PySem.W.isFn K (.ref f) = true)
    (go : wpAny (model prog w) A (call (.ref f) [.ref a, v]) (fun r s' => ∃ b, r = .bool b ∧ R (.done (.ret (.bool (!b)))) s') E' s) : wpAny (model prog w) A (Builtin.«object.__ne__» ⟨[.ref a, v], []⟩) R E' s := by
  unfold Builtin.«object.__ne__»
  repeat (first
    | with_reducible refine wpAny_cRoomFor hu ?_
    | (refine wpAny_bind (m := callSpecialIfBound? (.ref a) (Str.ofString "__eq__") [v]) (PySem.W.ifBound_K hK J he hf (wpAny_mono go (fun r s' z => by
        obtain ⟨b, z1, z2⟩ := z
        subst z1
        repeat (first | exact z2 | exact wpAny_pure z2 | exact wpAny_truthy_bool z2 | (refine wpAny_bind (m := truthy (.bool _)) (wpAny_truthy_bool ?_)) | wp_step)) fun _ _ z => z)))
    | wp_step)
theorem rich_ne {v tb : Value} {R : Value → Shared → Prop} {E' : Value → Shared → Prop} (hu : A.units + 1 < cLine) (hK : K.In s.heap) (J : PySem.W.InstAt s.heap a ox C od) (hl : PySem.W.Looks (model prog w) s.heap (typeOf v) tb) (hn : PySem.W.notFirst K C tb = true)
    (ho : PySem.W.mroIn K C (.type "object") = some true) (hs : PySem.W.findIn K (.ref C) "__ne__" = some (some (.builtin "object.__ne__"))) (he : PySem.W.findIn K (.ref C) "__eq__" = some (some (.ref f))) (hf : PySem.W.isFn K (.ref f) = true)
    (go : wpAny (model prog w) A.in1 (call (.ref f) [.ref a, v]) (fun r s' => ∃ b, r = .bool b ∧ R (.bool (!b)) s') E' s) : wpAny (model prog w) A (richCompare .NotEq (.ref a) v) R E' s := by
  have first_ : wpAny (model prog w) A (tryCompare (.ref a) "__ne__" v) (fun r s' => ∃ x, r = some x ∧ R x s') E' s := by
    unfold tryCompare
    refine wpAny_bind (bound_ne hK J hs (wpAny_call (codeAny_call_builtin F.cmp_object.ne.plain F.cmpEntry_ne (PySem.W.check_slot F.cmpKind_ne F.cmpSplit_ne (J.type.andThen (PySem.W.looks_mroIn hK ho)) (F.cmpArgs_ne _ _) ?_))))
    refine entry_ne (A := A.in1) hu hK J he hf (wpAny_mono go (fun r s' ⟨b, z1, z2⟩ => ⟨b, z1, ?_⟩) fun _ _ z => z)
    exact wpAny_pure ⟨_, rfl, z2⟩
  simp only [richCompare, cmpInfo_NotEq, oneThing_ref]
  refine wpAny_holding (wpAny_bind (wpAny_cRoomFor (Nat.lt_of_succ_lt hu) (wpAny_bind (J.type.here (wpAny_bind (hl.here ?_))))))
  split
  · rename_i hq
    have hsub : PySem.W.subIn K tb (.ref C) = some false := by
      unfold PySem.W.notFirst at hn
      rw [Bool.or_eq_true, beq_iff_eq, beq_iff_eq] at hn
      rcases hn with z | z
      · rw [z] at hq
        simp at hq
      · exact z
    refine wpAny_bind ((PySem.W.looks_subIn hK hsub).here ?_)
    simp only [Bool.false_eq_true, if_false]
    refine wpAny_bind (wpAny_mono first_ (fun r s' ⟨x, z1, z2⟩ => ?_) fun _ _ z => z)
    subst z1
    exact wpAny_pure z2
  · refine wpAny_bind (wpAny_pure ?_)
    simp only [Bool.false_eq_true, if_false]
    refine wpAny_bind (wpAny_mono first_ (fun r s' ⟨x, z1, z2⟩ => ?_) fun _ _ z => z)
    subst z1
    exact wpAny_pure z2
theorem op_neO (M : CalM X.prog X.w X.K X.mg X.base CX C "__eq__" k ps sp) (ho : PySem.W.mroIn X.K C (.type "object") = some true) (hs : PySem.W.findIn X.K (.ref C) "__ne__" = some (some (.builtin "object.__ne__"))) (hr : Room (k + 1) X.A) (hx : Passes CX X E) : OpR X (compareOp .NotEq) (rMet C sp E (blQ true)) := fun pins s σ H x y v u Q I rx ry ⟨a, dx, fs, z, ha, hy, q⟩ => by
  subst z
  cases rx
  obtain ⟨f, fd, hm, hf, F, hb⟩ := M.ex
  obtain ⟨mA, J, _⟩ := ins_get I.hok ha
  obtain ⟨od, J, _⟩ := J.look
  obtain ⟨tb, h1, h2⟩ := y_looks (M := model X.prog X.w) I ry hy
  show wpAny _ _ (richCompare .NotEq _ _) _ _ _
  refine rich_ne (hr1 hr) I.kIn J h1 h2 ho hs hm.at_ hm.fn ?_
  refine thn (run_at (vs := [.ref a, y]) rfl F hr.in1 hb hx I (.cons rfl (.cons ry .nil)) q) fun w s' ⟨z, H', I', rz, b, hz, q'⟩ => ?_
  subst hz
  cases rz
  rw [Bool.true_bne] at q'
  exact ⟨b, rfl, .bl (!b), H', I', rfl, q'⟩
/-! #### x in o -/
def rInO (C : Addr) (sp : Sp) (E : XK) (neg : Bool) : R2 := fun y x H Q => ∃ a dx fs, x = .ref a ∧ H a = some (.ins C dx fs) ∧ sp [x, y] H (blQ neg Q) E
theorem op_inO (M : CalM X.prog X.w X.K X.mg X.base CX C "__contains__" k ps sp) (hr : Room k X.A) (hx : Passes CX X E) : OpR X (compareOp .In) (rInO C sp E false) := fun pins s σ H y x u v Q I ry rx ⟨a, dx, fs, z, ha, q⟩ => by
  subst z
  cases rx
  obtain ⟨f, fd, hm, hf, F, hb⟩ := M.ex
  obtain ⟨mA, J, _⟩ := ins_get I.hok ha
  obtain ⟨od, J, _⟩ := J.look
  obtain ⟨m, hF⟩ := I.fr
  refine PySem.W.in_K hF I.ok.mod.kin J hm.at_ hm.fn ?_
  refine thn (run_at (vs := [.ref a, y]) rfl F hr hb hx I (.cons rfl (.cons ry .nil)) q) fun w s' ⟨z, H', I', rz, b, hz, q'⟩ => ?_
  subst hz
  cases rz
  rw [Bool.false_bne] at q'
  exact wpAny_truthy_bool ⟨.bl b, H', I', rfl, q'⟩
theorem op_notInO (M : CalM X.prog X.w X.K X.mg X.base CX C "__contains__" k ps sp) (hr : Room k X.A) (hx : Passes CX X E) : OpR X (compareOp .NotIn) (rInO C sp E true) := fun pins s σ H y x u v Q I ry rx ⟨a, dx, fs, z, ha, q⟩ => by
  subst z
  cases rx
  obtain ⟨f, fd, hm, hf, F, hb⟩ := M.ex
  obtain ⟨mA, J, _⟩ := ins_get I.hok ha
  obtain ⟨od, J, _⟩ := J.look
  obtain ⟨m, hF⟩ := I.fr
  refine PySem.W.notIn_K hF I.ok.mod.kin J hm.at_ hm.fn ?_
  refine thn (run_at (vs := [.ref a, y]) rfl F hr hb hx I (.cons rfl (.cons ry .nil)) q) fun w s' ⟨z, H', I', rz, b, hz, q'⟩ => ?_
  subst hz
  cases rz
  rw [Bool.true_bne] at q'
  exact wpAny_truthy_bool ⟨.bl (!b), H', I', rfl, q'⟩
/-! #### a op b of two instances -/
def rBin (C : Addr) (sp : Sp) (E : XK) : R2 := fun x y H Q => ∃ a b dx dy fs gs, x = .ref a ∧ y = .ref b ∧ H a = some (.ins C dx fs) ∧ H b = some (.ins C dy gs) ∧ sp [x, y] H Q E
theorem op_binO {op : Operator} (M : CalM X.prog X.w X.K X.mg X.base CX C (PySem.dunder op.info.2) k ps sp) (hc : PySem.W.selfFirst X.K C = true) (hr : Room k X.A) (hx : Passes CX X E) : OpR X (binaryOp op) (rBin C sp E) := fun pins s σ H x y v u Q I rx ry ⟨a, b, dx, dy, fs, gs, z, z2, ha, hb', q⟩ => by
  subst z
  subst z2
  cases rx
  cases ry
  obtain ⟨f, fd, hm, hf, F, hb⟩ := M.ex
  obtain ⟨mA, J, _⟩ := ins_get I.hok ha
  obtain ⟨od, J, _⟩ := J.look
  obtain ⟨mB, J2, _⟩ := ins_get I.hok hb'
  obtain ⟨od2, J2, _⟩ := J2.look
  obtain ⟨m, hF⟩ := I.fr
  refine PySem.W.binop_K hF I.ok.mod.kin J J2.type hc hm.at_ hm.fn ?_
  refine thn (run_at (vs := [.ref a, .ref b]) rfl F hr hb hx I (.cons rfl (.cons rfl .nil)) q) fun w s' ⟨z, H', I', rz, q'⟩ => ?_
  have fin : EP X pins σ Q w s' := ⟨z, H', I', rz, q'⟩
  cases w <;> first
    | exact fin
    | (exfalso; cases z <;> first | (cases rz; done) | (obtain ⟨_, rz⟩ := rz; cases rz; done))
end
end Pu

set_option Elab.async false
set_option maxRecDepth 100000
set_option linter.all false
/-! Pure layer: a, b = [], y (the list is an own one). -/
namespace Pu
open PySem PySem.Spec PyProof.Rows L2 Ly
section
variable {X : Cx} {K : PySem.W.Frag} {E : XK} {W0 H0 : Hp} {F : FE} {st : Stmt} {i j : Nat}
def sParL (i j : Nat) (F : FE) : FS := fun ρ De => F ρ (fun d => De.nx ((ρ.set i (.lst [])).set j (.val d))) De.ex
theorem d_parL (h : PS X st (tPar i j (tCons (tLst tNil) (tCons (tD K E F) tNil)))) : PS X st (tDS K W0 H0 E (sParL i j F)) := h.mono fun D σ H ⟨W, ρ, De, s, q, o⟩ =>
  ⟨by decide, fun p hp => by
    have e0 : Ex W H W (upd H p (.lst [])) := Ex.hid s.see hp
    refine ⟨W0, H0, W, ρ, _, _, s.ext e0, q, fun v W' H' d e r z => ?_, (o.xc s).ext e0⟩
    have hw : W' p = none := by
      cases c : W' p with
      | none => rfl
      | some u =>
        rcases e.n p u c with z | z
        · have z := s.see _ _ z
          rw [hp] at z
          cases z
        · rw [upd_same] at z
          cases z
    exact ⟨_, _, rfl, o.nx W' _ _ H' (e0.trans e).w ((s.put (i := i) (b := .lst []) (e0.trans e) hp ⟨p, [], rfl, rfl, hw, s.ex.h.free hp, e.h _ _ upd_same, .nil, by decide⟩).set (i := j) r) z⟩⟩
end
end Pu

set_option Elab.async false
set_option maxRecDepth 100000
set_option linter.all false
/-! Pure layer: list(d), sorted(..), dict(..). -/
namespace Pu
open PySem PySem.Spec PyProof.Rows L2 Ly
section
variable {X : Cx} {K : PySem.W.Frag} {E : XK} {W0 H0 : Hp} {A : FA} {e : Expr} {es : List Expr} {x : Str} {p pos : Pos} {Tn : String} {r : List V → Hp → VK → Prop}
theorem strs_w {W : Hp} : ∀ {vs : List V} {zs : List Str}, RepAll K W vs (zs.map D.str) → vs = zs.map V.str
  | [], [], _ => rfl
  | v :: vs, z :: zs, .cons r rs => by
    cases r
    rw [strs_w rs]
    rfl
  | [], z :: zs, h => by cases h
  | v :: vs, [], h => by cases h
theorem v_strs {W : Hp} : ∀ zs : List Str, RepAll K W (zs.map V.str) (zs.map D.str)
  | [] => .nil
  | z :: zs => .cons (.str z) (v_strs zs)
theorem v_keys {W : Hp} : ∀ kvs : List (Key × V), RepAll K W (kvs.map fun kv => kV kv.1) ((kvs.map Prod.fst).map kD)
  | [] => .nil
  | q :: kvs => .cons (rep_kV q.1) (v_keys kvs)
/-- list(d) -/
def rListDr : List V → Hp → VK → Prop := fun xs H Q => ∃ (a : Addr) (kvs : List (Key × V)), xs = [.ref a] ∧ Rd H a (.dK kvs) ∧ ∀ p, H p = none → Q (.ref p) (upd H p (.lst (kvs.map fun kv => kV kv.1)))
theorem c_listD (hc : X.calm = true) : CallR X (.type "list") rListDr := call_listD hc
def RListD (ds : List D) (Q : List D → Prop) : Prop := ∃ ks es, ds = [.dic ks es] ∧ Q (ks.map kD)
theorem s_listD : CSndN K rListDr RListD := fun W H xs ds Q Qh s rr ⟨ks, es, z, q⟩ k => by
  subst z
  obtain ⟨v, rfl, r⟩ := ts1 rr
  obtain ⟨a, kvs, rfl, h2, rfl, h4, h5⟩ := r.dic_inv s
  exact ⟨a, kvs, rfl, h2, fun l hl => k l _ W _ _ (Ex.hid s hl) hl (s.free hl) upd_same (v_keys kvs) (by rw [List.length_map]; exact h5) q⟩
/-- sorted(texts), sorted(d) -/
def RSortS (ds : List D) (Q : List D → Prop) : Prop := ∃ zs : List Str, ds = [.lst (zs.map .str)] ∧ zs.length < 64 ∧ ∀ ys : List Str, ys.Perm zs → sortedS ys = true → Q (ys.map .str)
theorem s_sortS : CSndN K (rSortedS K) RSortS := fun W H xs ds Q Qh s rr ⟨zs, z, hl, q⟩ k => by
  subst z
  obtain ⟨v, rfl, r⟩ := ts1 rr
  obtain ⟨a, vs, rfl, h2, h3, h4⟩ := r.lst_inv s
  rw [strs_w h3] at h2
  exact ⟨a, zs, rfl, SqL.of h2, hl, fun ys l hp hs hn => k l _ W _ _ (Ex.hid s hn) hn (s.free hn) upd_same (v_strs ys) (by rw [List.length_map, hp.length_eq, sizeLine_eq]; omega) (q ys hp hs)⟩
def RSortD (ds : List D) (Q : List D → Prop) : Prop := ∃ (zs : List Str) (es : List D), ds = [.dic (zs.map Sum.inr) es] ∧ zs.length < 64 ∧ ∀ ys : List Str, ys.Perm zs → sortedS ys = true → Q (ys.map .str)
theorem s_sortD : CSndN K TM.rSortedDk RSortD := fun W H xs ds Q Qh s rr ⟨zs, es, z, hl, q⟩ k => by
  subst z
  obtain ⟨v, rfl, r⟩ := ts1 rr
  obtain ⟨a, kvs, rfl, h2, h3, h4, h5⟩ := r.dic_inv s
  exact ⟨a, kvs, zs, rfl, h2, h3, hl, fun ys l hp hs hn => k l _ W _ _ (Ex.hid s hn) hn (s.free hn) upd_same (v_strs ys) (by rw [List.length_map, hp.length_eq, sizeLine_eq]; omega) (q ys hp hs)⟩
/-- dict(..) -/
def CSndD (K : PySem.W.Frag) (r : List V → Hp → VK → Prop) (R : List D → (List Key → List D → Prop) → Prop) : Prop := ∀ W H xs ds Q Qh, Gx W H → RepTs K W H xs ds → R ds Q →
  (∀ p kvs W' H' ds, Ex W H W' H' → H p = none → W' p = none → H' p = some (.dK kvs) → RepAll K W' (kvs.map Prod.snd) ds → kvs.length ≤ sizeLine → Q (kvs.map Prod.fst) ds → Qh (.ref p) H') → r xs H Qh
def fCBD (R : List D → (List Key → List D → Prop) → Prop) (A : FA) : FDi := fun ρ Q Z => A ρ (fun ds => R ds Q) Z
variable {RD : List D → (List Key → List D → Prop) → Prop}
theorem cbd_to (hR : CSndD K r RD) {σ : L2.St} {H : Hp} {Qh : VK} (h : tDD K E (fCBD RD A) σ H Qh) : tCB r (tDAT K E A) σ H Qh := by
  obtain ⟨W0, H0, W, ρ, Q, Z, st, f, k, x⟩ := h
  exact ⟨W0, H0, W, ρ, _, Z, st, f, fun vs W1 H1 ds e1 r1 q => hR W1 H1 vs ds Q Qh e1.s r1 q fun p vs W2 H2 ds e2 hp hw h' r2 n q2 => k p vs W2 H2 ds (e1.trans e2) (e1.h.free hp) hw h' r2 n q2, x⟩
theorem d_ctD (hc : CallR X (.type Tn) r) (hR : CSndD K r RD) (hg : Gl X x) (hm : X.mg x = none) (hv : bootBuiltins x = some (.type Tn)) (ha : PA X (e :: es) (tDAT K E A)) (hn : x ≠ "__name__" := by decide) (hdb : (x == ("__debug__" : Str)) = false := by decide)
    (hs : starEach (e :: es) X.env = (false, eval e X.env) :: starEach es X.env := by rfl) (hpl : (backTo pos (starEach es X.env)).any (·.1) = false := by rfl) : PE X (.Call (.Name x p) (e :: es) [] pos) (tDD K E (fCBD RD A)) :=
  (pe_callTy hc hg hm hv ha hn hdb hs hpl).mono fun _ _ _ h => cbd_to hR h
def rDictDr : List V → Hp → VK → Prop := fun xs H Q => ∃ (a : Addr) (kvs : List (Key × V)), xs = [.ref a] ∧ Rd H a (.dK kvs) ∧ ∀ p, H p = none → Q (.ref p) (upd H p (.dK kvs))
theorem c_dictD : CallR X (.type "dict") rDictDr := call_dictD
def RDictD (ds : List D) (Q : List Key → List D → Prop) : Prop := ∃ ks es, ds = [.dic ks es] ∧ Q ks es
theorem s_dictD : CSndD K rDictDr RDictD := fun W H xs ds Q Qh s rr ⟨ks, es, z, q⟩ k => by
  subst z
  obtain ⟨v, rfl, r⟩ := ts1 rr
  obtain ⟨a, kvs, rfl, h2, rfl, h4, h5⟩ := r.dic_inv s
  exact ⟨a, kvs, rfl, h2, fun l hl => k l _ W _ _ (Ex.hid s hl) hl (s.free hl) upd_same h4 h5 q⟩
def rDictPr (K : PySem.W.Frag) : List V → Hp → VK → Prop := fun xs H Q => ∃ (a : Addr) (ps : List Addr) (kvs : List (Key × V)), xs = [.ref a] ∧ SqL K H a (ps.map V.ref) ∧ Paired (fun p kv => SqT K H p [kV kv.1, kv.2]) ps kvs ∧ ∀ p, H p = none → Q (.ref p) (upd H p (.dK (mergeK [] kvs)))
theorem c_dictP (hc : X.calm = true) (hK : X.K = K := by rfl) : CallR X (.type "dict") (rDictPr K) := by subst hK; exact call_dictP hc
def RDictP (ds : List D) (Q : List Key → List D → Prop) : Prop := ∃ (ps : List (D × D)) (kds : List (Key × D)), ds = [.lst (ps.map fun q => .tup [q.1, q.2])] ∧ keysD ps = some kds ∧ Q (mergeKs [] kds) (mergeDs [] [] kds)
theorem pairs_in {W : Hp} : ∀ {vs : List V} {ps : List (D × D)} {kds : List (Key × D)}, RepAll K W vs (ps.map fun q => D.tup [q.1, q.2]) → keysD ps = some kds → ∃ (as : List Addr) (kvs : List (Key × V)), vs = as.map V.ref ∧ Paired (fun p kv => SqT K W p [kV kv.1, kv.2]) as kvs ∧ Paired (fun (p : Key × V) (q : Key × D) => p.1 = q.1 ∧ Rep K W p.2 q.2) kvs kds ∧ kvs.length = ps.length
  | [], [], kds, _, h => by
    cases h
    exact ⟨[], [], rfl, .nil, .nil, rfl⟩
  | v :: vs, q :: ps, kds, .cons r rs, h => by
    simp only [keysD] at h
    cases h1 : keyD q.1 with
    | none => rw [h1] at h; cases h
    | some kk =>
      cases h2 : keysD ps with
      | none => rw [h1, h2] at h; cases h
      | some l =>
        rw [h1, h2] at h
        cases h
        obtain ⟨as, kvs, g1, g2, g3, g4⟩ := pairs_in rs h2
        cases r with
        | @tup a us _ hs hr hn =>
          cases hr with
          | cons ra hr =>
            cases hr with
            | cons rb hr =>
              cases hr
              have := key_v ra h1
              subst this
              refine ⟨a :: as, (kk, _) :: kvs, by rw [g1]; rfl, .cons hs g2, .cons ⟨rfl, rb⟩ g3, by rw [List.length_cons, List.length_cons, g4]⟩
  | [], q :: ps, kds, h, _ => by cases h
  | v :: vs, [], kds, h, _ => by cases h
theorem s_dictP : CSndD K (rDictPr K) RDictP := fun W H xs ds Q Qh s rr ⟨ps, kds, z, hk, q⟩ k => by
  subst z
  obtain ⟨v, rfl, r⟩ := ts1 rr
  obtain ⟨a, vs, rfl, h2, h3, h4⟩ := r.lst_inv s
  obtain ⟨as, kvs, g1, g2, g3, g4⟩ := pairs_in h3 hk
  obtain ⟨g5, g6⟩ := merge_v g3 (kvs := []) (ds := []) .nil
  rw [g1] at h2 h4
  have hp : Paired (fun p kv => SqT K H p [kV kv.1, kv.2]) as kvs := Paired.mapP g2 fun _ _ z => s.t z
  refine ⟨a, as, kvs, rfl, SqL.of h2, hp, fun l hl => k l _ W _ _ (Ex.hid s hl) hl (s.free hl) upd_same g6 ?_ ?_⟩
  · have h1 := length_mergeK kvs []
    have h6 := Paired.length g2
    rw [List.length_nil] at h1
    rw [List.length_map] at h4
    omega
  · rw [g5]
    exact q
end
end Pu

set_option Elab.async false
set_option maxRecDepth 100000
set_option linter.all false
/-! Pure layer: the dice. -/
namespace Pu
open PySem PySem.Spec PyProof.Rows L2 Ly
section
variable {P : Program} {w : World} {K : PySem.W.Frag} {mg : Str → Option Value} {base : Heap} {k : Nat} {f : Addr} {fd : FuncData} {ps : List Str}
def FRoll : Fn := fun ds Q _ => ∃ t : Int, ds = [.dice, .int t] ∧ 0 < t ∧ t < 1073741824 ∧ ∀ r, 0 ≤ r → r < t → Q (.int r)
def FPick : Fn := fun ds Q _ => ∃ xs : List D, ds = [.dice, .lst xs] ∧ 0 < xs.length ∧ xs.length < 1073741824 ∧ ∀ x ∈ xs, Q x
def FDice : Fn := fun ds Q _ => ∃ (ns : List Int) (n : Nat), ds = [.lsk (ns.map .int), .int (n : Int)] ∧ Q .dice
theorem dice_v {W : Hp} {v : V} (h : Rep K W v .dice) : ∃ a, v = .ref a ∧ W a = some (diceO a) := by
  cases h with
  | dice h => exact ⟨_, rfl, h⟩
theorem all_get {W : Hp} : ∀ {vs : List V} {ds : List D}, RepAll K W vs ds → ∀ (j : Nat) (v : V), vs[j]? = some v → ∃ d, d ∈ ds ∧ Rep K W v d
  | [], _, _, j, v, h => by simp at h
  | u :: vs, _, .cons r rs, 0, v, h => by
    cases h
    exact ⟨_, List.mem_cons_self .., r⟩
  | u :: vs, _, .cons r rs, j + 1, v, h => by
    obtain ⟨d, h1, h2⟩ := all_get rs j v (by simpa using h)
    exact ⟨d, List.mem_cons_of_mem _ h1, h2⟩
theorem all_len {W : Hp} : ∀ {vs : List V} {ds : List D}, RepAll K W vs ds → vs.length = ds.length
  | _, _, .nil => rfl
  | _, _, .cons r rs => by rw [List.length_cons, List.length_cons, all_len rs]
theorem fn_roll (F : FnOk P w K mg base CX0 k f fd ps spRoll) : FnOk P w K mg base (L2.CX P w) k f fd ps (spD K 2 FRoll) := (fn_cx F).imp fun vs H Qh E ⟨W, ds, Q, Z, s, r, hl, ⟨t, z, h1, h2, q⟩, kk, _⟩ => by
  subst z
  cases r with
  | cons r1 r =>
    cases r with
    | cons r2 r =>
      cases r
      cases r2
      obtain ⟨a, rfl, ha⟩ := dice_v r1
      exact ⟨a, t, rfl, h1, h2, s _ _ ha, fun r g1 g2 => kk _ W H _ (Ex.refl s) (.int r) (q r g1 g2)⟩
theorem fn_pick (F : FnOk P w K mg base CX0 k f fd ps (spPick K)) : FnOk P w K mg base (L2.CX P w) k f fd ps (spD K 2 FPick) := (fn_cx F).imp fun vs H Qh E ⟨W, ds, Q, Z, s, r, hl, ⟨xs, z, h1, h2, q⟩, kk, _⟩ => by
  subst z
  cases r with
  | cons r1 r =>
    cases r with
    | cons r2 r =>
      cases r
      obtain ⟨a, rfl, ha⟩ := dice_v r1
      cases r2 with
      | @lst b us _ g1 g2 g3 =>
        have hlen := all_len g2
        exact ⟨a, b, us, rfl, s _ _ ha, SqL.of (s _ _ g1), by omega, by omega, fun j x hx => by
          obtain ⟨d, e1, e2⟩ := all_get g2 j x hx
          exact kk _ W H _ (Ex.refl s) e2 (q d e1)⟩
theorem ints_w {W : Hp} : ∀ {vs : List V} {ns : List Int}, RepAll K W vs (ns.map D.int) → vs = ns.map V.int
  | [], [], _ => rfl
  | v :: vs, z :: zs, .cons r rs => by
    cases r
    rw [ints_w rs]
    rfl
  | [], z :: zs, h => by cases h
  | v :: vs, [], h => by cases h
theorem v_ints {W : Hp} : ∀ ns : List Int, RepAll K W (ns.map V.int) (ns.map D.int)
  | [] => .nil
  | z :: zs => .cons (.int z) (v_ints zs)
theorem fn_diceD (F : FnOk P w K mg base CX0 k f fd ps (spDice K)) : FnOk P w K mg base (L2.CX P w) k f fd ps (spD K 2 FDice) := (fn_cx F).imp fun vs H Qh E ⟨W, ds, Q, Z, s, r, hl, ⟨ns, n, z, q⟩, kk, _⟩ => by
  subst z
  cases r with
  | cons r1 r =>
    cases r with
    | cons r2 r =>
      cases r
      cases r2
      cases r1 with
      | @lsk a us _ h1 h2 h3 =>
        rw [ints_w h2] at h1
        exact ⟨a, ns, n, rfl, s.l h1, fun p hp => kk _ _ _ _ (Ex.new s hp) (.dice upd_same) q⟩
/-- what raises nothing -/
theorem fn_cx0 {sp sp' : Sp} (F : FnOk P w K mg base (L2.CX P w) k f fd ps sp) (h : ∀ vs H Q E, sp' vs H Q E → sp vs H Q fun _ _ _ => False) : FnOk P w K mg base CX0 k f fd ps sp' :=
  ⟨fun vs H Q E q => F.len vs H Q _ (h _ _ _ _ q), fun A outer s H args us vs Q E hr he hb hv hs => codeAny_mono (F.run A outer s H args us vs Q _ hr he hb hv (h _ _ _ _ hs)) fun r s' z => by
    cases r with
    | error e =>
      obtain ⟨_, _, _, _, _, _, _, _, _, _, _, _, hE⟩ := z
      exact hE.elim
    | ok fl => cases fl <;> exact z⟩
end
end Pu

set_option Elab.async false
set_option maxRecDepth 100000
set_option linter.all false
/-! Pure layer: try with several clauses, some of them with a name. -/
namespace Pu
open PySem PySem.Spec PyProof.Rows L2 Ly
/-- one clause: its class, the slot of its name, its suite -/
structure Cl where
  c : Value
  nm : Option Nat
  ts : Addr → Value → Option Addr → TS
def shut (D : Ends) : Option Nat → Ends
  | none => D
  | some i => { nx := fun σ H => D.nx (σ.set i none) H, rt := D.rt, bk := fun σ H => D.bk (σ.set i none) H, ct := fun σ H => D.ct (σ.set i none) H }
def put1 (a : Addr) : Option Nat → L2.St → L2.St
  | none, σ => σ
  | some i, σ => σ.set i (some (.ref a))
def wCls (K : PySem.W.Frag) (Wo : WX) (D : Ends) : List Cl → WX
  | [] => Wo
  | q :: r => fun cls d σ H => ∃ b, PySem.W.exmOne K cls q.c = some b ∧ (b = true → ∀ a, H a = none → q.ts a cls d (shut D q.nm) (put1 a q.nm σ) H) ∧ (b = false → wCls K Wo D r cls d σ H)
def NmOk (X : Cx) : Option Str → Option Nat → Prop
  | none, none => True
  | some n, some i => X.N[i]? = some n ∧ X.env.kindOf n = some .local
  | _, _ => False
inductive ClsOk (X : Cx) : List ExceptHandler → List Cl → Prop
  | nil : ClsOk X [] []
  | cons {x : Str} {q : Cl} {n : Option Str} {b1 : Stmt} {su : List Stmt} {p1 p2 : Pos} {hs : List ExceptHandler} {qs : List Cl} (hc : Names X x q.c) (hn : NmOk X n q.nm)
      (hsu : ∀ (a : Addr) (ob : Obj) (cls : Value) (d : Option Addr) (pn : List (Addr × Obj)), Zc cls d ob → (∃ fs, ob.data = .fields fs) → PSs (X.suite a ((a, ob) :: pn)) (b1 :: su) (q.ts a cls d)) (r : ClsOk X hs qs) :
      ClsOk X (.ExceptHandler (some (.Name x p1)) n (b1 :: su) p2 :: hs) (q :: qs)
section
variable {X : Cx} {body : List Stmt} {h1 : ExceptHandler} {hs : List ExceptHandler} {qs : List Cl} {pos : Pos} {tb : WX → TS} {Wo : WX}
theorem ps_tries (st : X.stack = X.env :: X.outer) (fr : X.env.frame = some X.env.locals) (nd : X.N.Nodup) (tk : Takes X Wo)
    (hb : ∀ (W : WX) (pn : List (Addr × Obj)) (xe : Value → Shared → Prop), Takes (X.tr pn xe) W →
      PassesOwn (model X.prog X.w) X.A X.env xe → PSs (X.tr pn xe) body (tb W))
    (hh : ClsOk X (h1 :: hs) qs) : PS X (.Try body (h1 :: hs) [] [] pos) (fun D σ H => tb (wCls X.K Wo D qs) D σ H) := by
  refine ⟨fun pins s σ H D I h => ?_⟩
  have ok := I.ok
  have frs' : X.A.frames = some (X.env :: X.outer) := ok.frames.trans (congrArg some st)
  refine wpAny_Try_except ?_
  refine wpAny_mono ((hb (wCls X.K Wo D qs) (X.pn ++ pins) _ (fun u z caught => ?_) PassesOwn.looking).run [] s σ H D (I.toTry _) h) (fun fl z done => ?_) (fun _ _ y => y)
  · obtain ⟨a, B, z0, pins', σ', H', cls, d, rfl, J', nb, up, sky, na, os, ag, wish⟩ := caught
    have J : Inv X pins σ' H' z0 := J'.ofTry ok
    have sky2 : Sky B (X.env :: X.outer) a (Zc cls d) X.env.locals z.heap := st ▸ sky
    show wpAny (model X.prog X.w) X.A (noteFrame (.ref a) X.env) _ _ _
    refine Sky.land Zc.steady frs' fr sky2 fun g3 fl3 up3 => ?_
    have J3 : Inv X pins σ' H' { z with heap := g3 } :=
      J.landed nb fl3.1 (up.trans up3) os ag
    obtain ⟨ob3, fs3, at3, zc3, dt3⟩ := fl3.there
    have off : a ∉ frs (X.env :: X.outer) := fun hm => by
      obtain ⟨_, ob', at', no⟩ := fl3.2.2.1.mem hm
      rw [at3] at at'
      cases at'
      exact no _ dt3
    have nL : a ≠ X.env.locals := fun y => off (List.mem_filterMap.mpr ⟨X.env, List.mem_cons_self, fr.trans (congrArg some y.symm)⟩)
    have nF : a ∉ X.fs := fun hm => by
      obtain ⟨e, he, q⟩ := List.mem_filterMap.mp hm
      exact off (List.mem_filterMap.mpr ⟨e, List.mem_cons_of_mem _ he, q⟩)
    have S3 := J3.suite at3 dt3 na nL nF
    have go : ∀ {hs' : List ExceptHandler} {qs' : List Cl}, ClsOk X hs' qs' → wCls X.K Wo D qs' cls d σ' H' →
        wpAny (model X.prog X.w) X.A (handleBy (.ref a) X.env hs') (SP X pins D) X.xe { z with heap := g3 } := by
      intro hs' qs' hk
      induction hk with
      | nil =>
        intro wi
        refine wpAny_handleBy_nil ?_
        obtain ⟨_, _, _, ob, fs, T, _, _, at_, _, dt, f1, _⟩ := id fl3
        unfold PySem.passOn
        refine wpAny_bind (wpAny_field at_ dt f1 ?_)
        rw [if_neg (show ¬ (Value.ref T == Value.none) = true by simp)]
        have fin : wpAny (model X.prog X.w) X.A (setFlight (.ref a) X.env.frame)
            (fun _ y => wpAny (model X.prog X.w) X.A (throw (.ref a) : Sem Flow) (SP X pins D) X.xe y) X.xe { z with heap := g3 } := by
          rw [fr]
          refine HandSPX.setFlight_upZ fl3 fun g4 hh4 up4 => wpAny_throw (tk _ _ ?_)
          exact ⟨a, B, z0, pins, σ', H', cls, d, rfl, J, nb, (up.trans up3).trans up4, .inr (.inr (st ▸ hh4)), na, os, ag, wi⟩
        first
          | exact wpAny_bind (wpAny_pure (wpAny_bind fin))
          | exact wpAny_bind fin
      | @cons x q n b1 su p1 p2 hs2 qs2 hc hn hsu r ih =>
        intro wi
        obtain ⟨b, hb1, hyes, hno⟩ := wi
        refine wpAny_handleBy_cons (codeAny_handlers_test ?_) (by intro y; cases y)
        have LT : PySem.W.Looks (model X.prog X.w) g3 (typeOf (.ref a)) cls :=
          fun _ _ _ _ k y => wpAny_typeOf_ref (k _ _ at3) (zc3.1.symm ▸ y)
        have LM := PySem.W.exm_one (M := model X.prog X.w) J3.kIn LT hb1
        have test : ∀ {Q : Value → Shared → Prop} {E : Value → Shared → Prop}, Q q.c { z with heap := g3 } →
            wpAny (model X.prog X.w) (X.A.mark (some (.ref a))) (eval (.Name x p1) X.env) Q E { z with heap := g3 } := fun {Q E} y => by
          obtain ⟨hg, hdb, hm | ⟨hm, hv, hnn⟩⟩ := hc
          · exact ld_glob (X := X.suite a ((a, ob3) :: (X.pn ++ pins))) S3 hg hm y hdb
          · exact ld_blt (X := X.suite a ((a, ob3) :: (X.pn ++ pins))) S3 hg hm hv y hnn hdb
        refine test (LM.here ?_)
        cases b with
        | false =>
          show wpAny _ X.A (handleBy (.ref a) X.env hs2) _ _ _
          exact ih (hno rfl)
        | true =>
          have wy := hyes rfl a na
          revert hn hsu wy
          obtain ⟨qc, qn, qt⟩ := q
          dsimp only
          intro hn hsu wy
          cases qn with
          | none =>
            cases n with
            | some n => exact hn.elim
            | none =>
            refine codeAny_handlers_suite ?_
            refine HandSPX.lands_againZ fl3 fun g4 fl4 up4 => ?_
            have J4 : Inv X pins σ' H' { z with heap := g4 } :=
              J.landed nb fl4.1 ((up.trans up3).trans up4) os ag
            obtain ⟨ob4, fs4, at4, zc4, dt4⟩ := fl4.there
            have S4 := J4.suite at4 dt4 na nL nF
            refine wpAny_mono ((hsu a ob4 cls d (X.pn ++ pins) zc4 ⟨_, dt4⟩).run [] _ _ H' _ S4 wy) (fun f y dn => ?_) (fun _ _ y => False.elim y)
            cases f with
            | ret u =>
              obtain ⟨v6, σ6, H6, S6, r6, q6⟩ := dn
              exact ⟨v6, σ6, H6, S6.unsuite ok, r6, q6⟩
            | _ =>
              obtain ⟨σ6, H6, S6, q6⟩ := dn
              exact ⟨σ6, H6, S6.unsuite ok, q6⟩
          | some i =>
            cases n with
            | none => exact hn.elim
            | some n =>
            obtain ⟨hi, hln⟩ := hn
            refine codeAny_handlers_suite_as ?_
            refine HandSPX.lands_againZ fl3 fun g4 fl4 up4 => ?_
            have J4 : Inv X pins σ' H' { z with heap := g4 } :=
              J.landed nb fl4.1 ((up.trans up3).trans up4) os ag
            obtain ⟨ob4, fs4, at4, zc4, dt4⟩ := fl4.there
            have S4 := J4.suite at4 dt4 na nL nF
            refine store_ok (X := X.suite a ((a, ob4) :: (X.pn ++ pins))) (v := .ref a) S4 nd hi (.inl hln) rfl (fun z5 S5 => ?_) (.inr hln)
            refine wpAny_mono ((hsu a ob4 cls d (X.pn ++ pins) zc4 ⟨_, dt4⟩).run [] z5 _ H' _ S5 wy) (fun f y dn => ?_) (fun _ _ y => False.elim y)
            have fin : ∀ {σ6 : L2.St} {H6 : Hp} {R : Shared → Prop}, Inv (X.suite a ((a, ob4) :: (X.pn ++ pins))) [] σ6 H6 y → (∀ z7, Inv X pins (σ6.set i none) H6 z7 → R z7) →
                wpAny (model X.prog X.w) X.A (do bindName X.env n .none; unbindBehindTheSuite X.env n p2) (fun _ z7 => R z7) X.xe y :=
              fun S6 hq => gone_ok (S6.unsuite ok) nd hi hln hq
            cases f with
            | ret u =>
              obtain ⟨v6, σ6, H6, S6, r6, q6⟩ := dn
              exact fin S6 fun z7 J7 => ⟨_, _, _, J7, r6, q6⟩
            | _ =>
              obtain ⟨σ6, H6, S6, q6⟩ := dn
              exact fin S6 fun z7 J7 => ⟨_, _, J7, q6⟩
    exact go hh wish
  · cases fl with
    | next =>
      obtain ⟨σ', H', J', y⟩ := done
      exact wpAny_execs_nil ⟨σ', H', J'.ofTry ok, y⟩
    | ret u =>
      obtain ⟨v, σ', H', J', r, y⟩ := done
      exact ⟨v, σ', H', J'.ofTry ok, r, y⟩
    | _ =>
      obtain ⟨σ', H', J', y⟩ := done
      exact ⟨σ', H', J'.ofTry ok, y⟩
end
end Pu

set_option Elab.async false
set_option maxRecDepth 100000
set_option linter.all false
/-! Pure layer: try, raise of an error that keeps something, classmethods. -/
namespace Pu
open PySem PySem.Spec PyProof.Rows L2 Ly
/-- a clause -/
structure HC where
  C : Addr
  nm : Option Nat
  S : Exn → Addr → Value → Option Addr → FS
def exC : Exn → Addr
  | .bare C => C
  | .kept C _ _ => C
def exV (a : Addr) (d : Option Addr) : Exn → D
  | .bare _ => .cls a
  | .kept _ ns ds => .exn a (d.getD 0) ns ds
def slotE (n : Nat) (a : Addr) (d : Option Addr) (x : Exn) : Option Nat → Pu.Env
  | none => List.replicate n .un
  | some i => (List.replicate n .un).set i (.val (exV a d x))
def backE (De : EndsD) : EndsD := { nx := fun _ => False, rt := De.rt, ex := fun _ => False }
def xShape : Exn → Value → Option Addr → Prop
  | .bare C, cls, d => cls = .ref C ∧ d = none
  | .kept C _ _, cls, d => cls = .ref C ∧ ∃ dd, d = some dd
def hchain (K : PySem.W.Frag) (n : Nat) (De : EndsD) : List HC → ZX
  | [] => De.ex
  | q :: r => fun x => ∃ b, PySem.W.exmOne K (.ref (exC x)) (.ref q.C) = some b ∧ if b = true then ∀ a cls d, xShape x cls d → q.S x a cls d (slotE n a d x q.nm) (backE De) else hchain K n De r x
def sTry (K : PySem.W.Frag) (S : FS) (hs : List HC) : FS := fun ρ De => S ρ { De with ex := hchain K ρ.length De hs }
section
variable {X : Cx} {K : PySem.W.Frag} {E : XK} {W0 H0 : Hp}
def tDH (K : PySem.W.Frag) (W0 H0 : Hp) (E : XK) (q : HC) (a : Addr) (cls : Value) (d : Option Addr) : TS := fun Dh σ H => ∃ x, tDS K W0 H0 E (q.S x a cls d) Dh σ H
def clOf (K : PySem.W.Frag) (W0 H0 : Hp) (E : XK) (q : HC) : Cl := ⟨.ref q.C, q.nm, tDH K W0 H0 E q⟩
theorem pss_ex {α : Type} {X : Cx} {su : List Stmt} {t : α → TS} (h : ∀ x, PSs X su (t x)) : PSs X su (fun D σ H => ∃ x, t x D σ H) := ⟨fun pins s σ H D I ⟨x, q⟩ => (h x).run pins s σ H D I q⟩
inductive HcOk (X : Cx) (K : PySem.W.Frag) (W0 H0 : Hp) (E : XK) : List ExceptHandler → List HC → Prop
  | nil : HcOk X K W0 H0 E [] []
  | cons {x : Str} {q : HC} {n : Option Str} {b1 : Stmt} {su : List Stmt} {p1 p2 : Pos} {hs : List ExceptHandler} {qs : List HC} (hc : Names X x (.ref q.C)) (hn : NmOk X n q.nm)
      (hsu : ∀ (a : Addr) (ob : Obj) (cls : Value) (d : Option Addr) (pn : List (Addr × Obj)), Zc cls d ob → (∃ fs, ob.data = .fields fs) → ∀ x, PSs (X.suite a ((a, ob) :: pn)) (b1 :: su) (tDS K W0 H0 E (q.S x a cls d))) (r : HcOk X K W0 H0 E hs qs) :
      HcOk X K W0 H0 E (.ExceptHandler (some (.Name x p1)) n (b1 :: su) p2 :: hs) (q :: qs)
theorem HcOk.cls : ∀ {hs : List ExceptHandler} {qs : List HC}, HcOk X K W0 H0 E hs qs → ClsOk X hs (qs.map (clOf K W0 H0 E))
  | _, _, .nil => .nil
  | _, _, .cons hc hn hsu r => .cons (q := clOf K W0 H0 E _) hc hn (fun a ob cls d pn z f => pss_ex (hsu a ob cls d pn z f)) r.cls
theorem rep_un {n : Nat} {σ : L2.St} {W H : Hp} (e : Pu.Ex W0 H0 W H) (hl : σ.length = n) : Sat K W0 H0 W (List.replicate n .un) σ H := by
  refine ⟨e, by rw [List.length_replicate]; exact hl, fun _ => none, fun _ _ _ z => (by cases z), fun i b hb => ?_⟩
  have hi : i < n := by
    have := (List.getElem?_eq_some_iff.mp hb).1
    rw [List.length_replicate] at this
    exact this
  rw [List.getElem?_replicate_of_lt hi] at hb
  cases hb
  exact ⟨_, List.getElem?_eq_getElem (by rw [hl]; exact hi), rfl⟩
theorem xrep_v {W : Hp} {x : Exn} {cls : Value} {d : Option Addr} (r : XRep K W x cls d) (a : Addr) : cls = .ref (exC x) ∧ xShape x cls d ∧ Rep K W (.ref a) (exV a d x) := by
  cases r with
  | bare C => exact ⟨rfl, ⟨rfl, rfl⟩, .cls a⟩
  | kept h1 h2 h3 => exact ⟨rfl, ⟨rfl, _, rfl⟩, .exn h1 h2 h3⟩
theorem chain_w {n : Nat} {De : EndsD} {Dh : Ends} {W : Hp} (ok : Ok K W0 H0 E W De Dh) {x : Exn} {cls : Value} {dd : Option Addr} {W' H' : Hp} (e : Pu.Ex W0 H0 W' H') (r : XRep K W' x cls dd) {σ : L2.St} (hl : σ.length = n) :
    ∀ {hs : List HC}, hchain K n De hs x → wCls K (fun cls d _ H => E cls d H) Dh (hs.map (clOf K W0 H0 E)) cls dd σ H'
  | [], h => ok.ex x cls dd W' H' e r h
  | q :: hs, ⟨b, hb, h⟩ => by
    refine ⟨b, by rw [(xrep_v r 0).1]; exact hb, fun z a ha => ?_, fun z => ?_⟩
    · subst z
      rw [if_pos rfl] at h
      obtain ⟨_, sh, rv⟩ := xrep_v r a
      refine ⟨x, W', slotE n a dd x q.nm, backE De, ?_, h a cls dd sh, ⟨fun _ _ _ _ _ _ z => z.elim, fun v W2 H2 d e2 r2 z => ?_, (fun _ _ _ _ _ _ z => z.elim), (fun _ _ _ _ _ _ z => z.elim), fun _ _ _ _ _ _ _ z => z.elim⟩⟩
      · show Sat K W0 H0 W' (slotE n a dd x q.nm) (put1 a q.nm σ) H'
        cases q.nm with
        | none => exact rep_un e hl
        | some i => exact (rep_un e hl).set rv
      · show (shut Dh q.nm).rt v H2
        cases q.nm with
        | none => exact ok.rt v W2 H2 d e2 r2 z
        | some i => exact ok.rt v W2 H2 d e2 r2 z
    · subst z
      rw [if_neg (by decide)] at h
      exact chain_w ok e r hl h
theorem d_try {body : List Stmt} {h1 : ExceptHandler} {hs : List ExceptHandler} {qs : List HC} {pos : Pos} {S : FS} (st : X.stack = X.env :: X.outer) (fr : X.env.frame = some X.env.locals) (nd : X.N.Nodup) (tk : Takes X (fun cls d _ H => E cls d H))
    (hb : ∀ (E' : XK) (pn : List (Addr × Obj)) (xe : Value → Shared → Prop), Takes (X.tr pn xe) (fun cls d _ H => E' cls d H) → PassesOwn (model X.prog X.w) X.A X.env xe → PSs (X.tr pn xe) body (tDS K W0 H0 E' S))
    (hh : HcOk X K W0 H0 E (h1 :: hs) qs) (hK : X.K = K := by rfl) : PS X (.Try body (h1 :: hs) [] [] pos) (tDS K W0 H0 E (sTry K S qs)) := by
  subst hK
  have key := ps_tries (pos := pos) (tb := fun W => tDS X.K W0 H0 (fun cls d H => ∀ σ : L2.St, σ.length = X.N.length → W cls d σ H) S) st fr nd tk (fun W pn xe t p => hb _ pn xe (fun u s' ⟨a, B, sI, pins, σ, H, cls, d, e1, I, nb, up, sky, na, os, ag, w⟩ =>
    t u s' ⟨a, B, sI, pins, σ, H, cls, d, e1, I, nb, up, sky, na, os, ag, w σ I.len⟩) p) hh.cls
  refine ⟨fun pins s σ H D I h => key.run pins s σ H D I ?_⟩
  obtain ⟨W, ρ, De, sat, q, ok⟩ := h
  have hρ : ρ.length = X.N.length := by rw [← sat.len]; exact I.len
  exact ⟨W, ρ, _, sat, q, ⟨ok.nx, ok.rt, ok.bk, ok.ct, fun x cls dd W' H' e r z σ' hl => chain_w ok e r (by rw [hρ]; exact hl) z⟩⟩
/-- error.f -/
def fXf (cls : Value) (d : Option Addr) (C : Addr) (a : Addr) (f : Str) (F : FE) : FE := fun ρ Q Z => F ρ (fun v => ∃ dd ns ds u, v = .exn a dd ns ds ∧ cls = .ref C ∧ d = some dd ∧ lookD ns ds f = some u ∧ Q u) Z
theorem d_xf {a C : Addr} {oe : Obj} {cls : Value} {d : Option Addr} {pn : List (Addr × Obj)} {e : Expr} {F : FE} {pos : Pos} {n : Str} (T : XfC X.K C) (hno : PySem.W.findIn X.K (.ref C) n = some none) (hz : Zc cls d oe) (hf : ∃ vs, oe.data = .fields vs)
    (he : PE (X.suite a ((a, oe) :: pn)) e (tD K E F)) (hb : attributeBase e n X.env (eval e X.env) = eval e X.env := by rfl) : PE (X.suite a ((a, oe) :: pn)) (.Attribute e n pos) (tD K E (fXf cls d C a n F)) :=
  (pe_xf T hno hz hf he hb).mono fun σ H Qh ⟨W0, H0, W, ρ, Q, Z, st, f, k, x⟩ => ⟨W0, H0, W, ρ, _, Z, st, f, fun v W1 H1 d e1 r ⟨dd, ns, ds, u, z, hc, hd, hl, q⟩ => by
    subst z
    cases r with
    | @exn _ _ fs _ _ h1 h2 h3 =>
      subst h2
      obtain ⟨v, h4, h5⟩ := look_v h3 hl
      exact ⟨rfl, hc, dd, fs, v, hd, e1.s _ _ h1, h4, k v W1 H1 u e1 h5 q⟩, x⟩
end
/-- what is known of a class of errors whose field f is read -/
structure ErF (K : PySem.W.Frag) (C : Addr) (f : Str) : Prop where
  xf : XfC K C
  no : PySem.W.findIn K (.ref C) f = some none
/-! ### raise C(e), C's own __init__ keeps e under a name -/
def spXi (C : Addr) (f : Str) : Sp := fun vs H Q _ => ∃ a v, vs = [.ref a, v] ∧ H a = some (exo a C none) ∧ ∀ dx, H dx = none → dx ≠ a → Q .non (upd (upd H dx (exd dx [(f, v)])) a (exo a C (some dx)))
structure CalX (P : Program) (w : World) (K : PySem.W.Frag) (mg : Str → Option Value) (base : Heap) (x : Str) (C : Addr) (k : Nat) (f : Str) : Prop where
  o : OexC K C
  g : mg x = some (.ref C)
  ex : ∃ (fI : Addr) (fd : FuncData) (ps : List Str), PySem.W.findIn K (.ref C) "__init__" = some (some (.ref fI)) ∧ PySem.W.typeIn K (.ref fI) = some (.type "function") ∧ FnOk P w K mg base CX0 k fI fd ps (spXi C f) ∧ Binds K fd ps []
def sRaiseK (C : Addr) (f : Str) (F : FE) : FS := fun ρ De => F ρ (fun d => De.ex (.kept C [f] [d])) De.ex
section
variable {X : Cx} {K : PySem.W.Frag} {E : XK} {W0 H0 : Hp} {F : FE} {e : Expr} {x f : Str} {C : Addr} {k : Nat} {p pos pos' : Pos}
theorem mk_heap {H1 : Hp} {a dx C : Addr} {f : Str} {v : V} (ha : H1 a = none) (hd : dx ≠ a) : upd (del (upd (upd (upd H1 a (exo a C none)) dx (exd dx [(f, v)])) a (exo a C (some dx))) a) dx (.xd [(f, v)]) = upd H1 dx (.xd [(f, v)]) := by
  funext b
  by_cases e1 : b = dx
  · subst e1
    rw [upd_same, upd_same]
  · rw [upd_ne e1, upd_ne e1]
    by_cases e2 : b = a
    · subst e2
      rw [del_same, ha]
    · rw [del_ne e2, upd_ne e2, upd_ne e1, upd_ne e2]
theorem d_raiseK (c : CalX X.prog X.w X.K X.mg X.base x C k f) (hc : X.calm = true) (tk : Takes X (fun cls d _ H => E cls d H)) (hr : Room (k + 1) X.A) (hg : Gl X x) (he : PE X e (tD K E F)) (hK : X.K = K := by rfl) (hdb : (x == ("__debug__" : Str)) = false := by decide)
    (hs : starEach [e] X.env = (false, eval e X.env) :: starEach [] X.env := by rfl) (hpl : (backTo pos (starEach [] X.env)).any (·.1) = false := by rfl) : PS X (.Raise (some (.Call (.Name x p) [e] [] pos)) none pos') (tDS K W0 H0 E (sRaiseK C f F)) := by
  obtain ⟨fI, fd, ps, h1, h2, h3, h4⟩ := c.ex
  refine (ps_raise hc tk (pmk_oex c.o h1 h2 h3 hr h4 .nil pass0 hg c.g (pa_cons he pa_nil hs) hdb hs hpl)).mono fun D σ H ⟨W, ρ, De, s, q, o⟩ => ?_
  refine ⟨W0, H0, W, ρ, _, _, s, q, fun v W1 H1 d e1 r1 z => ⟨(show 1 ≤ 1000 by decide), fun a ha => ?_⟩, o.xc s⟩
  refine ⟨a, v, rfl, upd_same, fun dx hdx hne => ⟨rfl, dx, [(f, v)], upd_same, ?_, ?_, ?_⟩⟩
  · rw [upd_ne hne, upd_same]
  · rw [upd_ne hne] at hdx
    exact hdx
  · rw [mk_heap ha hne]
    have hdx' : H1 dx = none := by rw [upd_ne hne] at hdx; exact hdx
    have e2 := Ex.new (o := .xd [(f, v)]) e1.s hdx'
    exact o.ex _ _ _ _ _ ((s.ex.trans e1).trans e2) (.kept upd_same rfl (.one (r1.gx e2.w))) z
end
/-! ### classmethods, cls(..) -/
structure CalCm (P : Program) (w : World) (K : PySem.W.Frag) (mg : Str → Option Value) (base : Heap) (C : Addr) (m : Str) (k n : Nat) (g : Fn) : Prop where
  ex : ∃ (mc : Value) (p f : Addr), ClX.CRead K C mc ∧ ClX.CMet K C mc m p f ∧ FnR P w K mg base (L2.CX P w) k f (spD K n g)
section
variable {X : Cx} {K : PySem.W.Frag} {E : XK} {A : FA} {g : Fn} {o e : Expr} {es : List Expr} {x m y : Str} {C : Addr} {k n i : Nat} {p pos apos : Pos}
def fCmeth (C : Addr) (g : Fn) (n : Nat) (A : FA) : FE := fun ρ Q Z => A ρ (fun ds => ds.length + 1 = n ∧ g (.cls C :: ds) Q Z) Z
theorem d_cmeth {pl : Sem Bool} (c : CalCm X.prog X.w X.K X.mg X.base C m k n g) (hr : Room k X.A) (hx : Passes (L2.CX X.prog X.w) X E) (ho : PE X o (tC (.ref C))) (ha : PA X (e :: es) (tDA K E A)) (hK : X.K = K := by rfl)
    (hst : starEach (e :: es) X.env = (false, eval e X.env) :: starEach es X.env := by rfl) (hpl : (backTo pos (starEach es X.env)).any (·.1) = false := by rfl)
    (ht : eval (.Call (.Attribute o m apos) (e :: es) [] pos) X.env = (do
      let ov ← eval o X.env
      standAt apos.atName
      let (f, first) ← holding [ov] (getMethod ov m pl)
      callWith pos f first (backTo pos (starEach (e :: es) X.env)) (backToKw pos (keywordEach [] X.env))) := by rfl) : PE X (.Call (.Attribute o m apos) (e :: es) [] pos) (tD K E (fCmeth C g n A)) := by
  subst hK
  refine (pe_cmt (pl := pl) ho (⟨c.ex⟩ : CalK X.prog X.w X.K X.mg X.base (L2.CX X.prog X.w) C m k (spD X.K n g)) hr hx ha hst hpl ht).mono fun σ H Qh ⟨W0, H0, W, ρ, Q, Z, st, f, k, xc⟩ => ?_
  refine ⟨rfl, W0, H0, W, ρ, _, Z, st, f, fun vs W1 H1 ds e1 r ⟨hl, q⟩ => ?_, xc⟩
  exact ⟨W1, .cls C :: ds, Q, Z, e1.s, .cons (.cls C) r, by rw [List.length_cons]; exact hl, q, fun v W2 H2 d e2 r2 q2 => k v W2 H2 d (e1.trans e2) r2 q2, xc.ext e1⟩
def fMkL (i : Nat) (C : Addr) (g : Fn) (n : Nat) (A : FA) : FE := fun ρ Q Z => ρ[i]? = some (.val (.cls C)) ∧ A ρ (fun ds => ds.length = n ∧ g ds Q Z) Z
theorem d_mkL (c : CalI X.prog X.w X.K X.mg X.base y C k n g) (hr : Room (k + 1) X.A) (hN : X.N[i]? = some x) (hv : Vis X.env.scope x) (hx : Passes (L2.CX X.prog X.w) X E) (ha : PA X (e :: es) (tDA K E A)) (hK : X.K = K := by rfl)
    (hdb : (x == ("__debug__" : Str)) = false := by decide) (hcd : (x == ("__classdict__" : Str)) = false := by decide)
    (he : starEach (e :: es) X.env = (false, eval e X.env) :: starEach es X.env := by rfl) (hpl : (backTo pos (starEach es X.env)).any (·.1) = false := by rfl) : PE X (.Call (.Name x p) (e :: es) [] pos) (tD K E (fMkL i C g n A)) := by
  subst hK
  obtain ⟨f, fd, ps, M, F, hm, hb⟩ := c.ex
  refine (pe_mkL (i := i) (⟨f, fd, M, F, hm, hb⟩ : CalC X.prog X.w X.K X.mg X.base (L2.CX X.prog X.w) y C k ps (spI X.K C n g)) hr hN hv hx ha hdb hcd he hpl).mono fun σ H Qh ⟨W0, H0, W, ρ, Q, Z, st, ⟨hi, f⟩, k, xc⟩ => ?_
  obtain ⟨v, h1, h2⟩ := st.val hi
  cases h2
  exact ⟨h1, make_to ⟨W0, H0, W, ρ, Q, Z, st, f, k, xc⟩⟩
/-- repr(None), repr of a number -/
def rRepr : List V → Hp → VK → Prop := fun xs H Q => (xs = [.non] ∧ Q (.str "None") H) ∨ ∃ i : Int, xs = [.int i] ∧ i.natAbs.log2 < 1920 ∧ Q (.str (toString i)) H
theorem c_repr : CallR X (.builtin "repr") rRepr := by
  intro pins s σ H xs us Q I r h
  rcases h with ⟨rfl, q⟩ | ⟨i, rfl, hi, q⟩
  · obtain ⟨u, rfl, ru⟩ := vals1 r
    obtain rfl : u = Value.none := ru
    exact PySem.P.repr_of_none ⟨.str _, H, I.tok _, ⟨_, rfl⟩, q⟩
  · obtain ⟨u, rfl, ru⟩ := vals1 r
    obtain ⟨t, rfl⟩ := ru
    exact PySem.P.repr_of_int hi ⟨.str _, H, I.tok _, ⟨_, rfl⟩, q⟩
def RRepr (ds : List D) (Q : D → Prop) : Prop := (ds = [.non] ∧ Q (.str "None")) ∨ ∃ i : Int, ds = [.int i] ∧ i.natAbs.log2 < 1920 ∧ Q (.str (toString i))
theorem s_repr : CSnd K rRepr RRepr := fun W H xs ds Q Qh s rr h k => by
  rcases h with ⟨z, q⟩ | ⟨i, z, hi, q⟩
  · subst z
    obtain ⟨v, rfl, r⟩ := ts1 rr
    exact .inl ⟨by rw [r.non_inv], k _ W H _ (Ex.refl s) (.str _) q⟩
  · subst z
    obtain ⟨v, rfl, r⟩ := ts1 rr
    exact .inr ⟨i, by rw [r.int_inv], hi, k _ W H _ (Ex.refl s) (.str _) q⟩
end
end Pu

set_option Elab.async false
set_option maxRecDepth 100000
set_option linter.all false
/-! Pure layer: == and != by an own class. -/
namespace Pu
open PySem PySem.Spec PyProof.Rows L2 Ly
structure CalE (P : Program) (w : World) (K : PySem.W.Frag) (mg : Str → Option Value) (base : Heap) (C : Addr) (k : Nat) (g : Fn) : Prop where
  ex : ∃ ps, CalM P w K mg base (L2.CX P w) C "__eq__" k ps (spD K 2 g)
  ho : PySem.W.mroIn K C (.type "object") = some true
  hs : PySem.W.findIn K (.ref C) "__ne__" = some (some (.builtin "object.__ne__"))
section
variable {X : Cx} {K : PySem.W.Frag} {C : Addr} {k : Nat} {g : Fn}
def rMetD (K : PySem.W.Frag) (C : Addr) (g : Fn) (neg : Bool) : R2 := rMet C (spD K 2 g) E0 (blQ neg)
def RMetO (C : Addr) (g : Fn) (neg : Bool) : D → D → (D → Prop) → Prop := fun a b Q => (∃ ns ds, a = .obj C ns ds) ∧ (flD b = true ∨ ∃ ns ds, b = .obj C ns ds) ∧ g [a, b] (fun d => ∃ c, d = .bl c ∧ Q (.bl (neg != c))) F0
theorem op_eqM (c : CalE X.prog X.w X.K X.mg X.base C k g) (hr : Room (k + 1) X.A) (hK : X.K = K := by rfl) : OpR X (compareOp .Eq) (rMetD K C g false) := by
  subst hK
  obtain ⟨ps, M⟩ := c.ex
  exact op_eqO M (hr.mono (Nat.le_succ _)) passL
theorem op_neM (c : CalE X.prog X.w X.K X.mg X.base C k g) (hr : Room (k + 1) X.A) (hK : X.K = K := by rfl) : OpR X (compareOp .NotEq) (rMetD K C g true) := by
  subst hK
  obtain ⟨ps, M⟩ := c.ex
  exact op_neO M c.ho c.hs hr passL
theorem s_met {neg : Bool} : RSnd K (rMetD K C g neg) (RMetO C g neg) := fun W H x y a b Q Qh s r1 r2 ⟨⟨ns, ds, ha⟩, hb, q⟩ k => by
  subst ha
  obtain ⟨p, dx, fs, rfl, h2, h3, h4⟩ := r1.obj_inv s
  have hy : YOk C H y := by
    rcases hb with hb | ⟨ns, ds, hb⟩
    · exact .inr (flat_v (r2.full s) hb)
    · subst hb
      obtain ⟨p2, dx2, fs2, rfl, h5, _⟩ := r2.obj_inv s
      exact .inl ⟨_, _, _, rfl, h5⟩
  have fin : ∀ v W' H' d, Ex H H W' H' → Rep K W' v d → (∃ c, d = .bl c ∧ Q (.bl (neg != c))) → blQ neg Qh v H' := fun v W' H' d e r ⟨c, z, q2⟩ => by
    subst z
    cases r
    exact ⟨c, rfl, k _ W H' _ ⟨e.h, Gx.refl _, s.trans e.h, fun _ _ h => .inl h⟩ (.bl _) q2⟩
  exact ⟨p, dx, fs, rfl, h2, hy, H, [.obj C ns ds, b], _, _, Gx.refl _, .cons (r1.full s) (.cons (r2.full s) .nil), rfl, q, fin, fun _ _ _ _ _ _ _ z => z.elim⟩
end
end Pu

set_option Elab.async false
set_option maxRecDepth 100000
set_option linter.all false
/-! Pure layer: a list times a number; the script. -/
namespace Pu
open PySem PySem.Spec PyProof.Rows L2 Ly
section
variable {X : Cx} {K : PySem.W.Frag}
def RRep : D → D → (D → Prop) → Prop
  | .lst ds, .int k, Q => 0 ≤ k ∧ k < 2 ^ 63 ∧ ds.length * k.toNat ≤ sizeLine ∧ Q (.lst (List.replicate k.toNat ds).flatten)
  | _, _, _ => False
theorem rep_rep {W : Hp} {vs : List V} {ds : List D} (r : RepAll K W vs ds) : ∀ n : Nat, RepAll K W (List.replicate n vs).flatten (List.replicate n ds).flatten
  | 0 => .nil
  | n + 1 => by
    rw [List.replicate_succ, List.replicate_succ, List.flatten_cons, List.flatten_cons]
    exact r.app (rep_rep r n)
theorem s_rep : RSnd K rRep RRep := fun W H x y a b Q Qh s r1 r2 h k => by
  cases a <;> cases b <;> first
    | exact h.elim
    | skip
  obtain ⟨p, vs, e1, h1, h2, h3⟩ := r1.lst_inv s
  obtain ⟨hk, hk2, hl, q⟩ := h
  have e2 := r2.int_inv
  subst e1
  subst e2
  refine ⟨p, _, vs, rfl, rfl, h1, by omega, hk2, by rw [h2.len]; exact hl, fun l hl2 => ?_⟩
  have r3 := rep_rep h2
  refine k _ _ _ _ (Ex.new s hl2) (.lst upd_same ((r3 _).gx (Gx.new (s.free hl2))) ?_) q
  rw [List.length_flatten, List.map_replicate, h2.len]
  have e : ∀ (n m : Nat), (List.replicate n m).sum = m * n := fun n m => by
    induction n with
    | zero => simp
    | succ n ih => rw [List.replicate_succ, List.sum_cons, ih, Nat.mul_succ]; omega
  rw [e]
  exact hl
end
end Pu

set_option Elab.async false
set_option maxRecDepth 100000
set_option maxHeartbeats 1000000
set_option linter.all false
namespace K6
open PySem PySem.Spec PyProof.Rows L2 Ly Pu
def top (i : Nat) : Stmt := PySem.Challenge.pw_firstneed_k06_whole_terms_and_their_text.main.body.getD i (.Pass ⟨0, 0, 0, 0⟩)
structure Txt (K : PySem.W.Frag) (mg : Str → Option Value) : Prop where
  z_len : mg "len" = none
  z_int : mg "int" = none
  z_bool : mg "bool" = none
  z_str : mg "str" = none
  z_list : mg "list" = none
  z_tuple : mg "tuple" = none
  z_dict : mg "dict" = none
  z_abs : mg "abs" = none
  z_max : mg "max" = none
  z_min : mg "min" = none
  z_range : mg "range" = none
  z_repr : mg "repr" = none
  z_isinstance : mg "isinstance" = none
  z_all : mg "all" = none
  z_any : mg "any" = none
  z_sorted : mg "sorted" = none
  z_enumerate : mg "enumerate" = none
  z_iter : mg "iter" = none
  z_zip : mg "zip" = none
structure Adr where
  cTerm : Addr
  cNodes : Addr
  cReader : Addr
  cInvalidTerm : Addr
  cParseError : Addr
section
variable {P : Program} {w : World} {K : PySem.W.Frag} {mg : Str → Option Value} {base : Heap} {A : Adr}
def G_roll (K : PySem.W.Frag) (A : Adr) : Fn := FRoll
def G_pick (K : PySem.W.Frag) (A : Adr) : Fn := FPick
abbrev s_is_integer : Stmt := top 8
abbrev nm_is_integer : List Str := ["value"]
abbrev ps_is_integer : List Str := ["value"]
theorem sc_is_integer : FnScope nm_is_integer ps_is_integer (defScope s_is_integer) := ⟨rfl, rfl, rfl, by decide +kernel, rfl, by decide +kernel, by decide +kernel⟩
def S_is_integer (K : PySem.W.Frag) (A : Adr) : FS :=
  (sRet (fAndV (fIsi K "int" (fVarT 0)) (fAndV (fNotV (fIsi K "bool" (fVarT 0))) (fChain RLt RLt (fNeg (fC (.int 1000000000000000000000000000000000000000000000000000000000000))) (fVarT 0) (fC (.int 1000000000000000000000000000000000000000000000000000000000000))))))
def G_is_integer (K : PySem.W.Frag) (A : Adr) : Fn := fnS 1 (S_is_integer K A)
theorem ok_is_integer {f : Addr} {fd : FuncData} (F : Fun K "is_integer" "is_integer" s_is_integer f fd) (T : Txt K mg) {t_LONGEST : Tok} (g_LONGEST : mg "LONGEST" = some (.int (1000000000000000000000000000000000000000000000000000000000000) t_LONGEST)) : FnOk P w K mg base (L2.CX P w) 1 f fd ps_is_integer (spD K 1 (G_is_integer K A)) := by
  have nd := sc_is_integer.nd
  exact fn_d (k := 0) F sc_is_integer rfl (fun cdv Ar outer s H E W0 hr => (d_sone (d_ret (d_andV (d_isi (K := K) (by decide) rfl T.z_isinstance (d_varT (pv 0)) (pe_ty "int" (by rfl) T.z_int (by decide +kernel))) (d_andV (d_notV (d_isi (K := K) (by decide) rfl T.z_isinstance (d_varT (pv 0)) (pe_ty "bool" (by rfl) T.z_bool (by decide +kernel)))) (d_one (d_chain op_lt op_lt s_lt s_lt (d_t (d_neg (d_int (pe_gint rfl g_LONGEST)))) (d_varT (pv 0)) (d_t (d_int (pe_gint rfl g_LONGEST)))))))))) fun _ _ _ _ h => h
abbrev s_is_within : Stmt := top 9
abbrev nm_is_within : List Str := ["value", "least", "most"]
abbrev ps_is_within : List Str := ["value", "least", "most"]
theorem sc_is_within : FnScope nm_is_within ps_is_within (defScope s_is_within) := ⟨rfl, rfl, rfl, by decide +kernel, rfl, by decide +kernel, by decide +kernel⟩
def S_is_within (K : PySem.W.Frag) (A : Adr) : FS :=
  (sRet (fAndV (fCall (G_is_integer K A) 1 (fCons (fVar 0) fNil)) (fChain RLe RLe (fVarT 1) (fVarT 0) (fVarT 2))))
def G_is_within (K : PySem.W.Frag) (A : Adr) : Fn := fnS 3 (S_is_within K A)
theorem ok_is_within {f : Addr} {fd : FuncData} (F : Fun K "is_within" "is_within" s_is_within f fd) (T : Txt K mg) (C_is_integer : CalF P w K mg base "is_integer" 1 1 (G_is_integer K A)) : FnOk P w K mg base (L2.CX P w) 2 f fd ps_is_within (spD K 3 (G_is_within K A)) := by
  have nd := sc_is_within.nd
  exact fn_d (k := 1) F sc_is_within rfl (fun cdv Ar outer s H E W0 hr => (d_sone (d_ret (d_andV (d_call C_is_integer (hr.mono (by first | decide | omega)) rfl (passes_call (takes_of rfl rfl rfl rfl) fun _ _ _ _ h => h) (d_cons (d_var (pv 0)) d_nil)) (d_one (d_chain op_le op_le s_le s_le (d_varT (pv 1)) (d_varT (pv 0)) (d_varT (pv 2)))))))) fun _ _ _ _ h => h
abbrev s_is_word : Stmt := top 10
abbrev nm_is_word : List Str := ["value", "sign"]
abbrev ps_is_word : List Str := ["value"]
theorem sc_is_word : FnScope nm_is_word ps_is_word (defScope s_is_word) := ⟨rfl, rfl, rfl, by decide +kernel, rfl, by decide +kernel, by decide +kernel⟩
def S_is_word (K : PySem.W.Frag) (A : Adr) : FS :=
  (sRet (fAndV (fIsi K "str" (fVarT 0)) (fAndV (fChain RLe RLe (fC (.int 1)) (fCB RLen (fCons (fVarT 0) fNil)) (fC (.int 8))) (fCB RAll (fCons (fNew (fLc (fIt (fVarT 0)) (gN 1) fYes (fOp (RIn false) (fVarT 1) (fC (.str "abcdefghijklmnopqrstuvwxyz"))) [1])) fNil)))))
def G_is_word (K : PySem.W.Frag) (A : Adr) : Fn := fnS 2 (S_is_word K A)
theorem ok_is_word {f : Addr} {fd : FuncData} (F : Fun K "is_word" "is_word" s_is_word f fd) (T : Txt K mg) {t_LETTERS : Tok} (g_LETTERS : mg "LETTERS" = some (.str "abcdefghijklmnopqrstuvwxyz" t_LETTERS))
    {t_MAX_LETTERS : Tok} (g_MAX_LETTERS : mg "MAX_LETTERS" = some (.int (8) t_MAX_LETTERS)) : FnOk P w K mg base (L2.CX P w) 1 f fd ps_is_word (spD K 1 (G_is_word K A)) := by
  have nd := sc_is_word.nd
  exact fn_d (k := 0) F sc_is_word rfl (fun cdv Ar outer s H E W0 hr => (d_sone (d_ret (d_andV (d_isi (K := K) (by decide) rfl T.z_isinstance (d_varT (pv 0)) (pe_ty "str" (by rfl) T.z_str (by decide +kernel))) (d_andV (d_chain op_le op_le s_le s_le (d_t (d_int pe_int)) (d_t (d_cb (c_len (K := K)) s_len (by rfl) T.z_len (by decide +kernel) (d_consT (d_varT (pv 0)) d_nilT))) (d_t (d_int (pe_gint rfl g_MAX_LETTERS)))) (d_one (d_cb (kcr_all (K := K) rfl) s_all (by rfl) T.z_all (by decide +kernel) (d_consT (d_nt (d_lc (own := [("sign", 1)]) (by rfl) nd (d_itC (K := K) (d_varT (pv 0))) (blkOk_by (own := [("sign", 1)]) (N := nm_is_word) (sc := defScope s_is_word) (by decide +kernel)) (g_name (by decide)) (fun _ _ _ _ _ => (pg_name (i := 1) nd rfl (Or.inl rfl))) (fun _ _ _ _ _ => d_pts0) (fun _ _ _ _ _ => (d_cmp (op_inA (K := K) (hr65 hr)) s_in (d_varT (pv 1)) (d_t (d_str (pe_gstr rfl g_LETTERS))) rfl)))) d_nilT)))))))) fun _ _ _ _ h => h
abbrev s_is_node : Stmt := top 11
abbrev nm_is_node : List Str := ["value"]
abbrev ps_is_node : List Str := ["value"]
theorem sc_is_node : FnScope nm_is_node ps_is_node (defScope s_is_node) := ⟨rfl, rfl, rfl, by decide +kernel, rfl, by decide +kernel, by decide +kernel⟩
def S_is_node (K : PySem.W.Frag) (A : Adr) : FS :=
  (sSeq (sIf (fOr (fNot (fTst (fIsi K "tuple" (fVarT 0)))) (fOr (fTst (fOp RNe (fCB RLen (fCons (fVarT 0) fNil)) (fC (.int 2)))) (fNot (fTst (fCall (G_is_within K A) 3 (fCons (fOp RIx (fVarT 0) (fC (.int 1))) (fCons (fC (.int 0)) (fCons (fC (.int 3)) fNil)))))))) (sRet (fC (.bl false))) sNext)
      (sRet (fOrV (fCall (G_is_word K A) 1 (fCons (fOp RIx (fVarT 0) (fC (.int 0))) fNil)) (fAndV (fIsi K "str" (fOp RIx (fVarT 0) (fC (.int 0)))) (fAndV (fOp (RIn false) (fOp RIx (fVarT 0) (fC (.int 0))) (fTup (fCons (fC (.str "_")) (fCons (fC (.str "#")) fNil)))) (fOp REq (fOp RIx (fVarT 0) (fC (.int 1))) (fC (.int 0))))))))
def G_is_node (K : PySem.W.Frag) (A : Adr) : Fn := fnS 1 (S_is_node K A)
theorem ok_is_node {f : Addr} {fd : FuncData} (F : Fun K "is_node" "is_node" s_is_node f fd) (T : Txt K mg) {t_MAX_ARITY : Tok} (g_MAX_ARITY : mg "MAX_ARITY" = some (.int (3) t_MAX_ARITY))
    {t_LOST : Tok} (g_LOST : mg "LOST" = some (.str "#" t_LOST))
    {t_ANY : Tok} (g_ANY : mg "ANY" = some (.str "_" t_ANY))
    (C_is_within : CalF P w K mg base "is_within" 2 3 (G_is_within K A))
    (C_is_word : CalF P w K mg base "is_word" 1 1 (G_is_word K A)) : FnOk P w K mg base (L2.CX P w) 3 f fd ps_is_node (spD K 1 (G_is_node K A)) := by
  have nd := sc_is_node.nd
  exact fn_d (k := 2) F sc_is_node rfl (fun cdv Ar outer s H E W0 hr => (d_seq (d_ifs (PW.pt (d_or (d_not (d_test (d_isi (K := K) (by decide) rfl T.z_isinstance (d_varT (pv 0)) (pe_ty "tuple" (by rfl) T.z_tuple (by decide +kernel))))) (d_or (d_tcmp (op_neA (K := K) hr.units) s_ne (d_t (d_cb (c_len (K := K)) s_len (by rfl) T.z_len (by decide +kernel) (d_consT (d_varT (pv 0)) d_nilT))) (d_t (d_int pe_int)) (nomark _)) (d_or1 (d_not (d_test (d_call C_is_within (hr.mono (by first | decide | omega)) rfl (passes_call (takes_of rfl rfl rfl rfl) fun _ _ _ _ h => h) (d_cons (d_ix (ix_A (K := K)) s_ix (d_varT (pv 0)) (d_t (d_int pe_int)) (fun _ _ => rfl)) (d_cons (d_int pe_int) (d_cons (d_int (pe_gint rfl g_MAX_ARITY)) d_nil)))))))))) (d_sone (d_ret (d_bl pe_bl))) d_snil)
      (d_sone (d_ret (d_orV (d_call C_is_word (hr.mono (by first | decide | omega)) rfl (passes_call (takes_of rfl rfl rfl rfl) fun _ _ _ _ h => h) (d_cons (d_ix (ix_A (K := K)) s_ix (d_varT (pv 0)) (d_t (d_int pe_int)) (fun _ _ => rfl)) d_nil)) (d_one (d_andV (d_isi (K := K) (by decide) rfl T.z_isinstance (d_t (d_ix (ix_A (K := K)) s_ix (d_varT (pv 0)) (d_t (d_int pe_int)) (fun _ _ => rfl))) (pe_ty "str" (by rfl) T.z_str (by decide +kernel))) (d_andV (d_cmp (op_inA (K := K) (hr65 hr)) s_in (d_t (d_ix (ix_A (K := K)) s_ix (d_varT (pv 0)) (d_t (d_int pe_int)) (fun _ _ => rfl))) (d_t (d_tup (d_cons (d_str (pe_gstr rfl g_ANY)) (d_cons (d_str (pe_gstr rfl g_LOST)) d_nil)))) rfl) (d_one (d_cmp (op_eqA (K := K) hr.units) s_eq (d_t (d_ix (ix_A (K := K)) s_ix (d_varT (pv 0)) (d_t (d_int pe_int)) (fun _ _ => rfl))) (d_t (d_int pe_int)) (nomark _))))))))))) fun _ _ _ _ h => h
abbrev s_ascending_rows : Stmt := top 12
abbrev nm_ascending_rows : List Str := ["rows", "word"]
abbrev ps_ascending_rows : List Str := ["rows"]
theorem sc_ascending_rows : FnScope nm_ascending_rows ps_ascending_rows (defScope s_ascending_rows) := ⟨rfl, rfl, rfl, by decide +kernel, rfl, by decide +kernel, by decide +kernel⟩
def S_ascending_rows (K : PySem.W.Frag) (A : Adr) : FS :=
  (sRet (fDic (fDc (fIt (fNew (fCBN RSortS (fCons (fNew (fCBN RListD (fCons (fVarT 0) fNil))) fNil)))) (gN 1) fYes (fVar 1) (fGet (fVarT 0) (fVar 1)) [1])))
def G_ascending_rows (K : PySem.W.Frag) (A : Adr) : Fn := fnS 2 (S_ascending_rows K A)
theorem ok_ascending_rows {f : Addr} {fd : FuncData} (F : Fun K "ascending_rows" "ascending_rows" s_ascending_rows f fd) (T : Txt K mg)  : FnOk P w K mg base (L2.CX P w) 1 f fd ps_ascending_rows (spD K 1 (G_ascending_rows K A)) := by
  have nd := sc_ascending_rows.nd
  exact fn_d (k := 0) F sc_ascending_rows rfl (fun cdv Ar outer s H E W0 hr => (d_sone (d_ret (d_dd (d_dc (own := [("word", 1)]) (g_name (by decide)) (pe_dc (own := [("word", 1)]) (by rfl) nd (d_itC (K := K) (d_nt (d_cbN (kcr_sortedS (K := K)) s_sortS (by rfl) T.z_sorted (by decide +kernel) (d_consT (d_nt (d_ctN (c_listD rfl) s_listD (by rfl) T.z_list (by decide +kernel) (d_consT (d_varT (pv 0)) d_nilT))) d_nilT)))) (blkOk_by (own := [("word", 1)]) (N := nm_ascending_rows) (sc := defScope s_ascending_rows) (by decide +kernel)) (fun _ _ _ _ _ => (pg_name (i := 1) nd rfl (Or.inl rfl))) (fun _ _ _ _ _ => d_pts0) (fun _ _ _ _ _ => (d_var (pv 1))) (fun _ _ _ _ _ => (d_get (hr1 hr) (d_varT (pv 0)) (d_var (pv 1)) (fun _ _ => rfl))))))))) fun _ _ _ _ h => h
abbrev s_children_of : Stmt := top 22
abbrev nm_children_of : List Str := ["nodes", "found", "node", "waiting", "at", "cut"]
abbrev ps_children_of : List Str := ["nodes"]
theorem sc_children_of : FnScope nm_children_of ps_children_of (defScope s_children_of) := ⟨rfl, rfl, rfl, by decide +kernel, rfl, by decide +kernel, by decide +kernel⟩
def S_children_of (K : PySem.W.Frag) (A : Adr) : FS :=
  (sSeq (sNew 1 (fLc (fIt (fVarT 0)) (gN 2) fYes (fTup fNil) [2]))
      (sSeq (sAsg 3 (fNew (fLst fNil)))
      (sSeq (sFor (fRng3 (fCons (fOp RSub (fCB RLen (fCons (fVarT 0) fNil)) (fC (.int 1))) (fCons (fNeg (fC (.int 1))) (fCons (fNeg (fC (.int 1))) fNil)))) (gN 4) (sSeq (sAsg 5 (fOp RSub (fCB RLen (fCons (fVarT 3) fNil)) (fOp RIx (fOp RIx (fVarT 0) (fVarT 4)) (fC (.int 1)))))
      (sSeq (sIf (fTst (fOp RLt (fVarT 5) (fC (.int 0)))) (sRet (fC .non)) sNext)
      (sSeq (sPut 1 (fVar 4) (fCB RTuple (fCons (fNew (fRev (fSl (fVarT 3) (oAt (fVar 5)) oNo))) fNil)))
      (sAsg 3 (fNew (fLst (fStar (fSl (fVarT 3) oNo (oAt (fVar 5))) (fCons (fVar 4) fNil)))))))))
      (sDem 1 (sRet (fIf (fTst (fOp REq (fVarT 3) (fNew (fLst (fCons (fC (.int 0)) fNil))))) (fVar 1) (fC .non)))))))
def G_children_of (K : PySem.W.Frag) (A : Adr) : Fn := fnS 6 (S_children_of K A)
theorem ok_children_of {f : Addr} {fd : FuncData} (F : Fun K "children_of" "children_of" s_children_of f fd) (T : Txt K mg)  : FnOk P w K mg base (L2.CX P w) 1 f fd ps_children_of (spD K 1 (G_children_of K A)) := by
  have nd := sc_children_of.nd
  exact fn_d (k := 0) F sc_children_of rfl (fun cdv Ar outer s H E W0 hr => (d_seq (d_setLc (g_name (by decide)) (ps_setLc (i := 1) (own := [("node", 2)]) (by rfl) nd rfl rfl (sw_true rfl rfl rfl (by decide +kernel)) (d_itC (K := K) (d_varT (pv 0))) (blkOk_by (own := [("node", 2)]) (N := nm_children_of) (sc := defScope s_children_of) (by decide +kernel)) (fun _ _ _ _ _ => (pg_name (i := 2) nd rfl (Or.inl rfl))) (fun _ _ _ _ _ => d_pts0) (fun _ _ _ _ _ => (d_tup d_nil))))
      (d_seq (d_asg (d_n (d_lst d_nil)) (pg_name (i := 3) nd rfl (Or.inl rfl)))
      (d_seq (d_for (vs := [4]) (passes_of rfl) rfl (d_rng3 rfl T.z_range (d_cons (d_op op_sub s_sub (d_t (d_cb (c_len (K := K)) s_len (by rfl) T.z_len (by decide +kernel) (d_consT (d_varT (pv 0)) d_nilT))) (d_t (d_int pe_int))) (d_cons (d_neg (d_int pe_int)) (d_cons (d_neg (d_int pe_int)) d_nil)))) (pg_name (i := 4) nd rfl (Or.inl rfl)) (g_name (by decide)) (d_seq (d_asg (d_op op_sub s_sub (d_t (d_cb (c_len (K := K)) s_len (by rfl) T.z_len (by decide +kernel) (d_consT (d_varT (pv 3)) d_nilT))) (d_t (d_ix (ix_A (K := K)) s_ix (d_t (d_ix (ix_A (K := K)) s_ix (d_varT (pv 0)) (d_varT (pv 4)) (fun _ _ => rfl))) (d_t (d_int pe_int)) (fun _ _ => rfl)))) (pg_name (i := 5) nd rfl (Or.inl rfl)))
      (d_seq (d_ifs (d_tcmp op_lt s_lt (d_varT (pv 5)) (d_t (d_int pe_int)) (nomark _)) (d_sone (d_ret (d_non pe_non))) d_snil)
      (d_seq (d_put (ps_asg (d_ct (kcall_tuple (K := K)) s_tuple (by rfl) T.z_tuple (by decide +kernel) (d_consT (d_nt (d_rev (d_t (d_slice (K := K) (d_varT (pv 3)) (d_oat (d_var (pv 5))) d_ono)))) d_nilT)) (pg_sub (pv 1) (d_var (pv 4)) set_list)))
      (d_sone (d_asg (d_n (d_lst (d_star (d_t (d_slice (K := K) (d_varT (pv 3)) d_ono (d_oat (d_var (pv 5))))) (d_cons (d_var (pv 4)) d_nil)))) (pg_name (i := 3) nd rfl (Or.inl rfl))))))))
      (d_sone (d_dem 1 (d_ret (d_if (d_tcmp (op_eqA (K := K) hr.units) s_eq (d_varT (pv 3)) (d_nt (d_lst (d_cons (d_int pe_int) d_nil))) (nomark _)) (d_var (pv 1)) (d_non pe_non))))))))) fun _ _ _ _ h => h
abbrev s_ends_of : Stmt := top 23
abbrev nm_ends_of : List Str := ["children", "found", "at"]
abbrev ps_ends_of : List Str := ["children"]
theorem sc_ends_of : FnScope nm_ends_of ps_ends_of (defScope s_ends_of) := ⟨rfl, rfl, rfl, by decide +kernel, rfl, by decide +kernel, by decide +kernel⟩
def S_ends_of (K : PySem.W.Frag) (A : Adr) : FS :=
  (sSeq (sNew 1 (fLc (fRng1 (fCons (fCB RLen (fCons (fVarT 0) fNil)) fNil)) (gN 2) fYes (fOp RAdd (fVarT 2) (fC (.int 1))) [2]))
      (sSeq (sFor (fRng3 (fCons (fOp RSub (fCB RLen (fCons (fVarT 0) fNil)) (fC (.int 1))) (fCons (fNeg (fC (.int 1))) (fCons (fNeg (fC (.int 1))) fNil)))) (gN 2) (sIf (fTst (fOp RNe (fOp RIx (fVarT 0) (fVarT 2)) (fTup fNil))) (sPut 1 (fVar 2) (fOp RIx (fVarT 1) (fOp RIx (fOp RIx (fVarT 0) (fVarT 2)) (fNeg (fC (.int 1)))))) sNext))
      (sDem 1 (sRet (fVar 1)))))
def G_ends_of (K : PySem.W.Frag) (A : Adr) : Fn := fnS 3 (S_ends_of K A)
theorem ok_ends_of {f : Addr} {fd : FuncData} (F : Fun K "ends_of" "ends_of" s_ends_of f fd) (T : Txt K mg)  : FnOk P w K mg base (L2.CX P w) 1 f fd ps_ends_of (spD K 1 (G_ends_of K A)) := by
  have nd := sc_ends_of.nd
  exact fn_d (k := 0) F sc_ends_of rfl (fun cdv Ar outer s H E W0 hr => (d_seq (d_setLc (g_name (by decide)) (ps_setLc (i := 1) (own := [("at", 2)]) (by rfl) nd rfl rfl (sw_true rfl rfl rfl (by decide +kernel)) (d_fc (d_rng1 rfl T.z_range (d_cons (d_cb (c_len (K := K)) s_len (by rfl) T.z_len (by decide +kernel) (d_consT (d_varT (pv 0)) d_nilT)) d_nil))) (blkOk_by (own := [("at", 2)]) (N := nm_ends_of) (sc := defScope s_ends_of) (by decide +kernel)) (fun _ _ _ _ _ => (pg_name (i := 2) nd rfl (Or.inl rfl))) (fun _ _ _ _ _ => d_pts0) (fun _ _ _ _ _ => (d_op (op_addA (K := K)) s_add (d_varT (pv 2)) (d_t (d_int pe_int))))))
      (d_seq (d_for (vs := [2]) (passes_of rfl) rfl (d_rng3 rfl T.z_range (d_cons (d_op op_sub s_sub (d_t (d_cb (c_len (K := K)) s_len (by rfl) T.z_len (by decide +kernel) (d_consT (d_varT (pv 0)) d_nilT))) (d_t (d_int pe_int))) (d_cons (d_neg (d_int pe_int)) (d_cons (d_neg (d_int pe_int)) d_nil)))) (pg_name (i := 2) nd rfl (Or.inl rfl)) (g_name (by decide)) (d_sone (d_ifs (d_tcmp (op_neA (K := K) hr.units) s_ne (d_t (d_ix (ix_A (K := K)) s_ix (d_varT (pv 0)) (d_varT (pv 2)) (fun _ _ => rfl))) (d_t (d_tup d_nil)) (nomark _)) (d_sone (d_put (ps_asg (d_ix (ix_A (K := K)) s_ix (d_varT (pv 1)) (d_t (d_ix (ix_A (K := K)) s_ix (d_t (d_ix (ix_A (K := K)) s_ix (d_varT (pv 0)) (d_varT (pv 2)) (fun _ _ => rfl))) (d_t (d_neg (d_int pe_int))) (fun _ _ => rfl))) (fun _ _ => rfl)) (pg_sub (pv 1) (d_var (pv 2)) set_list)))) d_snil)))
      (d_sone (d_dem 1 (d_ret (d_var (pv 1)))))))) fun _ _ _ _ h => h
abbrev s_arities_in : Stmt := top 24
abbrev nm_arities_in : List Str := ["nodes", "found", "word", "arity"]
abbrev ps_arities_in : List Str := ["nodes"]
theorem sc_arities_in : FnScope nm_arities_in ps_arities_in (defScope s_arities_in) := ⟨rfl, rfl, rfl, by decide +kernel, rfl, by decide +kernel, by decide +kernel⟩
def S_arities_in (K : PySem.W.Frag) (A : Adr) : FS :=
  (sSeq (sNewD 1 fDic0)
      (sSeq (sFor (fIt (fVar 0)) (gT [2, 3]) (sSeq (sIf (fTst (fOp RNe (fGet2 (fVarT 1) (fVar 2) (fVar 3)) (fVarT 3))) (sRet (fC .non)) sNext)
      (sPutD 1 (fVar 2) (fVar 3))))
      (sDemD 1 (sRet (fCall (G_ascending_rows K A) 1 (fCons (fDic (fDc (fDw itemsD (fVar 1)) (gT [2, 3]) (fTst (fOp (RIn true) (fVarT 2) (fTup (fCons (fC (.str "_")) (fCons (fC (.str "#")) fNil))))) (fVar 2) (fVar 3) [2, 3])) fNil))))))
def G_arities_in (K : PySem.W.Frag) (A : Adr) : Fn := fnS 4 (S_arities_in K A)
theorem ok_arities_in {f : Addr} {fd : FuncData} (F : Fun K "arities_in" "arities_in" s_arities_in f fd) (T : Txt K mg) {t_LOST : Tok} (g_LOST : mg "LOST" = some (.str "#" t_LOST))
    {t_ANY : Tok} (g_ANY : mg "ANY" = some (.str "_" t_ANY))
    (C_ascending_rows : CalF P w K mg base "ascending_rows" 1 1 (G_ascending_rows K A)) : FnOk P w K mg base (L2.CX P w) 2 f fd ps_arities_in (spD K 1 (G_arities_in K A)) := by
  have nd := sc_arities_in.nd
  exact fn_d (k := 1) F sc_arities_in rfl (fun cdv Ar outer s H E W0 hr => (d_seq (d_newD (d_dic0 pe_dnewK) (pg_name (i := 1) nd rfl (Or.inl rfl)))
      (d_seq (d_for (vs := [2, 3]) (passes_of rfl) rfl (d_itF (K := K) (d_var (pv 0))) (kpg_tup (K := K) (n := 2) rfl (pgs_cons (pg_name (i := 2) nd rfl (Or.inl rfl)) (pgs_cons (pg_name (i := 3) nd rfl (Or.inl rfl)) pgs_nil))) (g_pair (by decide) (by decide)) (d_seq (d_ifs (d_tcmp (op_neA (K := K) hr.units) s_ne (d_t (d_get2 (hr1 hr) (d_varT (pv 1)) (d_var (pv 2)) (d_var (pv 3)) ⟨rfl, rfl, rfl, rfl⟩)) (d_varT (pv 3)) (nomark _)) (d_sone (d_ret (d_non pe_non))) d_snil)
      (d_sone (d_putD (ps_dput (hr1 hr) (pv 1) (d_var (pv 2)) (d_var (pv 3)) rfl)))))
      (d_sone (d_demD 1 (d_ret (d_call C_ascending_rows (hr.mono (by first | decide | omega)) rfl (passes_call (takes_of rfl rfl rfl rfl) fun _ _ _ _ h => h) (d_cons (d_dd (d_dcw (own := [("word", 2), ("arity", 3)]) stat_var dw_items (g_pair (by decide) (by decide)) (pe_dc (own := [("word", 2), ("arity", 3)]) (by rfl) nd (pi_items (pv 1)) (blkOk_by (own := [("word", 2), ("arity", 3)]) (N := nm_arities_in) (sc := defScope s_arities_in) (by decide +kernel)) (fun _ _ _ _ _ => (kpg_tup (K := K) (n := 2) rfl (pgs_cons (pg_name (i := 2) nd rfl (Or.inl rfl)) (pgs_cons (pg_name (i := 3) nd rfl (Or.inl rfl)) pgs_nil)))) (fun _ _ _ _ _ => (d_pts1 (d_tcmp (op_notInA (K := K) (hr65 hr)) s_notIn (d_varT (pv 2)) (d_t (d_tup (d_cons (d_str (pe_gstr rfl g_ANY)) (d_cons (d_str (pe_gstr rfl g_LOST)) d_nil)))) rfl))) (fun _ _ _ _ _ => (d_var (pv 2))) (fun _ _ _ _ _ => (d_var (pv 3)))))) d_nil)))))))) fun _ _ _ _ h => h
abbrev s_is_term_row : Stmt := top 25
abbrev nm_is_term_row : List Str := ["value", "node"]
abbrev ps_is_term_row : List Str := ["value"]
theorem sc_is_term_row : FnScope nm_is_term_row ps_is_term_row (defScope s_is_term_row) := ⟨rfl, rfl, rfl, by decide +kernel, rfl, by decide +kernel, by decide +kernel⟩
def S_is_term_row (K : PySem.W.Frag) (A : Adr) : FS :=
  (sSeq (sIf (fOr (fNot (fTst (fIsi K "tuple" (fVarT 0)))) (fOr (fNot (fTst (fChain RLe RLe (fC (.int 1)) (fCB RLen (fCons (fVarT 0) fNil)) (fC (.int 40))))) (fNot (fTst (fCB RAll (fCons (fNew (fLc (fIt (fVarT 0)) (gN 1) fYes (fCall (G_is_node K A) 1 (fCons (fVar 1) fNil)) [1])) fNil)))))) (sRet (fC (.bl false))) sNext)
      (sRet (fAndV (fOp RNotN (fCall (G_children_of K A) 1 (fCons (fVar 0) fNil)) (fC .non)) (fOp RNotN (fCall (G_arities_in K A) 1 (fCons (fVar 0) fNil)) (fC .non)))))
def G_is_term_row (K : PySem.W.Frag) (A : Adr) : Fn := fnS 2 (S_is_term_row K A)
theorem ok_is_term_row {f : Addr} {fd : FuncData} (F : Fun K "is_term_row" "is_term_row" s_is_term_row f fd) (T : Txt K mg) {t_MAX_NODES : Tok} (g_MAX_NODES : mg "MAX_NODES" = some (.int (40) t_MAX_NODES))
    (C_is_node : CalF P w K mg base "is_node" 3 1 (G_is_node K A))
    (C_arities_in : CalF P w K mg base "arities_in" 2 1 (G_arities_in K A))
    (C_children_of : CalF P w K mg base "children_of" 1 1 (G_children_of K A)) : FnOk P w K mg base (L2.CX P w) 4 f fd ps_is_term_row (spD K 1 (G_is_term_row K A)) := by
  have nd := sc_is_term_row.nd
  exact fn_d (k := 3) F sc_is_term_row rfl (fun cdv Ar outer s H E W0 hr => (d_seq (d_ifs (PW.pt (d_or (d_not (d_test (d_isi (K := K) (by decide) rfl T.z_isinstance (d_varT (pv 0)) (pe_ty "tuple" (by rfl) T.z_tuple (by decide +kernel))))) (d_or (d_not (d_tchain op_le op_le s_le s_le (d_t (d_int pe_int)) (d_t (d_cb (c_len (K := K)) s_len (by rfl) T.z_len (by decide +kernel) (d_consT (d_varT (pv 0)) d_nilT))) (d_t (d_int (pe_gint rfl g_MAX_NODES))))) (d_or1 (d_not (d_test (d_cb (kcr_all (K := K) rfl) s_all (by rfl) T.z_all (by decide +kernel) (d_consT (d_nt (d_lc (own := [("node", 1)]) (by rfl) nd (d_itC (K := K) (d_varT (pv 0))) (blkOk_by (own := [("node", 1)]) (N := nm_is_term_row) (sc := defScope s_is_term_row) (by decide +kernel)) (g_name (by decide)) (fun _ _ _ _ _ => (pg_name (i := 1) nd rfl (Or.inl rfl))) (fun _ _ _ _ _ => d_pts0) (fun _ _ _ _ _ => (d_call C_is_node (hr.mono (by first | decide | omega)) rfl passL (d_cons (d_var (pv 1)) d_nil))))) d_nilT)))))))) (d_sone (d_ret (d_bl pe_bl))) d_snil)
      (d_sone (d_ret (d_andV (d_cmp op_notN s_notN (d_t (d_call C_children_of (hr.mono (by first | decide | omega)) rfl (passes_call (takes_of rfl rfl rfl rfl) fun _ _ _ _ h => h) (d_cons (d_var (pv 0)) d_nil))) (d_t (d_non pe_non)) (nomark _)) (d_one (d_cmp op_notN s_notN (d_t (d_call C_arities_in (hr.mono (by first | decide | omega)) rfl (passes_call (takes_of rfl rfl rfl rfl) fun _ _ _ _ h => h) (d_cons (d_var (pv 0)) d_nil))) (d_t (d_non pe_non)) (nomark _)))))))) fun _ _ _ _ h => h
abbrev s_text_of : Stmt := top 26
abbrev nm_text_of : List Str := ["nodes", "children", "at", "child"]
abbrev ps_text_of : List Str := ["nodes", "children", "at"]
theorem sc_text_of : FnScope nm_text_of ps_text_of (defScope s_text_of) := ⟨rfl, rfl, rfl, by decide +kernel, rfl, by decide +kernel, by decide +kernel⟩
def S_text_of (K : PySem.W.Frag) (A : Adr) (rec : Fn) : FS :=
  (sSeq (sIf (fTst (fOp REq (fOp RIx (fVarT 1) (fVarT 2)) (fTup fNil))) (sRet (fOp RIx (fOp RIx (fVarT 0) (fVarT 2)) (fC (.int 0)))) sNext)
      (sRet (fOp RAdd (fOp RAdd (fOp RAdd (fOp RIx (fOp RIx (fVarT 0) (fVarT 2)) (fC (.int 0))) (fC (.str "("))) (fJoin (fC (.str ", ")) (fNew (fLc (fIt (fOp RIx (fVarT 1) (fVarT 2))) (gN 3) fYes (fCall rec 3 (fCons (fVar 0) (fCons (fVar 1) (fCons (fVar 3) fNil)))) [3])))) (fC (.str ")")))))
def G_text_of (K : PySem.W.Frag) (A : Adr) : Nat → Fn
  | 0 => fun _ _ _ => False
  | k + 1 => fnS 4 (S_text_of K A (G_text_of K A k))
theorem ok_text_of {f : Addr} {fd : FuncData} (F : Fun K "text_of" "text_of" s_text_of f fd) (T : Txt K mg) 
    (hm : mg "text_of" = some (.ref f)) (hk : PySem.W.keepIn K (.ref f) = true) (hb : Binds K fd ps_text_of []) : ∀ j : Nat, FnOk P w K mg base (L2.CX P w) (0 + j) f fd ps_text_of (spD K 3 (G_text_of K A j))
  | 0 => ⟨fun vs H Q E ⟨_, _, _, _, _, _, _, z, _⟩ => z.elim, fun _ _ _ _ _ _ _ _ _ _ _ _ _ ⟨_, _, _, _, _, _, _, z, _⟩ => z.elim⟩
  | j + 1 => by
    have nd := sc_text_of.nd
    have rec_ : CalF P w K mg base "text_of" (0 + j) 3 (G_text_of K A j) := ⟨f, fd, ps_text_of, ok_text_of F T  hm hk hb j, hm, hk, hb⟩
    exact fn_d (k := 0 + j) F sc_text_of rfl (fun cdv Ar outer s H E W0 hr => (d_seq (d_ifs (d_tcmp (op_eqA (K := K) hr.units) s_eq (d_t (d_ix (ix_A (K := K)) s_ix (d_varT (pv 1)) (d_varT (pv 2)) (fun _ _ => rfl))) (d_t (d_tup d_nil)) (nomark _)) (d_sone (d_ret (d_ix (ix_A (K := K)) s_ix (d_t (d_ix (ix_A (K := K)) s_ix (d_varT (pv 0)) (d_varT (pv 2)) (fun _ _ => rfl))) (d_t (d_int pe_int)) (fun _ _ => rfl)))) d_snil)
      (d_sone (d_ret (d_op (op_addA (K := K)) s_add (d_t (d_op (op_addA (K := K)) s_add (d_t (d_op (op_addA (K := K)) s_add (d_t (d_ix (ix_A (K := K)) s_ix (d_t (d_ix (ix_A (K := K)) s_ix (d_varT (pv 0)) (d_varT (pv 2)) (fun _ _ => rfl))) (d_t (d_int pe_int)) (fun _ _ => rfl))) (d_t (d_str pe_str)))) (d_t (d_join (K := K) (d_str pe_str) (d_nt (d_lc (own := [("child", 3)]) (by rfl) nd (d_itC (K := K) (d_t (d_ix (ix_A (K := K)) s_ix (d_varT (pv 1)) (d_varT (pv 2)) (fun _ _ => rfl)))) (blkOk_by (own := [("child", 3)]) (N := nm_text_of) (sc := defScope s_text_of) (by decide +kernel)) (g_name (by decide)) (fun _ _ _ _ _ => (pg_name (i := 3) nd rfl (Or.inl rfl))) (fun _ _ _ _ _ => d_pts0) (fun _ _ _ _ _ => (d_call rec_ (hr.mono (by first | decide | omega)) rfl passL (d_cons (d_var (pv 0)) (d_cons (d_var (pv 1)) (d_cons (d_var (pv 3)) d_nil))))))))))) (d_t (d_str pe_str))))))) fun _ _ _ _ h => h
abbrev s_places_with : Stmt := top 34
abbrev nm_places_with : List Str := ["nodes", "word", "at", "node"]
abbrev ps_places_with : List Str := ["nodes", "word"]
theorem sc_places_with : FnScope nm_places_with ps_places_with (defScope s_places_with) := ⟨rfl, rfl, rfl, by decide +kernel, rfl, by decide +kernel, by decide +kernel⟩
def S_places_with (K : PySem.W.Frag) (A : Adr) : FS :=
  (sRet (fCB RTuple (fCons (fNew (fLc (fEnum (fCons (fVar 0) fNil)) (gT [2, 3]) (fTst (fOp REq (fOp RIx (fVarT 3) (fC (.int 0))) (fVarT 1))) (fVar 2) [2, 3])) fNil)))
def G_places_with (K : PySem.W.Frag) (A : Adr) : Fn := fnS 4 (S_places_with K A)
theorem ok_places_with {f : Addr} {fd : FuncData} (F : Fun K "places_with" "places_with" s_places_with f fd) (T : Txt K mg)  : FnOk P w K mg base (L2.CX P w) 1 f fd ps_places_with (spD K 2 (G_places_with K A)) := by
  have nd := sc_places_with.nd
  exact fn_d (k := 0) F sc_places_with rfl (fun cdv Ar outer s H E W0 hr => (d_sone (d_ret (d_ct (kcall_tuple (K := K)) s_tuple (by rfl) T.z_tuple (by decide +kernel) (d_consT (d_nt (d_lc (own := [("at", 2), ("node", 3)]) (by rfl) nd (d_fc (d_enum rfl T.z_enumerate (d_cons (d_var (pv 0)) d_nil))) (blkOk_by (own := [("at", 2), ("node", 3)]) (N := nm_places_with) (sc := defScope s_places_with) (by decide +kernel)) (g_pair (by decide) (by decide)) (fun _ _ _ _ _ => (kpg_tup (K := K) (n := 2) rfl (pgs_cons (pg_name (i := 2) nd rfl (Or.inl rfl)) (pgs_cons (pg_name (i := 3) nd rfl (Or.inl rfl)) pgs_nil)))) (fun _ _ _ _ _ => (d_pts1 (d_tcmp (op_eqA (K := K) hr.units) s_eq (d_t (d_ix (ix_A (K := K)) s_ix (d_varT (pv 3)) (d_t (d_int pe_int)) (fun _ _ => rfl))) (d_varT (pv 1)) (nomark _)))) (fun _ _ _ _ _ => (d_var (pv 2))))) d_nilT))))) fun _ _ _ _ h => h
abbrev s_tokens_of : Stmt := top 27
abbrev nm_tokens_of : List Str := ["text", "found", "at", "size"]
abbrev ps_tokens_of : List Str := ["text"]
theorem sc_tokens_of : FnScope nm_tokens_of ps_tokens_of (defScope s_tokens_of) := ⟨rfl, rfl, rfl, by decide +kernel, rfl, by decide +kernel, by decide +kernel⟩
def S_tokens_of (K : PySem.W.Frag) (A : Adr) : FS :=
  (sSeq (sNew 1 (fLst fNil))
      (sSeq (sAsg 2 (fC (.int 0)))
      (sSeq (sWhile (fTst (fOp RLt (fVarT 2) (fCB RLen (fCons (fVarT 0) fNil)))) (sSeq (sAsg 3 (fC (.int 1)))
      (sSeq (sIf (fTst (fOp (RIn false) (fOp RIx (fVarT 0) (fVarT 2)) (fC (.str "abcdefghijklmnopqrstuvwxyz")))) (sWhile (fAnd (fTst (fOp RNe (fSl (fVarT 0) (oAt (fOp RAdd (fVarT 2) (fVarT 3))) (oAt (fOp RAdd (fOp RAdd (fVarT 2) (fVarT 3)) (fC (.int 1))))) (fC (.str "")))) (fTst (fOp (RIn false) (fOp RIx (fVarT 0) (fOp RAdd (fVarT 2) (fVarT 3))) (fC (.str "abcdefghijklmnopqrstuvwxyz"))))) (sAsg 3 (fOp RAdd (fVarT 3) (fC (.int 1))))) (sIf (fTst (fOp REq (fSl (fVarT 0) (oAt (fVar 2)) (oAt (fOp RAdd (fVarT 2) (fC (.int 2))))) (fC (.str ", ")))) (sAsg 3 (fC (.int 2))) (sIf (fTst (fOp (RIn true) (fOp RIx (fVarT 0) (fVarT 2)) (fC (.str "_#()")))) (sRet (fC .non)) sNext)))
      (sSeq (sApp 1 (fSl (fVarT 0) (oAt (fVar 2)) (oAt (fOp RAdd (fVarT 2) (fVarT 3)))))
      (sAsg 2 (fOp RAdd (fVarT 2) (fVarT 3)))))))
      (sDem 1 (sRet (fVar 1))))))
def G_tokens_of (K : PySem.W.Frag) (A : Adr) : Fn := fnS 4 (S_tokens_of K A)
theorem ok_tokens_of {f : Addr} {fd : FuncData} (F : Fun K "tokens_of" "tokens_of" s_tokens_of f fd) (T : Txt K mg) {t_LETTERS : Tok} (g_LETTERS : mg "LETTERS" = some (.str "abcdefghijklmnopqrstuvwxyz" t_LETTERS))
    {t_SIGNS : Tok} (g_SIGNS : mg "SIGNS" = some (.str "_#()" t_SIGNS)) : FnOk P w K mg base (L2.CX P w) 1 f fd ps_tokens_of (spD K 1 (G_tokens_of K A)) := by
  have nd := sc_tokens_of.nd
  exact fn_d (k := 0) F sc_tokens_of rfl (fun cdv Ar outer s H E W0 hr => (d_seq (d_new (d_lst d_nil) (pg_name (i := 1) nd rfl (Or.inl rfl)))
      (d_seq (d_asg (d_int pe_int) (pg_name (i := 2) nd rfl (Or.inl rfl)))
      (d_seq (d_while (passes_of rfl) (d_tcmp op_lt s_lt (d_varT (pv 2)) (d_t (d_cb (c_len (K := K)) s_len (by rfl) T.z_len (by decide +kernel) (d_consT (d_varT (pv 0)) d_nilT))) (nomark _)) (d_seq (d_asg (d_int pe_int) (pg_name (i := 3) nd rfl (Or.inl rfl)))
      (d_seq (d_ifs (d_tcmp (op_inA (K := K) (hr65 hr)) s_in (d_t (d_ix (ix_A (K := K)) s_ix (d_varT (pv 0)) (d_varT (pv 2)) (fun _ _ => rfl))) (d_t (d_str (pe_gstr rfl g_LETTERS))) rfl) (d_sone (d_while (passes_of rfl) (PW.pt (d_and (d_tcmp (op_neA (K := K) hr.units) s_ne (d_t (d_slice (K := K) (d_varT (pv 0)) (d_oat (d_op (op_addA (K := K)) s_add (d_varT (pv 2)) (d_varT (pv 3)))) (d_oat (d_op (op_addA (K := K)) s_add (d_t (d_op (op_addA (K := K)) s_add (d_varT (pv 2)) (d_varT (pv 3)))) (d_t (d_int pe_int)))))) (d_t (d_str pe_str)) (nomark _)) (d_and1 (d_tcmp (op_inA (K := K) (hr65 hr)) s_in (d_t (d_ix (ix_A (K := K)) s_ix (d_varT (pv 0)) (d_t (d_op (op_addA (K := K)) s_add (d_varT (pv 2)) (d_varT (pv 3)))) (fun _ _ => rfl))) (d_t (d_str (pe_gstr rfl g_LETTERS))) rfl)))) (d_sone (d_asg (d_op (op_addA (K := K)) s_add (d_varT (pv 3)) (d_t (d_int pe_int))) (pg_name (i := 3) nd rfl (Or.inl rfl)))))) (d_sone (d_ifs (d_tcmp (op_eqA (K := K) hr.units) s_eq (d_t (d_slice (K := K) (d_varT (pv 0)) (d_oat (d_var (pv 2))) (d_oat (d_op (op_addA (K := K)) s_add (d_varT (pv 2)) (d_t (d_int pe_int)))))) (d_t (d_str pe_str)) (nomark _)) (d_sone (d_asg (d_int pe_int) (pg_name (i := 3) nd rfl (Or.inl rfl)))) (d_sone (d_ifs (d_tcmp (op_notInA (K := K) (hr65 hr)) s_notIn (d_t (d_ix (ix_A (K := K)) s_ix (d_varT (pv 0)) (d_varT (pv 2)) (fun _ _ => rfl))) (d_t (d_str (pe_gstr rfl g_SIGNS))) rfl) (d_sone (d_ret (d_non pe_non))) d_snil)))))
      (d_seq (d_app (ps_expr (kpe_bm (K := K) PySem.F.plainAttrs_list PySem.F.slot_list_append PySem.F.type_list_append mt_append (pv 1) (pa_cons (d_slice (K := K) (d_varT (pv 0)) (d_oat (d_var (pv 2))) (d_oat (d_op (op_addA (K := K)) s_add (d_varT (pv 2)) (d_varT (pv 3))))) pa_nil))))
      (d_sone (d_asg (d_op (op_addA (K := K)) s_add (d_varT (pv 2)) (d_varT (pv 3))) (pg_name (i := 2) nd rfl (Or.inl rfl))))))))
      (d_sone (d_dem 1 (d_ret (d_var (pv 1))))))))) fun _ _ _ _ h => h
abbrev s_Nodes_init : Stmt := inClass (top 31) 0
abbrev nm_Nodes_init : List Str := ["self", "nodes"]
abbrev ps_Nodes_init : List Str := ["self", "nodes"]
theorem sc_Nodes_init : FnScope nm_Nodes_init ps_Nodes_init (defScope s_Nodes_init) := ⟨rfl, rfl, rfl, by decide +kernel, rfl, by decide +kernel, by decide +kernel⟩
def S_Nodes_init (K : PySem.W.Frag) (A : Adr) : FS :=
  (sFldS K 0 "told_nodes" (fVar 1))
def G_Nodes_init (K : PySem.W.Frag) (A : Adr) : Fn := fnI A.cNodes 2 (S_Nodes_init K A)
theorem ok_Nodes_init {f : Addr} {fd : FuncData} (F : Fun K "__init__" "Nodes.__init__" s_Nodes_init f fd) (T : Txt K mg)  : FnOk P w K mg base (L2.CX P w) 1 f fd ps_Nodes_init (spI K A.cNodes 1 (G_Nodes_init K A)) := by
  have nd := sc_Nodes_init.nd
  exact fn_i (k := 0) F sc_Nodes_init rfl (by decide) (fun cdv Ar outer s H E W0 H0 hr => (d_sone (d_fldS (kps_fld (K := K) (pv 0) (d_var (pv 1)) rfl)))) fun _ _ _ _ h => h
abbrev s_Term_init : Stmt := inClass (top 33) 0
abbrev nm_Term_init : List Str := ["self", "nodes"]
abbrev ps_Term_init : List Str := ["self", "nodes"]
theorem sc_Term_init : FnScope nm_Term_init ps_Term_init (defScope s_Term_init) := ⟨rfl, rfl, rfl, by decide +kernel, rfl, by decide +kernel, by decide +kernel⟩
def S_Term_init (K : PySem.W.Frag) (A : Adr) : FS :=
  (sSeq (sIf (fTst (fIsc K A.cNodes (fVarT 1))) (sFldS K 0 "own_nodes" (fFld K "told_nodes" (fVarT 1))) (sIf (fNot (fTst (fCall (G_is_term_row K A) 1 (fCons (fVar 1) fNil)))) (sRaise A.cInvalidTerm) (sFldS K 0 "own_nodes" (fVar 1))))
      (sSeq (sFldS K 0 "own_children" (fCB RTuple (fCons (fCall (G_children_of K A) 1 (fCons (fFld K "own_nodes" (fVarT 0)) fNil)) fNil)))
      (sSeq (sFldS K 0 "own_ends" (fCB RTuple (fCons (fCall (G_ends_of K A) 1 (fCons (fFld K "own_children" (fVarT 0)) fNil)) fNil)))
      (sSeq (sFldS K 0 "own_symbols" (fCall (G_arities_in K A) 1 (fCons (fFld K "own_nodes" (fVarT 0)) fNil)))
      (sSeq (sFldS K 0 "own_unknown" (fCall (G_places_with K A) 2 (fCons (fFld K "own_nodes" (fVarT 0)) (fCons (fC (.str "_")) fNil))))
      (sFldS K 0 "own_lost" (fCall (G_places_with K A) 2 (fCons (fFld K "own_nodes" (fVarT 0)) (fCons (fC (.str "#")) fNil)))))))))
def G_Term_init (K : PySem.W.Frag) (A : Adr) : Fn := fnI A.cTerm 2 (S_Term_init K A)
theorem ok_Term_init {f : Addr} {fd : FuncData} (F : Fun K "__init__" "Term.__init__" s_Term_init f fd) (T : Txt K mg) {t_ANY : Tok} (g_ANY : mg "ANY" = some (.str "_" t_ANY))
    {t_LOST : Tok} (g_LOST : mg "LOST" = some (.str "#" t_LOST))
    (C_is_term_row : CalF P w K mg base "is_term_row" 4 1 (G_is_term_row K A))
    (C_children_of : CalF P w K mg base "children_of" 1 1 (G_children_of K A))
    (C_ends_of : CalF P w K mg base "ends_of" 1 1 (G_ends_of K A))
    (C_arities_in : CalF P w K mg base "arities_in" 2 1 (G_arities_in K A))
    (C_places_with : CalF P w K mg base "places_with" 1 2 (G_places_with K A))
    (g_Nodes : mg "Nodes" = some (.ref A.cNodes))
    (E_InvalidTerm : ExC K mg "InvalidTerm" A.cInvalidTerm) : FnOk P w K mg base (L2.CX P w) 5 f fd ps_Term_init (spI K A.cTerm 1 (G_Term_init K A)) := by
  have nd := sc_Term_init.nd
  exact fn_i (k := 4) F sc_Term_init rfl (by decide) (fun cdv Ar outer s H E W0 H0 hr => (d_seq (d_ifs (d_test (d_isc (K := K) rfl T.z_isinstance (d_varT (pv 1)) (pe_gref rfl g_Nodes))) (d_sone (d_fldS (kps_fld (K := K) (pv 0) (d_fld (K := K) (d_varT (pv 1)) rfl) rfl))) (d_sone (d_ifs (d_not (d_test (d_call C_is_term_row (hr.mono (by first | decide | omega)) rfl (passes_call (takes_of rfl rfl rfl rfl) fun _ _ _ _ h => h) (d_cons (d_var (pv 1)) d_nil)))) (d_sone (d_raise (ps_raise rfl (takes_of rfl rfl rfl rfl) (pmk_own PySem.F.excBase_ValueError E_InvalidTerm.x E_InvalidTerm.g E_InvalidTerm.k (raises_own E_InvalidTerm.b E_InvalidTerm.t) (by rfl))))) (d_sone (d_fldS (kps_fld (K := K) (pv 0) (d_var (pv 1)) rfl))))))
      (d_seq (d_fldS (kps_fld (K := K) (pv 0) (d_ct (kcall_tuple (K := K)) s_tuple (by rfl) T.z_tuple (by decide +kernel) (d_consT (d_t (d_call C_children_of (hr.mono (by first | decide | omega)) rfl (passes_call (takes_of rfl rfl rfl rfl) fun _ _ _ _ h => h) (d_cons (d_fld (K := K) (d_varT (pv 0)) rfl) d_nil))) d_nilT)) rfl))
      (d_seq (d_fldS (kps_fld (K := K) (pv 0) (d_ct (kcall_tuple (K := K)) s_tuple (by rfl) T.z_tuple (by decide +kernel) (d_consT (d_t (d_call C_ends_of (hr.mono (by first | decide | omega)) rfl (passes_call (takes_of rfl rfl rfl rfl) fun _ _ _ _ h => h) (d_cons (d_fld (K := K) (d_varT (pv 0)) rfl) d_nil))) d_nilT)) rfl))
      (d_seq (d_fldS (kps_fld (K := K) (pv 0) (d_call C_arities_in (hr.mono (by first | decide | omega)) rfl (passes_call (takes_of rfl rfl rfl rfl) fun _ _ _ _ h => h) (d_cons (d_fld (K := K) (d_varT (pv 0)) rfl) d_nil)) rfl))
      (d_seq (d_fldS (kps_fld (K := K) (pv 0) (d_call C_places_with (hr.mono (by first | decide | omega)) rfl (passes_call (takes_of rfl rfl rfl rfl) fun _ _ _ _ h => h) (d_cons (d_fld (K := K) (d_varT (pv 0)) rfl) (d_cons (d_str (pe_gstr rfl g_ANY)) d_nil))) rfl))
      (d_sone (d_fldS (kps_fld (K := K) (pv 0) (d_call C_places_with (hr.mono (by first | decide | omega)) rfl (passes_call (takes_of rfl rfl rfl rfl) fun _ _ _ _ h => h) (d_cons (d_fld (K := K) (d_varT (pv 0)) rfl) (d_cons (d_str (pe_gstr rfl g_LOST)) d_nil))) rfl))))))))) fun _ _ _ _ h => h
abbrev s_Term_text : Stmt := inClass (top 33) 4
abbrev nm_Term_text : List Str := ["self"]
abbrev ps_Term_text : List Str := ["self"]
theorem sc_Term_text : FnScope nm_Term_text ps_Term_text (defScope s_Term_text) := ⟨rfl, rfl, rfl, by decide +kernel, rfl, by decide +kernel, by decide +kernel⟩
def S_Term_text (K : PySem.W.Frag) (A : Adr) : FS :=
  (sRet (fCall (G_text_of K A 41) 3 (fCons (fFld K "own_nodes" (fVarT 0)) (fCons (fFld K "own_children" (fVarT 0)) (fCons (fC (.int 0)) fNil)))))
def G_Term_text (K : PySem.W.Frag) (A : Adr) : Fn := fnS 1 (S_Term_text K A)
theorem ok_Term_text {f : Addr} {fd : FuncData} (F : Fun K "text" "Term.text" s_Term_text f fd) (T : Txt K mg) (C_text_of : CalF P w K mg base "text_of" 41 3 (G_text_of K A 41)) : FnOk P w K mg base (L2.CX P w) 42 f fd ps_Term_text (spD K 1 (G_Term_text K A)) := by
  have nd := sc_Term_text.nd
  exact fn_d (k := 41) F sc_Term_text rfl (fun cdv Ar outer s H E W0 hr => (d_sone (d_ret (d_call C_text_of (hr.mono (by first | decide | omega)) rfl (passes_call (takes_of rfl rfl rfl rfl) fun _ _ _ _ h => h) (d_cons (d_fld (K := K) (d_varT (pv 0)) rfl) (d_cons (d_fld (K := K) (d_varT (pv 0)) rfl) (d_cons (d_int pe_int) d_nil))))))) fun _ _ _ _ h => h
abbrev s_Term_eq : Stmt := inClass (top 33) 25
abbrev nm_Term_eq : List Str := ["self", "other"]
abbrev ps_Term_eq : List Str := ["self", "other"]
theorem sc_Term_eq : FnScope nm_Term_eq ps_Term_eq (defScope s_Term_eq) := ⟨rfl, rfl, rfl, by decide +kernel, rfl, by decide +kernel, by decide +kernel⟩
def S_Term_eq (K : PySem.W.Frag) (A : Adr) : FS :=
  (sRet (fAndV (fIsc K A.cTerm (fVarT 1)) (fOp REq (fFld K "own_nodes" (fVarT 0)) (fFld K "own_nodes" (fVarT 1)))))
def G_Term_eq (K : PySem.W.Frag) (A : Adr) : Fn := fnS 2 (S_Term_eq K A)
theorem ok_Term_eq {f : Addr} {fd : FuncData} (F : Fun K "__eq__" "Term.__eq__" s_Term_eq f fd) (T : Txt K mg) (g_Term : mg "Term" = some (.ref A.cTerm)) : FnOk P w K mg base (L2.CX P w) 1 f fd ps_Term_eq (spD K 2 (G_Term_eq K A)) := by
  have nd := sc_Term_eq.nd
  exact fn_d (k := 0) F sc_Term_eq rfl (fun cdv Ar outer s H E W0 hr => (d_sone (d_ret (d_andV (d_isc (K := K) rfl T.z_isinstance (d_varT (pv 1)) (pe_gref rfl g_Term)) (d_one (d_cmp (op_eqA (K := K) hr.units) s_eq (d_t (d_fld (K := K) (d_varT (pv 0)) rfl)) (d_t (d_fld (K := K) (d_varT (pv 1)) rfl)) (nomark _))))))) fun _ _ _ _ h => h
abbrev s_nodes' : Stmt := top 44
abbrev nm_nodes' : List Str := ["_law_term_here", "_law_found", "_law_one"]
abbrev ps_nodes' : List Str := ["_law_term_here"]
theorem sc_nodes' : FnScope nm_nodes' ps_nodes' (defScope s_nodes') := ⟨rfl, rfl, rfl, by decide +kernel, rfl, by decide +kernel, by decide +kernel⟩
def S_nodes' (K : PySem.W.Frag) (A : Adr) (rec : Fn) : FS :=
  (sSeq (sAsg 1 (fNew (fLst (fCons (fTup (fCons (fOp RIx (fVarT 0) (fC (.int 0))) (fCons (fCB RLen (fCons (fOp RIx (fVarT 0) (fC (.int 1))) fNil)) fNil))) fNil))))
      (sSeq (sFor (fIt (fOp RIx (fVarT 0) (fC (.int 1)))) (gN 2) (sAsg 1 (fOp RAdd (fVarT 1) (fCall rec 1 (fCons (fVar 2) fNil)))))
      (sRet (fVar 1))))
def G_nodes' (K : PySem.W.Frag) (A : Adr) : Nat → Fn
  | 0 => fun _ _ _ => False
  | k + 1 => fnS 3 (S_nodes' K A (G_nodes' K A k))
theorem ok_nodes' {f : Addr} {fd : FuncData} (F : Fun K "_law_nodes" "_law_nodes" s_nodes' f fd) (T : Txt K mg) 
    (hm : mg "_law_nodes" = some (.ref f)) (hk : PySem.W.keepIn K (.ref f) = true) (hb : Binds K fd ps_nodes' []) : ∀ j : Nat, FnOk P w K mg base (L2.CX P w) (0 + j) f fd ps_nodes' (spD K 1 (G_nodes' K A j))
  | 0 => ⟨fun vs H Q E ⟨_, _, _, _, _, _, _, z, _⟩ => z.elim, fun _ _ _ _ _ _ _ _ _ _ _ _ _ ⟨_, _, _, _, _, _, _, z, _⟩ => z.elim⟩
  | j + 1 => by
    have nd := sc_nodes'.nd
    have rec_ : CalF P w K mg base "_law_nodes" (0 + j) 1 (G_nodes' K A j) := ⟨f, fd, ps_nodes', ok_nodes' F T  hm hk hb j, hm, hk, hb⟩
    exact fn_d (k := 0 + j) F sc_nodes' rfl (fun cdv Ar outer s H E W0 hr => (d_seq (d_asg (d_n (d_lst (d_cons (d_tup (d_cons (d_ix (ix_A (K := K)) s_ix (d_varT (pv 0)) (d_t (d_int pe_int)) (fun _ _ => rfl)) (d_cons (d_cb (c_len (K := K)) s_len (by rfl) T.z_len (by decide +kernel) (d_consT (d_t (d_ix (ix_A (K := K)) s_ix (d_varT (pv 0)) (d_t (d_int pe_int)) (fun _ _ => rfl))) d_nilT)) d_nil))) d_nil))) (pg_name (i := 1) nd rfl (Or.inl rfl)))
      (d_seq (d_for (vs := [2]) (passes_of rfl) rfl (d_itF (K := K) (d_ix (ix_A (K := K)) s_ix (d_varT (pv 0)) (d_t (d_int pe_int)) (fun _ _ => rfl))) (pg_name (i := 2) nd rfl (Or.inl rfl)) (g_name (by decide)) (d_sone (d_asg (d_op (op_addA (K := K)) s_add (d_varT (pv 1)) (d_t (d_call rec_ (hr.mono (by first | decide | omega)) rfl (passes_call (takes_of rfl rfl rfl rfl) fun _ _ _ _ h => h) (d_cons (d_var (pv 2)) d_nil)))) (pg_name (i := 1) nd rfl (Or.inl rfl)))))
      (d_sone (d_ret (d_var (pv 1))))))) fun _ _ _ _ h => h
abbrev s_text : Stmt := top 45
abbrev nm_text : List Str := ["_law_term_here", "_law_one"]
abbrev ps_text : List Str := ["_law_term_here"]
theorem sc_text : FnScope nm_text ps_text (defScope s_text) := ⟨rfl, rfl, rfl, by decide +kernel, rfl, by decide +kernel, by decide +kernel⟩
def S_text (K : PySem.W.Frag) (A : Adr) (rec : Fn) : FS :=
  (sSeq (sIf (fTst (fOp REq (fOp RIx (fVarT 0) (fC (.int 1))) (fTup fNil))) (sRet (fOp RIx (fVarT 0) (fC (.int 0)))) sNext)
      (sRet (fOp RAdd (fOp RAdd (fOp RAdd (fOp RIx (fVarT 0) (fC (.int 0))) (fC (.str "("))) (fJoin (fC (.str ", ")) (fNew (fLc (fIt (fOp RIx (fVarT 0) (fC (.int 1)))) (gN 1) fYes (fCall rec 1 (fCons (fVar 1) fNil)) [1])))) (fC (.str ")")))))
def G_text (K : PySem.W.Frag) (A : Adr) : Nat → Fn
  | 0 => fun _ _ _ => False
  | k + 1 => fnS 2 (S_text K A (G_text K A k))
theorem ok_text {f : Addr} {fd : FuncData} (F : Fun K "_law_text" "_law_text" s_text f fd) (T : Txt K mg) 
    (hm : mg "_law_text" = some (.ref f)) (hk : PySem.W.keepIn K (.ref f) = true) (hb : Binds K fd ps_text []) : ∀ j : Nat, FnOk P w K mg base (L2.CX P w) (0 + j) f fd ps_text (spD K 1 (G_text K A j))
  | 0 => ⟨fun vs H Q E ⟨_, _, _, _, _, _, _, z, _⟩ => z.elim, fun _ _ _ _ _ _ _ _ _ _ _ _ _ ⟨_, _, _, _, _, _, _, z, _⟩ => z.elim⟩
  | j + 1 => by
    have nd := sc_text.nd
    have rec_ : CalF P w K mg base "_law_text" (0 + j) 1 (G_text K A j) := ⟨f, fd, ps_text, ok_text F T  hm hk hb j, hm, hk, hb⟩
    exact fn_d (k := 0 + j) F sc_text rfl (fun cdv Ar outer s H E W0 hr => (d_seq (d_ifs (d_tcmp (op_eqA (K := K) hr.units) s_eq (d_t (d_ix (ix_A (K := K)) s_ix (d_varT (pv 0)) (d_t (d_int pe_int)) (fun _ _ => rfl))) (d_t (d_tup d_nil)) (nomark _)) (d_sone (d_ret (d_ix (ix_A (K := K)) s_ix (d_varT (pv 0)) (d_t (d_int pe_int)) (fun _ _ => rfl)))) d_snil)
      (d_sone (d_ret (d_op (op_addA (K := K)) s_add (d_t (d_op (op_addA (K := K)) s_add (d_t (d_op (op_addA (K := K)) s_add (d_t (d_ix (ix_A (K := K)) s_ix (d_varT (pv 0)) (d_t (d_int pe_int)) (fun _ _ => rfl))) (d_t (d_str pe_str)))) (d_t (d_join (K := K) (d_str pe_str) (d_nt (d_lc (own := [("_law_one", 1)]) (by rfl) nd (d_itC (K := K) (d_t (d_ix (ix_A (K := K)) s_ix (d_varT (pv 0)) (d_t (d_int pe_int)) (fun _ _ => rfl)))) (blkOk_by (own := [("_law_one", 1)]) (N := nm_text) (sc := defScope s_text) (by decide +kernel)) (g_name (by decide)) (fun _ _ _ _ _ => (pg_name (i := 1) nd rfl (Or.inl rfl))) (fun _ _ _ _ _ => d_pts0) (fun _ _ _ _ _ => (d_call rec_ (hr.mono (by first | decide | omega)) rfl passL (d_cons (d_var (pv 1)) d_nil))))))))) (d_t (d_str pe_str))))))) fun _ _ _ _ h => h
abbrev s_made_term : Stmt := top 46
abbrev nm_made_term : List Str := ["_law_term_here"]
abbrev ps_made_term : List Str := ["_law_term_here"]
theorem sc_made_term : FnScope nm_made_term ps_made_term (defScope s_made_term) := ⟨rfl, rfl, rfl, by decide +kernel, rfl, by decide +kernel, by decide +kernel⟩
def S_made_term (K : PySem.W.Frag) (A : Adr) : FS :=
  (sRet (fCall (G_Term_init K A) 1 (fCons (fCB RTuple (fCons (fCall (G_nodes' K A 61) 1 (fCons (fVar 0) fNil)) fNil)) fNil)))
def G_made_term (K : PySem.W.Frag) (A : Adr) : Fn := fnS 1 (S_made_term K A)
theorem ok_made_term {f : Addr} {fd : FuncData} (F : Fun K "_law_made_term" "_law_made_term" s_made_term f fd) (T : Txt K mg) (C_nodes' : CalF P w K mg base "_law_nodes" 61 1 (G_nodes' K A 61))
    (M_Term : CalI P w K mg base "Term" A.cTerm 5 1 (G_Term_init K A)) : FnOk P w K mg base (L2.CX P w) 62 f fd ps_made_term (spD K 1 (G_made_term K A)) := by
  have nd := sc_made_term.nd
  exact fn_d (k := 61) F sc_made_term rfl (fun cdv Ar outer s H E W0 hr => (d_sone (d_ret (d_make M_Term (hr.mono (by first | decide | omega)) rfl (passes_call (takes_of rfl rfl rfl rfl) fun _ _ _ _ h => h) (d_cons (d_ct (kcall_tuple (K := K)) s_tuple (by rfl) T.z_tuple (by decide +kernel) (d_consT (d_t (d_call C_nodes' (hr.mono (by first | decide | omega)) rfl (passes_call (takes_of rfl rfl rfl rfl) fun _ _ _ _ h => h) (d_cons (d_var (pv 0)) d_nil))) d_nilT)) d_nil))))) fun _ _ _ _ h => h
abbrev s_term' : Stmt := top 47
abbrev nm_term' : List Str := ["_law_dice_here", "_law_symbols", "_law_leaves", "_law_deep", "_law_bare", "_law_word", "_law_one", "_law_at"]
abbrev ps_term' : List Str := ["_law_dice_here", "_law_symbols", "_law_leaves", "_law_deep"]
theorem sc_term' : FnScope nm_term' ps_term' (defScope s_term') := ⟨rfl, rfl, rfl, by decide +kernel, rfl, by decide +kernel, by decide +kernel⟩
def S_term' (K : PySem.W.Frag) (A : Adr) (rec : Fn) : FS :=
  (sSeq (sAsg 4 (fNew (fLc (fIt (fNew (fCBN RSortD (fCons (fVarT 1) fNil)))) (gN 5) (fTst (fOp REq (fGet (fVarT 1) (fVar 5)) (fC (.int 0)))) (fVar 5) [5])))
      (sSeq (sIf (fOr (fTst (fOp REq (fVarT 3) (fC (.int 0)))) (fTst (fOp REq (fCall (G_roll K A) 2 (fCons (fVar 0) (fCons (fC (.int 4)) fNil))) (fC (.int 0))))) (sRet (fTup (fCons (fCall (G_pick K A) 2 (fCons (fVar 0) (fCons (fOp RAdd (fOp RAdd (fVarT 4) (fVarT 2)) (fVarT 2)) fNil))) (fCons (fTup fNil) fNil)))) sNext)
      (sSeq (sAsg 5 (fCall (G_pick K A) 2 (fCons (fVar 0) (fCons (fOp RAdd (fNew (fCBN RSortD (fCons (fVarT 1) fNil))) (fNew (fLc (fIt (fNew (fCBN RSortD (fCons (fVarT 1) fNil)))) (gN 6) (fTst (fOp RGt (fGet (fVarT 1) (fVar 6)) (fC (.int 0)))) (fVar 6) [6]))) fNil))))
      (sRet (fTup (fCons (fVar 5) (fCons (fCB RTuple (fCons (fNew (fLc (fRng1 (fCons (fGet (fVarT 1) (fVar 5)) fNil)) (gN 7) fYes (fCall rec 4 (fCons (fVar 0) (fCons (fVar 1) (fCons (fVar 2) (fCons (fOp RSub (fVarT 3) (fC (.int 1))) fNil))))) [7])) fNil)) fNil)))))))
def G_term' (K : PySem.W.Frag) (A : Adr) : Nat → Fn
  | 0 => fun _ _ _ => False
  | k + 1 => fnS 8 (S_term' K A (G_term' K A k))
theorem ok_term' {f : Addr} {fd : FuncData} (F : Fun K "_law_term" "_law_term" s_term' f fd) (T : Txt K mg) (C_roll : CalF P w K mg base "_law_roll" 1 2 (G_roll K A))
    (C_pick : CalF P w K mg base "_law_pick" 2 2 (G_pick K A))
    (hm : mg "_law_term" = some (.ref f)) (hk : PySem.W.keepIn K (.ref f) = true) (hb : Binds K fd ps_term' []) : ∀ j : Nat, FnOk P w K mg base (L2.CX P w) (2 + j) f fd ps_term' (spD K 4 (G_term' K A j))
  | 0 => ⟨fun vs H Q E ⟨_, _, _, _, _, _, _, z, _⟩ => z.elim, fun _ _ _ _ _ _ _ _ _ _ _ _ _ ⟨_, _, _, _, _, _, _, z, _⟩ => z.elim⟩
  | j + 1 => by
    have nd := sc_term'.nd
    have rec_ : CalF P w K mg base "_law_term" (2 + j) 4 (G_term' K A j) := ⟨f, fd, ps_term', ok_term' F T C_roll C_pick hm hk hb j, hm, hk, hb⟩
    exact fn_d (k := 2 + j) F sc_term' rfl (fun cdv Ar outer s H E W0 hr => (d_seq (d_setLcV (g_name (by decide)) (ps_setLc (i := 4) (own := [("_law_word", 5)]) (by rfl) nd rfl rfl (sw_true rfl rfl rfl (by decide +kernel)) (d_itC (K := K) (d_nt (d_cbN (TM.kcall_sortedD rfl) s_sortD (by rfl) T.z_sorted (by decide +kernel) (d_consT (d_varT (pv 1)) d_nilT)))) (blkOk_by (own := [("_law_word", 5)]) (N := nm_term') (sc := defScope s_term') (by decide +kernel)) (fun _ _ _ _ _ => (pg_name (i := 5) nd rfl (Or.inl rfl))) (fun _ _ _ _ _ => (d_pts1 (d_tcmp (op_eqA (K := K) hr.units) s_eq (d_t (d_get (hr1 hr) (d_varT (pv 1)) (d_var (pv 5)) (fun _ _ => rfl))) (d_t (d_int pe_int)) (nomark _)))) (fun _ _ _ _ _ => (d_var (pv 5)))))
      (d_seq (d_ifs (PW.pt (d_or (d_tcmp (op_eqA (K := K) hr.units) s_eq (d_varT (pv 3)) (d_t (d_int pe_int)) (nomark _)) (d_or1 (d_tcmp (op_eqA (K := K) hr.units) s_eq (d_t (d_call C_roll (hr.mono (by first | decide | omega)) rfl (passes_call (takes_of rfl rfl rfl rfl) fun _ _ _ _ h => h) (d_cons (d_var (pv 0)) (d_cons (d_int pe_int) d_nil)))) (d_t (d_int pe_int)) (nomark _))))) (d_sone (d_ret (d_tup (d_cons (d_call C_pick (hr.mono (by first | decide | omega)) rfl (passes_call (takes_of rfl rfl rfl rfl) fun _ _ _ _ h => h) (d_cons (d_var (pv 0)) (d_cons (d_op (op_addA (K := K)) s_add (d_t (d_op (op_addA (K := K)) s_add (d_varT (pv 4)) (d_varT (pv 2)))) (d_varT (pv 2))) d_nil))) (d_cons (d_tup d_nil) d_nil))))) d_snil)
      (d_seq (d_asg (d_call C_pick (hr.mono (by first | decide | omega)) rfl (passes_call (takes_of rfl rfl rfl rfl) fun _ _ _ _ h => h) (d_cons (d_var (pv 0)) (d_cons (d_op (op_addA (K := K)) s_add (d_nt (d_cbN (TM.kcall_sortedD rfl) s_sortD (by rfl) T.z_sorted (by decide +kernel) (d_consT (d_varT (pv 1)) d_nilT))) (d_nt (d_lc (own := [("_law_one", 6)]) (by rfl) nd (d_itC (K := K) (d_nt (d_cbN (TM.kcall_sortedD rfl) s_sortD (by rfl) T.z_sorted (by decide +kernel) (d_consT (d_varT (pv 1)) d_nilT)))) (blkOk_by (own := [("_law_one", 6)]) (N := nm_term') (sc := defScope s_term') (by decide +kernel)) (g_name (by decide)) (fun _ _ _ _ _ => (pg_name (i := 6) nd rfl (Or.inl rfl))) (fun _ _ _ _ _ => (d_pts1 (d_tcmp op_gt s_gt (d_t (d_get (hr1 hr) (d_varT (pv 1)) (d_var (pv 6)) (fun _ _ => rfl))) (d_t (d_int pe_int)) (nomark _)))) (fun _ _ _ _ _ => (d_var (pv 6)))))) d_nil))) (pg_name (i := 5) nd rfl (Or.inl rfl)))
      (d_sone (d_ret (d_tup (d_cons (d_var (pv 5)) (d_cons (d_ct (kcall_tuple (K := K)) s_tuple (by rfl) T.z_tuple (by decide +kernel) (d_consT (d_nt (d_lc (own := [("_law_at", 7)]) (by rfl) nd (d_fc (d_rng1 rfl T.z_range (d_cons (d_get (hr1 hr) (d_varT (pv 1)) (d_var (pv 5)) (fun _ _ => rfl)) d_nil))) (blkOk_by (own := [("_law_at", 7)]) (N := nm_term') (sc := defScope s_term') (by decide +kernel)) (g_name (by decide)) (fun _ _ _ _ _ => (pg_name (i := 7) nd rfl (Or.inl rfl))) (fun _ _ _ _ _ => d_pts0) (fun _ _ _ _ _ => (d_call rec_ (hr.mono (by first | decide | omega)) rfl passL (d_cons (d_var (pv 0)) (d_cons (d_var (pv 1)) (d_cons (d_var (pv 2)) (d_cons (d_op op_sub s_sub (d_varT (pv 3)) (d_t (d_int pe_int))) d_nil)))))))) d_nilT)) d_nil))))))))) fun _ _ _ _ h => h
abbrev s_small_term : Stmt := top 48
abbrev nm_small_term : List Str := ["_law_dice_here", "_law_symbols", "_law_leaves", "_law_deep", "_law_most", "_law_found"]
abbrev ps_small_term : List Str := ["_law_dice_here", "_law_symbols", "_law_leaves", "_law_deep", "_law_most"]
theorem sc_small_term : FnScope nm_small_term ps_small_term (defScope s_small_term) := ⟨rfl, rfl, rfl, by decide +kernel, rfl, by decide +kernel, by decide +kernel⟩
def S_small_term (K : PySem.W.Frag) (A : Adr) : FS :=
  (sSeq (sAsg 5 (fCall (G_term' K A 6) 4 (fCons (fVar 0) (fCons (fVar 1) (fCons (fVar 2) (fCons (fVar 3) fNil))))))
      (sSeq (sIf (fTst (fOp RLe (fCB RLen (fCons (fCall (G_nodes' K A 61) 1 (fCons (fVar 5) fNil)) fNil)) (fVarT 4))) (sRet (fVar 5)) sNext)
      (sSeq (sAsg 5 (fCall (G_term' K A 6) 4 (fCons (fVar 0) (fCons (fVar 1) (fCons (fVar 2) (fCons (fC (.int 1)) fNil))))))
      (sSeq (sIf (fTst (fOp RLe (fCB RLen (fCons (fCall (G_nodes' K A 61) 1 (fCons (fVar 5) fNil)) fNil)) (fVarT 4))) (sRet (fVar 5)) sNext)
      (sRet (fTup (fCons (fCall (G_pick K A) 2 (fCons (fVar 0) (fCons (fIf (fTst (fOp RNe (fVarT 2) (fNew (fLst fNil)))) (fVar 2) (fNew (fLst (fCons (fC (.str "a")) fNil)))) fNil))) (fCons (fTup fNil) fNil))))))))
def G_small_term (K : PySem.W.Frag) (A : Adr) : Fn := fnS 6 (S_small_term K A)
theorem ok_small_term {f : Addr} {fd : FuncData} (F : Fun K "_law_small_term" "_law_small_term" s_small_term f fd) (T : Txt K mg) (C_term' : CalF P w K mg base "_law_term" 8 4 (G_term' K A 6))
    (C_nodes' : CalF P w K mg base "_law_nodes" 61 1 (G_nodes' K A 61))
    (C_pick : CalF P w K mg base "_law_pick" 2 2 (G_pick K A)) : FnOk P w K mg base (L2.CX P w) 62 f fd ps_small_term (spD K 5 (G_small_term K A)) := by
  have nd := sc_small_term.nd
  exact fn_d (k := 61) F sc_small_term rfl (fun cdv Ar outer s H E W0 hr => (d_seq (d_asg (d_call C_term' (hr.mono (by first | decide | omega)) rfl (passes_call (takes_of rfl rfl rfl rfl) fun _ _ _ _ h => h) (d_cons (d_var (pv 0)) (d_cons (d_var (pv 1)) (d_cons (d_var (pv 2)) (d_cons (d_var (pv 3)) d_nil))))) (pg_name (i := 5) nd rfl (Or.inl rfl)))
      (d_seq (d_ifs (d_tcmp op_le s_le (d_t (d_cb (c_len (K := K)) s_len (by rfl) T.z_len (by decide +kernel) (d_consT (d_t (d_call C_nodes' (hr.mono (by first | decide | omega)) rfl (passes_call (takes_of rfl rfl rfl rfl) fun _ _ _ _ h => h) (d_cons (d_var (pv 5)) d_nil))) d_nilT))) (d_varT (pv 4)) (nomark _)) (d_sone (d_ret (d_var (pv 5)))) d_snil)
      (d_seq (d_asg (d_call C_term' (hr.mono (by first | decide | omega)) rfl (passes_call (takes_of rfl rfl rfl rfl) fun _ _ _ _ h => h) (d_cons (d_var (pv 0)) (d_cons (d_var (pv 1)) (d_cons (d_var (pv 2)) (d_cons (d_int pe_int) d_nil))))) (pg_name (i := 5) nd rfl (Or.inl rfl)))
      (d_seq (d_ifs (d_tcmp op_le s_le (d_t (d_cb (c_len (K := K)) s_len (by rfl) T.z_len (by decide +kernel) (d_consT (d_t (d_call C_nodes' (hr.mono (by first | decide | omega)) rfl (passes_call (takes_of rfl rfl rfl rfl) fun _ _ _ _ h => h) (d_cons (d_var (pv 5)) d_nil))) d_nilT))) (d_varT (pv 4)) (nomark _)) (d_sone (d_ret (d_var (pv 5)))) d_snil)
      (d_sone (d_ret (d_tup (d_cons (d_call C_pick (hr.mono (by first | decide | omega)) rfl (passes_call (takes_of rfl rfl rfl rfl) fun _ _ _ _ h => h) (d_cons (d_var (pv 0)) (d_cons (d_if (d_tcmp (op_neA (K := K) hr.units) s_ne (d_varT (pv 2)) (d_nt (d_lst d_nil)) (nomark _)) (d_var (pv 2)) (d_n (d_lst (d_cons (d_str pe_str) d_nil)))) d_nil))) (d_cons (d_tup d_nil) d_nil)))))))))) fun _ _ _ _ h => h
abbrev s_drawn_term : Stmt := top 49
abbrev nm_drawn_term : List Str := ["_law_dice_here", "_law_deep", "_law_symbols"]
abbrev ps_drawn_term : List Str := ["_law_dice_here", "_law_deep"]
theorem sc_drawn_term : FnScope nm_drawn_term ps_drawn_term (defScope s_drawn_term) := ⟨rfl, rfl, rfl, by decide +kernel, rfl, by decide +kernel, by decide +kernel⟩
def S_drawn_term (K : PySem.W.Frag) (A : Adr) : FS :=
  (sSeq (sAsg 2 (fDic (fDisp [((fC (.str "a")), (fC (.int 0))), ((fC (.str "bb")), (fC (.int 0))), ((fC (.str "f")), (fC (.int 2))), ((fC (.str "k")), (fC (.int 1))), ((fC (.str "cons")), (fC (.int 3)))])))
      (sRet (fCall (G_small_term K A) 5 (fCons (fVar 0) (fCons (fVar 2) (fCons (fNew (fLst (fCons (fC (.str "_")) (fCons (fC (.str "#")) fNil)))) (fCons (fVar 1) (fCons (fC (.int 40)) fNil))))))))
def G_drawn_term (K : PySem.W.Frag) (A : Adr) : Fn := fnS 3 (S_drawn_term K A)
theorem ok_drawn_term {f : Addr} {fd : FuncData} (F : Fun K "_law_drawn_term" "_law_drawn_term" s_drawn_term f fd) (T : Txt K mg) (C_small_term : CalF P w K mg base "_law_small_term" 62 5 (G_small_term K A)) : FnOk P w K mg base (L2.CX P w) 63 f fd ps_drawn_term (spD K 2 (G_drawn_term K A)) := by
  have nd := sc_drawn_term.nd
  exact fn_d (k := 62) F sc_drawn_term rfl (fun cdv Ar outer s H E W0 hr => (d_seq (d_asg (d_dd (d_disp (fs := [((fC (.str "a")), (fC (.int 0))), ((fC (.str "bb")), (fC (.int 0))), ((fC (.str "f")), (fC (.int 2))), ((fC (.str "k")), (fC (.int 1))), ((fC (.str "cons")), (fC (.int 3)))]) (pe_disp (pps_cons (d_str pe_str) (d_int pe_int) (pps_cons (d_str pe_str) (d_int pe_int) (pps_cons (d_str pe_str) (d_int pe_int) (pps_cons (d_str pe_str) (d_int pe_int) (pps_cons (d_str pe_str) (d_int pe_int) pps_nil))))) (by rfl) (by rfl) (fun z => by cases z) (by decide)))) (pg_name (i := 2) nd rfl (Or.inl rfl)))
      (d_sone (d_ret (d_call C_small_term (hr.mono (by first | decide | omega)) rfl (passes_call (takes_of rfl rfl rfl rfl) fun _ _ _ _ h => h) (d_cons (d_var (pv 0)) (d_cons (d_var (pv 2)) (d_cons (d_n (d_lst (d_cons (d_str pe_str) (d_cons (d_str pe_str) d_nil)))) (d_cons (d_var (pv 1)) (d_cons (d_int pe_int) d_nil)))))))))) fun _ _ _ _ h => h
abbrev s_word_end : Stmt := top 50
abbrev nm_word_end : List Str := ["_law_text_here", "_law_at"]
abbrev ps_word_end : List Str := ["_law_text_here", "_law_at"]
theorem sc_word_end : FnScope nm_word_end ps_word_end (defScope s_word_end) := ⟨rfl, rfl, rfl, by decide +kernel, rfl, by decide +kernel, by decide +kernel⟩
def S_word_end (K : PySem.W.Frag) (A : Adr) : FS :=
  (sSeq (sWhile (fAnd (fTst (fOp RLt (fVarT 1) (fCB RLen (fCons (fVarT 0) fNil)))) (fTst (fOp (RIn false) (fOp RIx (fVarT 0) (fVarT 1)) (fC (.str "abcdefghijklmnopqrstuvwxyz"))))) (sAsg 1 (fOp RAdd (fVarT 1) (fC (.int 1)))))
      (sRet (fVar 1)))
def G_word_end (K : PySem.W.Frag) (A : Adr) : Fn := fnS 2 (S_word_end K A)
theorem ok_word_end {f : Addr} {fd : FuncData} (F : Fun K "_law_word_end" "_law_word_end" s_word_end f fd) (T : Txt K mg)  : FnOk P w K mg base (L2.CX P w) 1 f fd ps_word_end (spD K 2 (G_word_end K A)) := by
  have nd := sc_word_end.nd
  exact fn_d (k := 0) F sc_word_end rfl (fun cdv Ar outer s H E W0 hr => (d_seq (d_while (passes_of rfl) (PW.pt (d_and (d_tcmp op_lt s_lt (d_varT (pv 1)) (d_t (d_cb (c_len (K := K)) s_len (by rfl) T.z_len (by decide +kernel) (d_consT (d_varT (pv 0)) d_nilT))) (nomark _)) (d_and1 (d_tcmp (op_inA (K := K) (hr65 hr)) s_in (d_t (d_ix (ix_A (K := K)) s_ix (d_varT (pv 0)) (d_varT (pv 1)) (fun _ _ => rfl))) (d_t (d_str pe_str)) rfl)))) (d_sone (d_asg (d_op (op_addA (K := K)) s_add (d_varT (pv 1)) (d_t (d_int pe_int))) (pg_name (i := 1) nd rfl (Or.inl rfl)))))
      (d_sone (d_ret (d_var (pv 1)))))) fun _ _ _ _ h => h
abbrev s_read : Stmt := top 51
abbrev nm_read : List Str := ["_law_text_here", "_law_at", "_law_end", "_law_word", "_law_args", "_law_turn", "_law_told_here"]
abbrev ps_read : List Str := ["_law_text_here", "_law_at"]
theorem sc_read : FnScope nm_read ps_read (defScope s_read) := ⟨rfl, rfl, rfl, by decide +kernel, rfl, by decide +kernel, by decide +kernel⟩
def S_read (K : PySem.W.Frag) (A : Adr) (rec : Fn) : FS :=
  (sSeq (sAsg 2 (fCall (G_word_end K A) 2 (fCons (fVar 0) (fCons (fVar 1) fNil))))
      (sSeq (sAsg 3 (fSl (fVarT 0) (oAt (fVar 1)) (oAt (fVar 2))))
      (sSeq (sIf (fTst (fOp (RIn false) (fSl (fVarT 0) (oAt (fVar 1)) (oAt (fOp RAdd (fVarT 1) (fC (.int 1))))) (fNew (fLst (fCons (fC (.str "_")) (fCons (fC (.str "#")) fNil)))))) (sRet (fTup (fCons (fTup (fCons (fOp RIx (fVarT 0) (fVarT 1)) (fCons (fTup fNil) fNil))) (fCons (fOp RAdd (fVarT 1) (fC (.int 1))) fNil)))) sNext)
      (sSeq (sIf (fNot (fTst (fChain RLt RLt (fC (.int 0)) (fCB RLen (fCons (fVarT 3) fNil)) (fC (.int 9))))) (sRet (fC .non)) sNext)
      (sSeq (sIf (fTst (fOp RNe (fSl (fVarT 0) (oAt (fVar 2)) (oAt (fOp RAdd (fVarT 2) (fC (.int 1))))) (fC (.str "(")))) (sRet (fTup (fCons (fTup (fCons (fVar 3) (fCons (fTup fNil) fNil))) (fCons (fVar 2) fNil)))) sNext)
      (sSeq (sParL 4 1 (fOp RAdd (fVarT 2) (fC (.int 1))))
      (sSeq (sFor (fRng1 (fCons (fC (.int 4)) fNil)) (gN 5) (sSeq (sAsg 6 (fCall rec 2 (fCons (fVar 0) (fCons (fVar 1) fNil))))
      (sSeq (sIf (fTst (fOp RIsN (fVarT 6) (fC .non))) (sRet (fC .non)) sNext)
      (sSeq (sApp 4 (fOp RIx (fVarT 6) (fC (.int 0))))
      (sSeq (sAsg 1 (fOp RIx (fVarT 6) (fC (.int 1))))
      (sSeq (sIf (fTst (fOp REq (fSl (fVarT 0) (oAt (fVar 1)) (oAt (fOp RAdd (fVarT 1) (fC (.int 1))))) (fC (.str ")")))) (sRet (fIf (fTst (fOp RLt (fCB RLen (fCons (fVarT 4) fNil)) (fC (.int 4)))) (fTup (fCons (fTup (fCons (fVar 3) (fCons (fCB RTuple (fCons (fVarT 4) fNil)) fNil))) (fCons (fOp RAdd (fVarT 1) (fC (.int 1))) fNil))) (fC .non))) sNext)
      (sSeq (sIf (fTst (fOp RNe (fSl (fVarT 0) (oAt (fVar 1)) (oAt (fOp RAdd (fVarT 1) (fC (.int 2))))) (fC (.str ", ")))) (sRet (fC .non)) sNext)
      (sAsg 1 (fOp RAdd (fVarT 1) (fC (.int 2)))))))))))
      (sRet (fC .non)))))))))
def G_read (K : PySem.W.Frag) (A : Adr) : Nat → Fn
  | 0 => fun _ _ _ => False
  | k + 1 => fnS 7 (S_read K A (G_read K A k))
theorem ok_read {f : Addr} {fd : FuncData} (F : Fun K "_law_read" "_law_read" s_read f fd) (T : Txt K mg) (C_word_end : CalF P w K mg base "_law_word_end" 1 2 (G_word_end K A))
    (hm : mg "_law_read" = some (.ref f)) (hk : PySem.W.keepIn K (.ref f) = true) (hb : Binds K fd ps_read []) : ∀ j : Nat, FnOk P w K mg base (L2.CX P w) (1 + j) f fd ps_read (spD K 2 (G_read K A j))
  | 0 => ⟨fun vs H Q E ⟨_, _, _, _, _, _, _, z, _⟩ => z.elim, fun _ _ _ _ _ _ _ _ _ _ _ _ _ ⟨_, _, _, _, _, _, _, z, _⟩ => z.elim⟩
  | j + 1 => by
    have nd := sc_read.nd
    have rec_ : CalF P w K mg base "_law_read" (1 + j) 2 (G_read K A j) := ⟨f, fd, ps_read, ok_read F T C_word_end hm hk hb j, hm, hk, hb⟩
    exact fn_d (k := 1 + j) F sc_read rfl (fun cdv Ar outer s H E W0 hr => (d_seq (d_asg (d_call C_word_end (hr.mono (by first | decide | omega)) rfl (passes_call (takes_of rfl rfl rfl rfl) fun _ _ _ _ h => h) (d_cons (d_var (pv 0)) (d_cons (d_var (pv 1)) d_nil))) (pg_name (i := 2) nd rfl (Or.inl rfl)))
      (d_seq (d_asg (d_slice (K := K) (d_varT (pv 0)) (d_oat (d_var (pv 1))) (d_oat (d_var (pv 2)))) (pg_name (i := 3) nd rfl (Or.inl rfl)))
      (d_seq (d_ifs (d_tcmp (op_inA (K := K) (hr65 hr)) s_in (d_t (d_slice (K := K) (d_varT (pv 0)) (d_oat (d_var (pv 1))) (d_oat (d_op (op_addA (K := K)) s_add (d_varT (pv 1)) (d_t (d_int pe_int)))))) (d_nt (d_lst (d_cons (d_str pe_str) (d_cons (d_str pe_str) d_nil)))) rfl) (d_sone (d_ret (d_tup (d_cons (d_tup (d_cons (d_ix (ix_A (K := K)) s_ix (d_varT (pv 0)) (d_varT (pv 1)) (fun _ _ => rfl)) (d_cons (d_tup d_nil) d_nil))) (d_cons (d_op (op_addA (K := K)) s_add (d_varT (pv 1)) (d_t (d_int pe_int))) d_nil))))) d_snil)
      (d_seq (d_ifs (d_not (d_tchain op_lt op_lt s_lt s_lt (d_t (d_int pe_int)) (d_t (d_cb (c_len (K := K)) s_len (by rfl) T.z_len (by decide +kernel) (d_consT (d_varT (pv 3)) d_nilT))) (d_t (d_int pe_int)))) (d_sone (d_ret (d_non pe_non))) d_snil)
      (d_seq (d_ifs (d_tcmp (op_neA (K := K) hr.units) s_ne (d_t (d_slice (K := K) (d_varT (pv 0)) (d_oat (d_var (pv 2))) (d_oat (d_op (op_addA (K := K)) s_add (d_varT (pv 2)) (d_t (d_int pe_int)))))) (d_t (d_str pe_str)) (nomark _)) (d_sone (d_ret (d_tup (d_cons (d_tup (d_cons (d_var (pv 3)) (d_cons (d_tup d_nil) d_nil))) (d_cons (d_var (pv 2)) d_nil))))) d_snil)
      (d_seq (d_parL (ps_par (i := 4) (j := 1) (by rfl) nd rfl rfl (by decide) rfl rfl (pa_cons (pe_lst pa_nil) (pa_cons (d_op (op_addA (K := K)) s_add (d_varT (pv 2)) (d_t (d_int pe_int))) pa_nil)) (by rfl)))
      (d_seq (d_for (vs := [5]) (passes_of rfl) rfl (d_rng1 rfl T.z_range (d_cons (d_int pe_int) d_nil)) (pg_name (i := 5) nd rfl (Or.inl rfl)) (g_name (by decide)) (d_seq (d_asg (d_call rec_ (hr.mono (by first | decide | omega)) rfl (passes_call (takes_of rfl rfl rfl rfl) fun _ _ _ _ h => h) (d_cons (d_var (pv 0)) (d_cons (d_var (pv 1)) d_nil))) (pg_name (i := 6) nd rfl (Or.inl rfl)))
      (d_seq (d_ifs (d_tcmp op_isN s_isN (d_varT (pv 6)) (d_t (d_non pe_non)) (nomark _)) (d_sone (d_ret (d_non pe_non))) d_snil)
      (d_seq (d_app (ps_expr (kpe_bm (K := K) PySem.F.plainAttrs_list PySem.F.slot_list_append PySem.F.type_list_append mt_append (pv 4) (pa_cons (d_ix (ix_A (K := K)) s_ix (d_varT (pv 6)) (d_t (d_int pe_int)) (fun _ _ => rfl)) pa_nil))))
      (d_seq (d_asg (d_ix (ix_A (K := K)) s_ix (d_varT (pv 6)) (d_t (d_int pe_int)) (fun _ _ => rfl)) (pg_name (i := 1) nd rfl (Or.inl rfl)))
      (d_seq (d_ifs (d_tcmp (op_eqA (K := K) hr.units) s_eq (d_t (d_slice (K := K) (d_varT (pv 0)) (d_oat (d_var (pv 1))) (d_oat (d_op (op_addA (K := K)) s_add (d_varT (pv 1)) (d_t (d_int pe_int)))))) (d_t (d_str pe_str)) (nomark _)) (d_sone (d_ret (d_if (d_tcmp op_lt s_lt (d_t (d_cb (c_len (K := K)) s_len (by rfl) T.z_len (by decide +kernel) (d_consT (d_varT (pv 4)) d_nilT))) (d_t (d_int pe_int)) (nomark _)) (d_tup (d_cons (d_tup (d_cons (d_var (pv 3)) (d_cons (d_ct (kcall_tuple (K := K)) s_tuple (by rfl) T.z_tuple (by decide +kernel) (d_consT (d_varT (pv 4)) d_nilT)) d_nil))) (d_cons (d_op (op_addA (K := K)) s_add (d_varT (pv 1)) (d_t (d_int pe_int))) d_nil))) (d_non pe_non)))) d_snil)
      (d_seq (d_ifs (d_tcmp (op_neA (K := K) hr.units) s_ne (d_t (d_slice (K := K) (d_varT (pv 0)) (d_oat (d_var (pv 1))) (d_oat (d_op (op_addA (K := K)) s_add (d_varT (pv 1)) (d_t (d_int pe_int)))))) (d_t (d_str pe_str)) (nomark _)) (d_sone (d_ret (d_non pe_non))) d_snil)
      (d_sone (d_asg (d_op (op_addA (K := K)) s_add (d_varT (pv 1)) (d_t (d_int pe_int))) (pg_name (i := 1) nd rfl (Or.inl rfl)))))))))))
      (d_sone (d_ret (d_non pe_non))))))))))) fun _ _ _ _ h => h
abbrev s_due : Stmt := top 52
abbrev nm_due : List Str := ["_law_text_here", "_law_told_here", "_law_nodes_here", "_law_node", "_law_words", "_law_twice"]
abbrev ps_due : List Str := ["_law_text_here"]
theorem sc_due : FnScope nm_due ps_due (defScope s_due) := ⟨rfl, rfl, rfl, by decide +kernel, rfl, by decide +kernel, by decide +kernel⟩
def S_due (K : PySem.W.Frag) (A : Adr) : FS :=
  (sSeq (sAsg 1 (fCall (G_read K A 60) 2 (fCons (fVar 0) (fCons (fC (.int 0)) fNil))))
      (sSeq (sIf (fOr (fTst (fOp RIsN (fVarT 1) (fC .non))) (fOr (fTst (fOp RLt (fOp RIx (fVarT 1) (fC (.int 1))) (fCB RLen (fCons (fVarT 0) fNil)))) (fTst (fOp RGt (fCB RLen (fCons (fCall (G_nodes' K A 61) 1 (fCons (fOp RIx (fVarT 1) (fC (.int 0))) fNil)) fNil)) (fC (.int 40)))))) (sRet (fC (.str "parse None"))) sNext)
      (sSeq (sAsg 2 (fNew (fLc (fIt (fCall (G_nodes' K A 61) 1 (fCons (fOp RIx (fVarT 1) (fC (.int 0))) fNil))) (gN 3) (fTst (fOp (RIn true) (fOp RIx (fVarT 3) (fC (.int 0))) (fNew (fLst (fCons (fC (.str "_")) (fCons (fC (.str "#")) fNil)))))) (fVar 3) [3])))
      (sSeq (sAsg 4 (fDic (fCBD RDictP (fCons (fVarT 2) fNil))))
      (sSeq (sAsg 5 (fNew (fLc (fIt (fVarT 2)) (gN 3) (fTst (fOp RNe (fGet (fVarT 4) (fOp RIx (fVarT 3) (fC (.int 0)))) (fOp RIx (fVarT 3) (fC (.int 1))))) (fVar 3) [3])))
      (sRet (fIf (fTst (fOp REq (fVarT 5) (fNew (fLst fNil)))) (fOp RIx (fVarT 1) (fC (.int 0))) (fC (.str "term")))))))))
def G_due (K : PySem.W.Frag) (A : Adr) : Fn := fnS 6 (S_due K A)
theorem ok_due {f : Addr} {fd : FuncData} (F : Fun K "_law_due" "_law_due" s_due f fd) (T : Txt K mg) (C_read : CalF P w K mg base "_law_read" 61 2 (G_read K A 60))
    (C_nodes' : CalF P w K mg base "_law_nodes" 61 1 (G_nodes' K A 61)) : FnOk P w K mg base (L2.CX P w) 62 f fd ps_due (spD K 1 (G_due K A)) := by
  have nd := sc_due.nd
  exact fn_d (k := 61) F sc_due rfl (fun cdv Ar outer s H E W0 hr => (d_seq (d_asg (d_call C_read (hr.mono (by first | decide | omega)) rfl (passes_call (takes_of rfl rfl rfl rfl) fun _ _ _ _ h => h) (d_cons (d_var (pv 0)) (d_cons (d_int pe_int) d_nil))) (pg_name (i := 1) nd rfl (Or.inl rfl)))
      (d_seq (d_ifs (PW.pt (d_or (d_tcmp op_isN s_isN (d_varT (pv 1)) (d_t (d_non pe_non)) (nomark _)) (d_or (d_tcmp op_lt s_lt (d_t (d_ix (ix_A (K := K)) s_ix (d_varT (pv 1)) (d_t (d_int pe_int)) (fun _ _ => rfl))) (d_t (d_cb (c_len (K := K)) s_len (by rfl) T.z_len (by decide +kernel) (d_consT (d_varT (pv 0)) d_nilT))) (nomark _)) (d_or1 (d_tcmp op_gt s_gt (d_t (d_cb (c_len (K := K)) s_len (by rfl) T.z_len (by decide +kernel) (d_consT (d_t (d_call C_nodes' (hr.mono (by first | decide | omega)) rfl (passes_call (takes_of rfl rfl rfl rfl) fun _ _ _ _ h => h) (d_cons (d_ix (ix_A (K := K)) s_ix (d_varT (pv 1)) (d_t (d_int pe_int)) (fun _ _ => rfl)) d_nil))) d_nilT))) (d_t (d_int pe_int)) (nomark _)))))) (d_sone (d_ret (d_str pe_str))) d_snil)
      (d_seq (d_setLcV (g_name (by decide)) (ps_setLc (i := 2) (own := [("_law_node", 3)]) (by rfl) nd rfl rfl (sw_true rfl rfl rfl (by decide +kernel)) (d_itC (K := K) (d_t (d_call C_nodes' (hr.mono (by first | decide | omega)) rfl (passes_call (takes_of rfl rfl rfl rfl) fun _ _ _ _ h => h) (d_cons (d_ix (ix_A (K := K)) s_ix (d_varT (pv 1)) (d_t (d_int pe_int)) (fun _ _ => rfl)) d_nil)))) (blkOk_by (own := [("_law_node", 3)]) (N := nm_due) (sc := defScope s_due) (by decide +kernel)) (fun _ _ _ _ _ => (pg_name (i := 3) nd rfl (Or.inl rfl))) (fun _ _ _ _ _ => (d_pts1 (d_tcmp (op_notInA (K := K) (hr65 hr)) s_notIn (d_t (d_ix (ix_A (K := K)) s_ix (d_varT (pv 3)) (d_t (d_int pe_int)) (fun _ _ => rfl))) (d_nt (d_lst (d_cons (d_str pe_str) (d_cons (d_str pe_str) d_nil)))) rfl))) (fun _ _ _ _ _ => (d_var (pv 3)))))
      (d_seq (d_asg (d_dd (d_ctD (c_dictP (K := K) rfl) s_dictP (by rfl) T.z_dict (by decide +kernel) (d_consT (d_varT (pv 2)) d_nilT))) (pg_name (i := 4) nd rfl (Or.inr rfl)))
      (d_seq (d_setLcV (g_name (by decide)) (ps_setLc (i := 5) (own := [("_law_node", 3)]) (by rfl) nd rfl rfl (sw_true rfl rfl rfl (by decide +kernel)) (d_itC (K := K) (d_varT (pv 2))) (blkOk_by (own := [("_law_node", 3)]) (N := nm_due) (sc := defScope s_due) (by decide +kernel)) (fun _ _ _ _ _ => (pg_name (i := 3) nd rfl (Or.inl rfl))) (fun _ _ _ _ _ => (d_pts1 (d_tcmp (op_neA (K := K) hr.units) s_ne (d_t (d_get (hr1 hr) (d_varT (pv 4)) (d_ix (ix_A (K := K)) s_ix (d_varT (pv 3)) (d_t (d_int pe_int)) (fun _ _ => rfl)) (fun _ _ => rfl))) (d_t (d_ix (ix_A (K := K)) s_ix (d_varT (pv 3)) (d_t (d_int pe_int)) (fun _ _ => rfl))) (nomark _)))) (fun _ _ _ _ _ => (d_var (pv 3)))))
      (d_sone (d_ret (d_if (d_tcmp (op_eqA (K := K) hr.units) s_eq (d_varT (pv 5)) (d_nt (d_lst d_nil)) (nomark _)) (d_ix (ix_A (K := K)) s_ix (d_varT (pv 1)) (d_t (d_int pe_int)) (fun _ _ => rfl)) (d_str pe_str)))))))))) fun _ _ _ _ h => h
abbrev s_bent : Stmt := top 54
abbrev nm_bent : List Str := ["_law_dice_here", "_law_text_here", "_law_at", "_law_way", "_law_piece"]
abbrev ps_bent : List Str := ["_law_dice_here", "_law_text_here"]
theorem sc_bent : FnScope nm_bent ps_bent (defScope s_bent) := ⟨rfl, rfl, rfl, by decide +kernel, rfl, by decide +kernel, by decide +kernel⟩
def S_bent (K : PySem.W.Frag) (A : Adr) : FS :=
  (sSeq (sPar 2 3 (fCons (fCall (G_roll K A) 2 (fCons (fVar 0) (fCons (fOp RAdd (fCB RLen (fCons (fVarT 1) fNil)) (fC (.int 1))) fNil))) (fCons (fCall (G_roll K A) 2 (fCons (fVar 0) (fCons (fC (.int 4)) fNil))) fNil)))
      (sSeq (sAsg 4 (fCall (G_pick K A) 2 (fCons (fVar 0) (fCons (fNew (fLst (fCons (fC (.str "(")) (fCons (fC (.str ")")) (fCons (fC (.str ", ")) (fCons (fC (.str ",")) (fCons (fC (.str " ")) (fCons (fC (.str "a")) (fCons (fC (.str "_")) (fCons (fC (.str "#")) (fCons (fC (.str "f(")) (fCons (fC (.str "k(_)")) (fCons (fC (.str "A")) (fCons (fC (.str "")) (fCons (fC (.str ")(")) (fCons (fC (.str "zzzzzzzz")) (fCons (fC (.str ", _")) (fCons (fC (.str "(a)")) fNil)))))))))))))))))) fNil))))
      (sSeq (sIf (fTst (fOp REq (fVarT 3) (fC (.int 0)))) (sRet (fOp RAdd (fSl (fVarT 1) oNo (oAt (fVar 2))) (fSl (fVarT 1) (oAt (fOp RAdd (fVarT 2) (fC (.int 1)))) oNo))) sNext)
      (sSeq (sIf (fTst (fOp REq (fVarT 3) (fC (.int 1)))) (sRet (fOp RAdd (fOp RAdd (fSl (fVarT 1) oNo (oAt (fVar 2))) (fVarT 4)) (fSl (fVarT 1) (oAt (fVar 2)) oNo))) sNext)
      (sSeq (sIf (fTst (fOp REq (fVarT 3) (fC (.int 2)))) (sRet (fOp RAdd (fOp RAdd (fSl (fVarT 1) oNo (oAt (fVar 2))) (fVarT 4)) (fSl (fVarT 1) (oAt (fOp RAdd (fOp RAdd (fVarT 2) (fC (.int 1))) (fCall (G_roll K A) 2 (fCons (fVar 0) (fCons (fC (.int 2)) fNil))))) oNo))) sNext)
      (sRet (fOp RAdd (fSl (fVarT 1) oNo (oAt (fVar 2))) (fSl (fVarT 1) (oAt (fCB RMax2 (fCons (fC (.int 0)) (fCons (fOp RSub (fVarT 2) (fC (.int 3))) fNil)))) oNo))))))))
def G_bent (K : PySem.W.Frag) (A : Adr) : Fn := fnS 5 (S_bent K A)
theorem ok_bent {f : Addr} {fd : FuncData} (F : Fun K "_law_bent" "_law_bent" s_bent f fd) (T : Txt K mg) (C_roll : CalF P w K mg base "_law_roll" 1 2 (G_roll K A))
    (C_pick : CalF P w K mg base "_law_pick" 2 2 (G_pick K A)) : FnOk P w K mg base (L2.CX P w) 3 f fd ps_bent (spD K 2 (G_bent K A)) := by
  have nd := sc_bent.nd
  exact fn_d (k := 2) F sc_bent rfl (fun cdv Ar outer s H E W0 hr => (d_seq (d_par (ps_par (i := 2) (j := 3) (by rfl) nd rfl rfl (by decide) rfl rfl (d_cons (d_call C_roll (hr.mono (by first | decide | omega)) rfl (passes_call (takes_of rfl rfl rfl rfl) fun _ _ _ _ h => h) (d_cons (d_var (pv 0)) (d_cons (d_op (op_addA (K := K)) s_add (d_t (d_cb (c_len (K := K)) s_len (by rfl) T.z_len (by decide +kernel) (d_consT (d_varT (pv 1)) d_nilT))) (d_t (d_int pe_int))) d_nil))) (d_cons (d_call C_roll (hr.mono (by first | decide | omega)) rfl (passes_call (takes_of rfl rfl rfl rfl) fun _ _ _ _ h => h) (d_cons (d_var (pv 0)) (d_cons (d_int pe_int) d_nil))) d_nil)) (by rfl)))
      (d_seq (d_asg (d_call C_pick (hr.mono (by first | decide | omega)) rfl (passes_call (takes_of rfl rfl rfl rfl) fun _ _ _ _ h => h) (d_cons (d_var (pv 0)) (d_cons (d_n (d_lst (d_cons (d_str pe_str) (d_cons (d_str pe_str) (d_cons (d_str pe_str) (d_cons (d_str pe_str) (d_cons (d_str pe_str) (d_cons (d_str pe_str) (d_cons (d_str pe_str) (d_cons (d_str pe_str) (d_cons (d_str pe_str) (d_cons (d_str pe_str) (d_cons (d_str pe_str) (d_cons (d_str pe_str) (d_cons (d_str pe_str) (d_cons (d_str pe_str) (d_cons (d_str pe_str) (d_cons (d_str pe_str) d_nil)))))))))))))))))) d_nil))) (pg_name (i := 4) nd rfl (Or.inl rfl)))
      (d_seq (d_ifs (d_tcmp (op_eqA (K := K) hr.units) s_eq (d_varT (pv 3)) (d_t (d_int pe_int)) (nomark _)) (d_sone (d_ret (d_op (op_addA (K := K)) s_add (d_t (d_slice (K := K) (d_varT (pv 1)) d_ono (d_oat (d_var (pv 2))))) (d_t (d_slice (K := K) (d_varT (pv 1)) (d_oat (d_op (op_addA (K := K)) s_add (d_varT (pv 2)) (d_t (d_int pe_int)))) d_ono))))) d_snil)
      (d_seq (d_ifs (d_tcmp (op_eqA (K := K) hr.units) s_eq (d_varT (pv 3)) (d_t (d_int pe_int)) (nomark _)) (d_sone (d_ret (d_op (op_addA (K := K)) s_add (d_t (d_op (op_addA (K := K)) s_add (d_t (d_slice (K := K) (d_varT (pv 1)) d_ono (d_oat (d_var (pv 2))))) (d_varT (pv 4)))) (d_t (d_slice (K := K) (d_varT (pv 1)) (d_oat (d_var (pv 2))) d_ono))))) d_snil)
      (d_seq (d_ifs (d_tcmp (op_eqA (K := K) hr.units) s_eq (d_varT (pv 3)) (d_t (d_int pe_int)) (nomark _)) (d_sone (d_ret (d_op (op_addA (K := K)) s_add (d_t (d_op (op_addA (K := K)) s_add (d_t (d_slice (K := K) (d_varT (pv 1)) d_ono (d_oat (d_var (pv 2))))) (d_varT (pv 4)))) (d_t (d_slice (K := K) (d_varT (pv 1)) (d_oat (d_op (op_addA (K := K)) s_add (d_t (d_op (op_addA (K := K)) s_add (d_varT (pv 2)) (d_t (d_int pe_int)))) (d_t (d_call C_roll (hr.mono (by first | decide | omega)) rfl (passes_call (takes_of rfl rfl rfl rfl) fun _ _ _ _ h => h) (d_cons (d_var (pv 0)) (d_cons (d_int pe_int) d_nil)))))) d_ono))))) d_snil)
      (d_sone (d_ret (d_op (op_addA (K := K)) s_add (d_t (d_slice (K := K) (d_varT (pv 1)) d_ono (d_oat (d_var (pv 2))))) (d_t (d_slice (K := K) (d_varT (pv 1)) (d_oat (d_cb (call_max2 rfl) s_max2 (by rfl) T.z_max (by decide +kernel) (d_consT (d_t (d_int pe_int)) (d_consT (d_t (d_op op_sub s_sub (d_varT (pv 2)) (d_t (d_int pe_int)))) d_nilT)))) d_ono))))))))))) fun _ _ _ _ h => h
end
end K6

set_option Elab.async false
set_option maxRecDepth 100000
set_option maxHeartbeats 1000000
set_option linter.all false
namespace K6
open PySem PySem.Spec PyProof.Rows L2 Ly Pu TM
theorem slice_nat (z : Str) (i j : Nat) : Txt.slice z (some (i : Int)) (some (j : Int)) = mkS (((lab z).drop i).take (j - i)) := by
  rw [← C8.cutS_slice]
  unfold cutS mkS
  rw [HT.sIx_nat, HT.sIx_nat, len_lab]
  congr 2
  show ((lab z).drop (min i (lab z).length)).take (min j (lab z).length - min i (lab z).length) = _
  by_cases hi : i ≤ (lab z).length
  · rw [Nat.min_eq_left hi]
    by_cases hj : j ≤ (lab z).length
    · rw [Nat.min_eq_left hj]
    · rw [Nat.min_eq_right (by omega), List.take_of_length_le (by rw [List.length_drop]; omega), List.take_of_length_le (by rw [List.length_drop]; omega)]
  · rw [Nat.min_eq_right (show (lab z).length ≤ i by omega), List.drop_of_length_le (Nat.le_refl _), List.drop_of_length_le (show (lab z).length ≤ i by omega), List.take_nil, List.take_nil]
theorem in_let (c : Nat) : (!(Builtin.Str.occurrences "abcdefghijklmnopqrstuvwxyz" ⟨#[c]⟩ 0 ("abcdefghijklmnopqrstuvwxyz" : Str).length 1).isEmpty) = isL c := StrLaws.found_one _ c
theorem atI_nat {α : Type} (xs : List α) (i : Nat) : atI xs (i : Int) = xs[i]? := by
  unfold atI ixN
  rw [if_pos (by omega)]
  by_cases h : i < xs.length
  · rw [if_pos (by omega)]
    rfl
  · rw [if_neg (by omega), List.getElem?_eq_none (by omega)]
    rfl
theorem one_mk (c : Nat) : (⟨#[c]⟩ : Str) = mkS [c] := rfl
def wlen (z : Str) (i : Nat) : Nat := (((lab z).drop i).takeWhile isL).length
theorem wlen_yes {z : Str} {i c : Nat} (h : (lab z)[i]? = some c) (hc : isL c = true) : wlen z i = 1 + wlen z (i + 1) := by
  unfold wlen
  obtain ⟨hl, e⟩ := List.getElem?_eq_some_iff.mp h
  rw [List.drop_eq_getElem_cons hl, e, List.takeWhile_cons, hc, if_pos rfl, List.length_cons]
  omega
theorem wlen_no {z : Str} {i c : Nat} (h : (lab z)[i]? = some c) (hc : isL c = false) : wlen z i = 0 := by
  unfold wlen
  obtain ⟨hl, e⟩ := List.getElem?_eq_some_iff.mp h
  rw [List.drop_eq_getElem_cons hl, e, List.takeWhile_cons, hc]
  rfl
theorem wlen_end {z : Str} {i : Nat} (h : (lab z).length ≤ i) : wlen z i = 0 := by
  unfold wlen
  rw [List.drop_of_length_le h]
  rfl
theorem ex_eq {α : Type} {a : α} {P : α → Prop} : (∃ b, a = b ∧ P b) ↔ P a := ⟨fun ⟨_, e, h⟩ => e ▸ h, fun h => ⟨a, rfl, h⟩⟩
theorem lenD_str {z : Str} (h : z.length ≤ sizeLine) : lenD (.str z) = some z.length := if_pos h
theorem slice_at (z : Str) {i j : Int} {a b : Nat} (h1 : i = a) (h2 : j = b) : Txt.slice z (some i) (some j) = mkS (((lab z).drop a).take (b - a)) := by
  subst h1 h2
  exact slice_nat z a b
theorem mk_eq {l : List Nat} {z : Str} : mkS l = z ↔ l = lab z := ⟨fun h => by rw [← h, lab_mk], fun h => by rw [h, mk_lab]⟩
theorem tw_take (p : Nat → Bool) : ∀ l : List Nat, l.take (l.takeWhile p).length = l.takeWhile p ∧ l.drop (l.takeWhile p).length = l.dropWhile p
  | [] => ⟨rfl, rfl⟩
  | c :: l => by
    obtain ⟨a, b⟩ := tw_take p l
    rw [List.takeWhile_cons, List.dropWhile_cons]
    cases p c with
    | true => rw [if_pos rfl, if_pos rfl, List.length_cons, List.take_succ_cons, List.drop_succ_cons, a, b]; exact ⟨rfl, rfl⟩
    | false => rw [if_neg (by simp), if_neg (by simp)]; exact ⟨rfl, rfl⟩
theorem tok_lets {c : Nat} {cs : List Nat} (h : isL c = true) : tokF (c :: cs) = (tokF ((c :: cs).dropWhile isL)).map fun r => mkS ((c :: cs).takeWhile isL) :: r := by
  rw [tokF, if_pos h, List.dropWhile_cons, List.takeWhile_cons, h, if_pos rfl, if_pos rfl]
theorem in_sig (c : Nat) : (!(Builtin.Str.occurrences "_#()" ⟨#[c]⟩ 0 ("_#()" : Str).length 1).isEmpty) = decide (c ∈ [95, 35, 40, 41]) := (StrLaws.found_one _ c).trans (by rfl)
theorem wlen_le (z : Str) (i : Nat) : wlen z i ≤ z.length - i := by
  unfold wlen
  have h : ∀ l : List Nat, (l.takeWhile isL).length ≤ l.length := fun l => (List.takeWhile_sublist isL).length_le
  have := h ((lab z).drop i)
  rw [List.length_drop, ← len_lab] at this
  exact this
section
variable {K : PySem.W.Frag} {A : Adr}
theorem word_end {z : Str} (hz : z.length ≤ 100000) {i : Nat} (hi : i ≤ z.length) {Q : D → Prop} {Z : ZX} (q : Q (.int ((i + wlen z i : Nat) : Int))) : G_word_end K A [.str z, .int (i : Int)] Q Z := by
  have hs : z.length ≤ sizeLine := by rw [sizeLine_eq]; omega
  refine ⟨fun m ρ => ∃ j : Nat, ρ = [.val (.str z), .val (.int (j : Int))] ∧ j ≤ z.length ∧ m = z.length - j ∧ j + wlen z j = i + wlen z i, ⟨_, i, rfl, hi, rfl, rfl⟩, ?_⟩
  rintro m ρ ⟨j, rfl, hj, rfl, e⟩
  simp only [fnS, Pu.startB, sSeq, sAsg, sIf, sRet, sNext, sNew, sApp, sPar, sDem, demB, fVar, fVarT, fC, fOp, fTst, fAnd, fOr, fNot, fNew, fLst, fTup, fNil, fCons, fSl, oAt, oNo, fCB, fCall, fIf, fChain, fRng1, fIt, fJoin, RLen, RI0, RAdd, RIx, RSl, RIsN, RTuple, RIn, gN, bD, List.map_cons, List.map_nil, List.cons_append, List.nil_append, List.length_cons, List.length_nil, List.replicate, Nat.reduceSub, Nat.reduceAdd, List.getElem?_cons_zero, List.getElem?_cons_succ, List.set_cons_zero, List.set_cons_succ, Option.some.injEq, B.val.injEq, D.int.injEq, D.bl.injEq, D.str.injEq, D.tup.injEq, D.lst.injEq, exists_eq_left', exists_eq_left, exists_and_left, ex_eq, true_and, and_true, List.cons.injEq, lenD_str hs, atI_nat, in_let, Bool.false_bne]
  by_cases h : j < z.length
  · rw [if_pos (decide_eq_true (by omega))]
    obtain ⟨c, hc⟩ : ∃ c, (lab z)[j]? = some c := ⟨(lab z)[j]'(by rw [← len_lab]; exact h), List.getElem?_eq_getElem _⟩
    refine ⟨hs, c, hc, ?_⟩
    cases hl : isL c with
    | true =>
      rw [if_pos rfl]
      have := wlen_yes hc hl
      exact ⟨z.length - (j + 1), by omega, j + 1, by omega, by omega, rfl, by omega⟩
    | false =>
      rw [if_neg (by simp)]
      have := wlen_no hc hl
      rw [← e, this] at q
      exact q
  · rw [if_neg (by rw [decide_eq_false (by omega)]; simp), if_neg (by simp)]
    have := wlen_end (z := z) (i := j) (by rw [← len_lab]; omega)
    rw [← e, this] at q
    exact q
theorem tokens {z : Str} (hz : z.length ≤ 100000) {Q : D → Prop} {Z : ZX} (q : match tokF (lab z) with | none => Q .non | some zs => Q (.lst (zs.map .str))) : G_tokens_of K A [.str z] Q Z := by
  have hs : z.length ≤ sizeLine := by rw [sizeLine_eq]; omega
  unfold G_tokens_of S_tokens_of
  simp only [fnS, Pu.startB, sSeq, sAsg, sIf, sRet, sNext, sNew, sApp, sPar, sDem, demB, fVar, fVarT, fC, fOp, fTst, fAnd, fOr, fNot, fNew, fLst, fTup, fNil, fCons, fSl, oAt, oNo, fCB, fCall, fIf, fChain, fRng1, fIt, fJoin, RLen, RI0, RAdd, RIx, RSl, RIsN, RTuple, RIn, gN, bD, List.map_cons, List.map_nil, List.cons_append, List.nil_append, List.length_cons, List.length_nil, List.replicate, Nat.reduceSub, Nat.reduceAdd, List.getElem?_cons_zero, List.getElem?_cons_succ, List.set_cons_zero, List.set_cons_succ, Option.some.injEq, B.val.injEq, D.int.injEq, D.bl.injEq, D.str.injEq, D.tup.injEq, D.lst.injEq, exists_eq_left', exists_eq_left, exists_and_left, ex_eq, true_and, and_true, List.cons.injEq, lenD_str hs, atI_nat, in_let, Bool.false_bne, Bool.true_bne]
  refine ⟨Nat.zero_le _, fun m ρ => ∃ (j : Nat) (ts : List Str) (o : B), ρ = [.val (.str z), .lst (ts.map .str), .val (.int (j : Int)), o] ∧ j ≤ z.length ∧ m = z.length - j ∧ ts.length ≤ j ∧ (match tokF ((lab z).drop j) with | none => Q .non | some zs => Q (.lst ((ts ++ zs).map .str))), ⟨_, 0, [], .un, rfl, Nat.zero_le _, rfl, Nat.zero_le _, q⟩, ?_⟩
  clear q
  rintro m ρ ⟨j, ts, o, rfl, hj, rfl, htj, q⟩
  simp only [fnS, Pu.startB, sSeq, sAsg, sIf, sRet, sNext, sNew, sApp, sPar, sDem, demB, fVar, fVarT, fC, fOp, fTst, fAnd, fOr, fNot, fNew, fLst, fTup, fNil, fCons, fSl, oAt, oNo, fCB, fCall, fIf, fChain, fRng1, fIt, fJoin, RLen, RI0, RAdd, RIx, RSl, RIsN, RTuple, RIn, gN, bD, List.map_cons, List.map_nil, List.cons_append, List.nil_append, List.length_cons, List.length_nil, List.replicate, Nat.reduceSub, Nat.reduceAdd, List.getElem?_cons_zero, List.getElem?_cons_succ, List.set_cons_zero, List.set_cons_succ, Option.some.injEq, B.val.injEq, D.int.injEq, D.bl.injEq, D.str.injEq, D.tup.injEq, D.lst.injEq, exists_eq_left', exists_eq_left, exists_and_left, ex_eq, true_and, and_true, List.cons.injEq, lenD_str hs, atI_nat, in_let, in_sig, Bool.false_bne, Bool.true_bne, REq, sc]
  by_cases h : j < z.length
  · rw [if_pos (decide_eq_true (by omega))]
    obtain ⟨c, hc⟩ : ∃ c, (lab z)[j]? = some c := ⟨(lab z)[j]'(by rw [← len_lab]; exact h), List.getElem?_eq_getElem _⟩
    have hdrop : (lab z).drop j = c :: (lab z).drop (j + 1) := by
      obtain ⟨hl, e⟩ := List.getElem?_eq_some_iff.mp hc
      rw [List.drop_eq_getElem_cons hl, e]
    have tail : ∀ (k : Nat) (w w0 : Str), 1 ≤ k → j + k ≤ z.length → w0 = w → tokF ((lab z).drop j) = (tokF ((lab z).drop (j + k))).map (fun r => w :: r) →
        ∃ ds, B.lst (ts.map D.str) = B.lst ds ∧ z.length ≤ sizeLine ∧ ds.length < sizeLine ∧ ∃ m', m' < z.length - j ∧ ∃ (j1 : Nat) (ts' : List Str) (o : B), (B.lst (ds ++ [D.str w0]) = B.lst (ts'.map D.str) ∧ (j : Int) + (k : Int) = (j1 : Int) ∧ B.val (D.int (k : Int)) = o) ∧
          j1 ≤ z.length ∧ m' = z.length - j1 ∧ ts'.length ≤ j1 ∧ match tokF ((lab z).drop j1) with | none => Q .non | some zs => Q (.lst ((ts' ++ zs).map .str)) := fun k w w0 h1 h2 h3 h4 => by
      refine ⟨_, rfl, hs, by rw [List.length_map, sizeLine_eq]; omega, z.length - (j + k), by omega, j + k, ts ++ [w], _, ⟨by rw [h3, List.map_append]; rfl, by omega, rfl⟩, h2, rfl, by rw [List.length_append]; simp; omega, ?_⟩
      rw [h4] at q
      cases e : tokF ((lab z).drop (j + k)) with
      | none => rw [e] at q; exact q
      | some zs =>
        rw [e] at q
        have q : Q (.lst ((ts ++ (w :: zs)).map .str)) := q
        show Q (.lst (((ts ++ [w]) ++ zs).map .str))
        rw [List.append_assoc]
        exact q
    refine ⟨hs, c, hc, ?_⟩
    cases hl : isL c with
    | true =>
      rw [if_pos rfl]
      have hw := wlen_yes hc hl
      have hwl := wlen_le z j
      have htw : (((lab z).drop j).takeWhile isL).length = wlen z j := rfl
      refine ⟨fun m ρ => ∃ k : Nat, ρ = [.val (.str z), .lst (ts.map .str), .val (.int (j : Int)), .val (.int (k : Int))] ∧ j + k ≤ z.length ∧ m = z.length - j - k ∧ k + wlen z (j + k) = wlen z j, ⟨_, 1, rfl, by omega, rfl, by omega⟩, ?_⟩
      rintro m ρ ⟨k, rfl, hk, rfl, ek⟩
      simp only [fnS, Pu.startB, sSeq, sAsg, sIf, sRet, sNext, sNew, sApp, sPar, sDem, demB, fVar, fVarT, fC, fOp, fTst, fAnd, fOr, fNot, fNew, fLst, fTup, fNil, fCons, fSl, oAt, oNo, fCB, fCall, fIf, fChain, fRng1, fIt, fJoin, RLen, RI0, RAdd, RIx, RSl, RIsN, RTuple, RIn, gN, bD, List.map_cons, List.map_nil, List.cons_append, List.nil_append, List.length_cons, List.length_nil, List.replicate, Nat.reduceSub, Nat.reduceAdd, List.getElem?_cons_zero, List.getElem?_cons_succ, List.set_cons_zero, List.set_cons_succ, Option.some.injEq, B.val.injEq, D.int.injEq, D.bl.injEq, D.str.injEq, D.tup.injEq, D.lst.injEq, exists_eq_left', exists_eq_left, exists_and_left, ex_eq, true_and, and_true, List.cons.injEq, lenD_str hs, in_let, Bool.false_bne, RNe, sc]
      have fin : wlen z (j + k) = 0 → _ := fun h0 => tail k (mkS (((lab z).drop j).takeWhile isL)) (Txt.slice z (some (j : Int)) (some ((j : Int) + (k : Int)))) (by omega) hk (by
        rw [slice_at z (a := j) (b := j + k) rfl (by omega), show j + k - j = wlen z j by omega]
        exact congrArg mkS (tw_take isL ((lab z).drop j)).1) (by
        have e2 : (lab z).drop (j + k) = ((lab z).drop j).dropWhile isL := by
          rw [← List.drop_drop, show k = wlen z j by omega]
          exact (tw_take isL ((lab z).drop j)).2
        rw [e2, hdrop]
        exact tok_lets hl)
      refine ⟨hs, ?_⟩
      rw [slice_at z (a := j + k) (b := j + k + 1) (by omega) (by omega), show j + k + 1 - (j + k) = 1 by omega]
      by_cases hjk : j + k < z.length
      · obtain ⟨c2, hc2⟩ : ∃ c, (lab z)[j + k]? = some c := ⟨(lab z)[j + k]'(by rw [← len_lab]; exact hjk), List.getElem?_eq_getElem _⟩
        have hd2 : ((lab z).drop (j + k)).take 1 = [c2] := by
          obtain ⟨hl2, e⟩ := List.getElem?_eq_some_iff.mp hc2
          rw [List.drop_eq_getElem_cons hl2, e]
          rfl
        rw [hd2, if_pos (by rw [decide_eq_false (by intro z2; have := mk_eq.mp z2; cases this)]; rfl)]
        refine ⟨hs, c2, by rw [show (j : Int) + (k : Int) = ((j + k : Nat) : Int) by omega, atI_nat]; exact hc2, ?_⟩
        cases hl2 : isL c2 with
        | true =>
          rw [if_pos rfl]
          have := wlen_yes hc2 hl2
          exact ⟨z.length - j - (k + 1), by omega, k + 1, by omega, by omega, rfl, by rw [show j + (k + 1) = j + k + 1 by omega]; omega⟩
        | false =>
          rw [if_neg (by simp)]
          exact fin (wlen_no hc2 hl2)
      · have hd2 : (lab z).drop (j + k) = [] := List.drop_of_length_le (by rw [← len_lab]; omega)
        rw [hd2, if_neg (by rw [decide_eq_true (by rfl)]; simp), if_neg (by simp)]
        exact fin (wlen_end (by rw [← len_lab]; omega))
    | false =>
      rw [if_neg (by simp), slice_at z (a := j) (b := j + 2) rfl (by omega), show j + 2 - j = 2 by omega]
      refine ⟨hs, ?_⟩
      by_cases h2 : ((lab z).drop j).take 2 = [44, 32]
      · rw [if_pos (decide_eq_true (mk_eq.mpr h2))]
        have e2 := two_drop h2
        have hlen : j + 2 ≤ z.length := by
          have := congrArg List.length e2
          rw [List.length_drop, List.length_cons, List.length_cons, ← len_lab] at this
          omega
        exact tail 2 (mkS [44, 32]) _ (by omega) hlen (by rw [h2]) (by
          conv => lhs; rw [e2]
          rw [tok_sep, List.drop_drop])
      · rw [if_neg (by rw [decide_eq_false (fun z2 => h2 (mk_eq.mp z2))]; simp)]
        refine ⟨hs, c, hc, ?_⟩
        by_cases h3 : c = 95 ∨ c = 35 ∨ c = 40 ∨ c = 41
        · rw [if_neg (by rw [decide_eq_true (by simpa using h3)]; simp)]
          exact tail 1 (mkS [c]) _ (by omega) (by omega) (by
            rw [slice_at z (a := j) (b := j + 1) rfl (by omega), show j + 1 - j = 1 by omega, hdrop]
            rfl) (by
            rw [hdrop]
            exact tok_sign _ h3)
        · rw [if_pos (by rw [decide_eq_false (by simpa using h3)]; rfl)]
          have : tokF ((lab z).drop j) = none := by
            rw [hdrop, tokF, hl, if_neg (by simp), if_neg (fun z2 => h2 (by rw [hdrop, z2.1, head_drop z2.2]; rfl)), if_neg h3]
          rw [this] at q
          exact q
  · rw [if_neg (by rw [decide_eq_false (by omega)]; simp)]
    have : (lab z).drop j = [] := List.drop_of_length_le (by rw [← len_lab]; omega)
    rw [this, tokF] at q
    have q : Q (.lst ((ts ++ []).map .str)) := q
    rw [List.append_nil] at q
    exact q
end
mutual
def trD : Tr → D
  | .nd w ts => .tup [.str w, .tup (trsD ts)]
def trsD : List Tr → List D
  | [] => []
  | t :: ts => trD t :: trsD ts
end
theorem trsD_app : ∀ (ts : List Tr) (t : Tr), trsD (ts ++ [t]) = trsD ts ++ [trD t]
  | [], t => rfl
  | u :: ts, t => by
    show trD u :: trsD (ts ++ [t]) = _
    rw [trsD_app ts t]
    rfl
theorem trsD_len : ∀ ts : List Tr, (trsD ts).length = ts.length
  | [] => rfl
  | t :: ts => by
    show (trsD ts).length + 1 = _
    rw [trsD_len ts]
    rfl
def rdB (rec : Fn) : FS := (sSeq (sAsg 6 (fCall rec 2 (fCons (fVar 0) (fCons (fVar 1) fNil)))) (sSeq (sIf (fTst (fOp RIsN (fVarT 6) (fC .non))) (sRet (fC .non)) sNext) (sSeq (sApp 4 (fOp RIx (fVarT 6) (fC (.int 0)))) (sSeq (sAsg 1 (fOp RIx (fVarT 6) (fC (.int 1)))) (sSeq (sIf (fTst (fOp REq (fSl (fVarT 0) (oAt (fVar 1)) (oAt (fOp RAdd (fVarT 1) (fC (.int 1))))) (fC (.str ")")))) (sRet (fIf (fTst (fOp RLt (fCB RLen (fCons (fVarT 4) fNil)) (fC (.int 4)))) (fTup (fCons (fTup (fCons (fVar 3) (fCons (fCB RTuple (fCons (fVarT 4) fNil)) fNil))) (fCons (fOp RAdd (fVarT 1) (fC (.int 1))) fNil))) (fC .non))) sNext) (sSeq (sIf (fTst (fOp RNe (fSl (fVarT 0) (oAt (fVar 1)) (oAt (fOp RAdd (fVarT 1) (fC (.int 2))))) (fC (.str ", ")))) (sRet (fC .non)) sNext) (sAsg 1 (fOp RAdd (fVarT 1) (fC (.int 2))))))))))
theorem at0 {x : D} {xs : List D} : atI (x :: xs) 0 = some x := (atI_nat _ 0).trans rfl
theorem at1 {x y : D} {xs : List D} : atI (x :: y :: xs) 1 = some y := (atI_nat _ 1).trans rfl
def cnt (l : List Nat) : Nat := l.count 40
theorem cnt_drop (l : List Nat) (k : Nat) : cnt (l.drop k) ≤ cnt l := (List.drop_sublist k l).count_le 40
def RdOk (z : Str) (Q : D → Prop) : Option (Tr × List Nat) → Prop
  | none => Q .non
  | some (t, r) => Q (.tup [trD t, .int ((z.length - r.length : Nat) : Int)])
theorem suf {z : Str} {a : Nat} {t r : List Nat} (h : (lab z).drop a = t ++ r) (ha : a ≤ z.length) : r = (lab z).drop (z.length - r.length) ∧ a ≤ z.length - r.length ∧ r.length ≤ z.length := by
  have h1 := congrArg List.length h
  rw [List.length_drop, List.length_append, ← len_lab] at h1
  refine ⟨?_, by omega, by omega⟩
  have h2 : (lab z).drop (a + t.length) = r := by rw [← List.drop_drop, h, List.drop_left]
  rw [show z.length - r.length = a + t.length by omega, h2]
theorem head_take {l : List Nat} {c : Nat} : l.take 1 = [c] ↔ l.head? = some c := by
  cases l with
  | nil => simp
  | cons d l => simp
section
variable {K : PySem.W.Frag} {A : Adr}
theorem rd_loop {n : Nat} {z : Str} (hz : z.length ≤ 100000) {w : Str} {e : Int} {Q : D → Prop} {De : EndsD} (hr : De.rt = Q) (hn : ∀ ρ, Q .non → De.nx ρ)
    (ih : ∀ (a : Nat) (Q : D → Prop), a ≤ z.length → cnt ((lab z).drop a) < n → RdOk z Q (rd n ((lab z).drop a)) → G_read K A n [.str z, .int (a : Int)] Q De.ex) :
    ∀ (ds : List D) (a : Nat) (ts : List Tr) (o5 o6 : B), a ≤ z.length → cnt ((lab z).drop a) < n → ts.length + ds.length ≤ 4 → RdOk z Q (rdL (rd n) w ds.length ((lab z).drop a) ts) →
      forD (gN 5) (rdB (G_read K A n)) ds [.val (.str z), .val (.int (a : Int)), .val (.int e), .val (.str w), .lst (trsD ts), o5, o6] De
  | [], a, ts, o5, o6, ha, hc, hl, q => hn _ q
  | d :: ds, a, ts, o5, o6, ha, hc, hl, q => by
    have hs : z.length ≤ sizeLine := by rw [sizeLine_eq]; omega
    unfold forD rdB
    simp only [fnS, Pu.startB, sSeq, sAsg, sIf, sRet, sNext, sNew, sApp, sPar, sDem, demB, fVar, fVarT, fC, fOp, fTst, fAnd, fOr, fNot, fNew, fLst, fTup, fNil, fCons, fSl, oAt, oNo, fCB, fCall, fIf, fChain, fRng1, fIt, fJoin, RLen, RI0, RAdd, RIx, RSl, RIsN, RTuple, RIn, gN, bD, List.map_cons, List.map_nil, List.cons_append, List.nil_append, List.length_cons, List.length_nil, List.replicate, Nat.reduceSub, Nat.reduceAdd, List.getElem?_cons_zero, List.getElem?_cons_succ, List.set_cons_zero, List.set_cons_succ, Option.some.injEq, B.val.injEq, D.int.injEq, D.bl.injEq, D.str.injEq, D.tup.injEq, D.lst.injEq, exists_eq_left', exists_eq_left, exists_and_left, ex_eq, true_and, and_true, List.cons.injEq, lenD_str hs, REq, RNe, sc]
    refine ih a _ ha hc ?_
    have q : RdOk z Q (rdL (rd n) w (ds.length + 1) ((lab z).drop a) ts) := q
    unfold rdL at q
    cases e1 : rd n ((lab z).drop a) with
    | none =>
      rw [e1] at q
      simp only [RdOk, isN, if_true, hr]
      exact q
    | some p =>
      obtain ⟨t, r⟩ := p
      rw [e1] at q
      obtain ⟨h1, h2, h3⟩ := suf (rd_sound n _ t r e1).1 ha
      have hsuf := (rd_sound n _ t r e1).1
      have hcr : ∀ k, cnt (r.drop k) < n := fun k => by
        have z1 := cnt_drop r k
        have z2 : cnt r ≤ cnt ((lab z).drop a) := by rw [hsuf]; exact (List.sublist_append_right _ _).count_le 40
        omega
      have q : RdOk z Q (if r.head? = some 41 then (if ts.length + 1 < 4 then some (Tr.nd w (ts ++ [t]), r.drop 1) else none) else if r.take 2 = [44, 32] then rdL (rd n) w ds.length (r.drop 2) (ts ++ [t]) else none) := q
      generalize hb : z.length - r.length = b at h1 h2
      simp only [fnS, Pu.startB, sSeq, sAsg, sIf, sRet, sNext, sNew, sApp, sPar, sDem, demB, fVar, fVarT, fC, fOp, fTst, fAnd, fOr, fNot, fNew, fLst, fTup, fNil, fCons, fSl, oAt, oNo, fCB, fCall, fIf, fChain, fRng1, fIt, fJoin, RLen, RI0, RAdd, RIx, RSl, RIsN, RTuple, RIn, gN, bD, List.map_cons, List.map_nil, List.cons_append, List.nil_append, List.length_cons, List.length_nil, List.replicate, Nat.reduceSub, Nat.reduceAdd, List.getElem?_cons_zero, List.getElem?_cons_succ, List.set_cons_zero, List.set_cons_succ, Option.some.injEq, B.val.injEq, D.int.injEq, D.bl.injEq, D.str.injEq, D.tup.injEq, D.lst.injEq, exists_eq_left', exists_eq_left, exists_and_left, ex_eq, true_and, and_true, List.cons.injEq, RdOk, isN, at0, at1, Bool.false_eq_true, if_false, hb, B.lst.injEq, hr, seqD, lenD, REq, RNe, sc]
      have hbz : b ≤ z.length := by omega
      have hlen2 : r.length = z.length - b := by omega
      refine ⟨by rw [trsD_len, sizeLine_eq]; omega, hs, ?_⟩
      rw [slice_at z (a := b) (b := b + 1) rfl (by omega), show b + 1 - b = 1 by omega, ← h1]
      by_cases h4 : r.head? = some 41
      · rw [if_pos h4] at q
        rw [if_pos (decide_eq_true (mk_eq.mpr (head_take.mpr h4))), List.length_append, trsD_len]
        by_cases h5 : ts.length + 1 < 4
        · rw [if_pos h5] at q
          rw [if_pos (decide_eq_true (by show ((ts.length + 1 : Nat) : Int) < 4; omega))]
          refine ⟨by decide, by decide, ?_⟩
          have q : Q (.tup [.tup [.str w, .tup (trsD (ts ++ [t]))], .int ((z.length - (r.drop 1).length : Nat) : Int)]) := q
          have hr1 : 1 ≤ r.length := by
            have := congrArg List.length (head_drop h4)
            rw [List.length_cons] at this
            omega
          rw [trsD_app, List.length_drop, show z.length - (r.length - 1) = b + 1 by omega] at q
          exact q
        · rw [if_neg h5] at q
          rw [if_neg (by rw [decide_eq_false (by show ¬ ((ts.length + 1 : Nat) : Int) < 4; omega)]; simp)]
          exact q
      · rw [if_neg h4] at q
        rw [if_neg (by rw [decide_eq_false (fun z2 => h4 (head_take.mp (mk_eq.mp z2)))]; simp)]
        refine ⟨hs, ?_⟩
        rw [slice_at z (a := b) (b := b + 2) rfl (by omega), show b + 2 - b = 2 by omega, ← h1]
        by_cases h5 : r.take 2 = [44, 32]
        · rw [if_pos h5] at q
          rw [if_neg (by rw [decide_eq_true (mk_eq.mpr h5)]; simp)]
          have hr2 : 2 ≤ r.length := by
            have := congrArg List.length (two_drop h5)
            rw [List.length_cons, List.length_cons] at this
            omega
          have e2 : r.drop 2 = (lab z).drop (b + 2) := by
            conv => lhs; rw [h1]
            rw [List.drop_drop]
          rw [e2] at q
          have := rd_loop (e := e) hz hr hn ih ds (b + 2) (ts ++ [t]) (.val d) (.val (.tup [trD t, .int (b : Int)])) (by omega) (by rw [← e2]; exact hcr 2) (by rw [List.length_append]; simp at hl ⊢; omega) q
          rw [trsD_app] at this
          exact this
        · rw [if_neg h5] at q
          rw [if_pos (by rw [decide_eq_false (fun z2 => h5 (mk_eq.mp z2))]; rfl)]
          exact q
theorem read : ∀ (n : Nat) {z : Str} (hz : z.length ≤ 100000) (a : Nat) (Q : D → Prop) (Z : ZX), a ≤ z.length → cnt ((lab z).drop a) < n → RdOk z Q (rd n ((lab z).drop a)) → G_read K A n [.str z, .int (a : Int)] Q Z
  | 0, z, hz, a, Q, Z, ha, hc, q => by omega
  | n + 1, z, hz, a, Q, Z, ha, hc, q => by
    have hs : z.length ≤ sizeLine := by rw [sizeLine_eq]; omega
    show fnS 7 (S_read K A (G_read K A n)) _ Q Z
    unfold S_read
    simp only [fnS, Pu.startB, sSeq, sAsg, sIf, sRet, sNext, sNew, sApp, sPar, sDem, demB, fVar, fVarT, fC, fOp, fTst, fAnd, fOr, fNot, fNew, fLst, fTup, fNil, fCons, fSl, oAt, oNo, fCB, fCall, fIf, fChain, fRng1, fIt, fJoin, RLen, RI0, RAdd, RIx, RSl, RIsN, RTuple, RIn, gN, bD, List.map_cons, List.map_nil, List.cons_append, List.nil_append, List.length_cons, List.length_nil, List.replicate, Nat.reduceSub, Nat.reduceAdd, List.getElem?_cons_zero, List.getElem?_cons_succ, List.set_cons_zero, List.set_cons_succ, Option.some.injEq, B.val.injEq, D.int.injEq, D.bl.injEq, D.str.injEq, D.tup.injEq, D.lst.injEq, exists_eq_left', exists_eq_left, exists_and_left, ex_eq, true_and, and_true, List.cons.injEq, lenD_str hs, REq, RNe, sc]
    refine word_end hz ha ?_
    simp only [fnS, Pu.startB, sSeq, sAsg, sIf, sRet, sNext, sNew, sApp, sPar, sDem, demB, fVar, fVarT, fC, fOp, fTst, fAnd, fOr, fNot, fNew, fLst, fTup, fNil, fCons, fSl, oAt, oNo, fCB, fCall, fIf, fChain, fRng1, fIt, fJoin, RLen, RI0, RAdd, RIx, RSl, RIsN, RTuple, RIn, gN, bD, List.map_cons, List.map_nil, List.cons_append, List.nil_append, List.length_cons, List.length_nil, List.replicate, Nat.reduceSub, Nat.reduceAdd, List.getElem?_cons_zero, List.getElem?_cons_succ, List.set_cons_zero, List.set_cons_succ, Option.some.injEq, B.val.injEq, D.int.injEq, D.bl.injEq, D.str.injEq, D.tup.injEq, D.lst.injEq, exists_eq_left', exists_eq_left, exists_and_left, ex_eq, true_and, and_true, List.cons.injEq, lenD_str hs, REq, RNe, sc, sParL, sFor]
    have hwl := wlen_le z a
    have htw : (((lab z).drop a).takeWhile isL).length = wlen z a := rfl
    have hsl : Txt.slice z (some (a : Int)) (some ((a + wlen z a : Nat) : Int)) = mkS (((lab z).drop a).takeWhile isL) := by
      rw [slice_nat, show a + wlen z a - a = wlen z a by omega]
      exact congrArg mkS (tw_take isL ((lab z).drop a)).1
    have hdr : (lab z).drop (a + wlen z a) = ((lab z).drop a).dropWhile isL := by
      rw [← List.drop_drop]
      exact (tw_take isL ((lab z).drop a)).2
    have hll : (mkS (((lab z).drop a).takeWhile isL)).length = wlen z a := by rw [len_lab, lab_mk]; rfl
    rw [hsl, slice_at z (a := a) (b := a + 1) rfl (by omega), show a + 1 - a = 1 by omega, slice_at z (a := a + wlen z a) (b := a + wlen z a + 1) rfl (by omega), show a + wlen z a + 1 - (a + wlen z a) = 1 by omega, hdr]
    refine ⟨hs, hs, by decide, .inl ⟨rfl, rfl, ?_⟩⟩
    have hany : ([D.str (Str.ofString "_"), D.str (Str.ofString "#")].any fun y => eqF y (D.str (mkS (((lab z).drop a).take 1)))) = decide (((lab z).drop a).head? = some 95 ∨ ((lab z).drop a).head? = some 35) := by
      show (decide (Str.ofString "_" = mkS (((lab z).drop a).take 1)) || (decide (Str.ofString "#" = mkS (((lab z).drop a).take 1)) || false)) = _
      rw [Bool.or_false, ← Bool.decide_or]
      refine decide_eq_decide.mpr ?_
      rw [eq_comm, mk_eq, eq_comm (a := Str.ofString "#"), mk_eq]
      show (_ = [95] ∨ _ = [35]) ↔ _
      rw [head_take, head_take]
    rw [hany, Bool.false_bne]
    unfold rd at q
    by_cases h1 : ((lab z).drop a).head? = some 95 ∨ ((lab z).drop a).head? = some 35
    · rw [if_pos h1] at q
      rw [if_pos (decide_eq_true h1)]
      obtain ⟨c, hc⟩ : ∃ c, ((lab z).drop a).head? = some c := by rcases h1 with h | h <;> exact ⟨_, h⟩
      have e1 := head_drop hc
      have hlen : 1 ≤ z.length - a := by
        have := congrArg List.length e1
        rw [List.length_drop, List.length_cons, ← len_lab] at this
        omega
      refine ⟨hs, c, ?_, Nat.zero_le _, by decide, by decide, ?_⟩
      · rw [atI_nat, ← List.head?_drop]
        exact hc
      · have q : Q (.tup [.tup [.str (mkS (((lab z).drop a).take 1)), .tup []], .int ((z.length - (((lab z).drop a).drop 1).length : Nat) : Int)]) := q
        rw [head_take.mpr hc, List.length_drop, List.length_drop, ← len_lab, show z.length - (z.length - a - 1) = a + 1 by omega] at q
        exact q
    · rw [if_neg h1] at q
      rw [if_neg (by rw [decide_eq_false h1]; simp), lenD_str (by rw [hll]; omega), hll]
      refine ⟨_, rfl, ?_⟩
      rw [htw] at q
      by_cases h2 : 0 < wlen z a ∧ wlen z a < 9
      · rw [if_pos h2] at q
        rw [if_pos (decide_eq_true (by omega)), if_neg (by rw [decide_eq_true (by omega)]; simp)]
        refine ⟨hs, ?_⟩
        have hrl : (((lab z).drop a).dropWhile isL).length = z.length - (a + wlen z a) := by rw [← hdr, List.length_drop, ← len_lab]
        by_cases h3 : (((lab z).drop a).dropWhile isL).head? = some 40
        · rw [if_pos h3] at q
          rw [if_neg (by rw [decide_eq_true (mk_eq.mpr (head_take.mpr h3))]; simp)]
          have e3 := head_drop h3
          have hr1 : 1 ≤ (((lab z).drop a).dropWhile isL).length := by
            have := congrArg List.length e3
            rw [List.length_cons] at this
            omega
          have e4 : (((lab z).drop a).dropWhile isL).drop 1 = (lab z).drop (a + wlen z a + 1) := by rw [← hdr, List.drop_drop]
          have hcc : cnt ((lab z).drop (a + wlen z a + 1)) < n := by
            have z1 : cnt (((lab z).drop a).dropWhile isL) ≤ cnt ((lab z).drop a) := by rw [← hdr, ← List.drop_drop]; exact cnt_drop _ _
            have z2 : cnt (((lab z).drop a).dropWhile isL) = cnt ((lab z).drop (a + wlen z a + 1)) + 1 := by
              rw [← e4]
              conv => lhs; rw [e3]
              exact List.count_cons_self
            omega
          rw [e4] at q
          exact ⟨by decide, rd_loop (Q := Q) hz rfl (fun _ h => h) (fun a Q ha hc q => read n hz a Q Z ha hc q) (rngD 0 1 (Int.toNat 4)) (a + wlen z a + 1) [] .un .un (by omega) hcc (by decide) q⟩
        · rw [if_neg h3] at q
          rw [if_pos (by rw [decide_eq_false (fun z2 => h3 (head_take.mp (mk_eq.mp z2)))]; rfl)]
          refine ⟨Nat.zero_le _, by decide, by decide, ?_⟩
          have q : Q (.tup [.tup [.str (mkS (((lab z).drop a).takeWhile isL)), .tup []], .int ((z.length - (((lab z).drop a).dropWhile isL).length : Nat) : Int)]) := q
          rw [hrl, show z.length - (z.length - (a + wlen z a)) = a + wlen z a by omega] at q
          exact q
      · rw [if_neg h2] at q
        have q : Q .non := q
        by_cases h3 : 0 < wlen z a
        · rw [if_pos (decide_eq_true (by omega)), if_pos (by rw [decide_eq_false (by omega)]; rfl)]
          exact q
        · rw [if_neg (by rw [decide_eq_false (by omega)]; simp)]
          first | exact q | (rw [if_pos (by rfl)]; exact q)
end
end K6

set_option Elab.async false
set_option maxRecDepth 100000
set_option maxHeartbeats 1000000
set_option linter.all false
namespace K6
open PySem PySem.Spec PyProof.Rows L2 Ly Pu TM
def ndDD (n : Nd) : D := .tup [.str n.1, .int (n.2 : Int)]
def ndsDD (nds : List Nd) : D := .tup (nds.map ndDD)
theorem lc_map {α : Type} {j : Nat} {F : FE} {ρ : Pu.Env} {h f : α → D} : ∀ (l : List α) {Q : List D → Prop}, (∀ a ∈ l, ∀ R : D → Prop, R (f a) → F (ρ.set j (.val (h a))) R F0) → Q (l.map f) → lcD (gN j) fYes F ρ (l.map h) Q
  | [], Q, _, q => q
  | a :: l, Q, hf, q => by
    show F (ρ.set j (.val (h a))) (fun y => lcD (gN j) fYes F ρ (l.map h) fun ys => Q (y :: ys)) F0
    exact hf a (List.mem_cons_self ..) _ (lc_map l (fun b hb => hf b (List.mem_cons_of_mem _ hb)) q)
theorem lc_fil {α : Type} {j : Nat} {T : FT} {F : FE} {ρ : Pu.Env} {h f : α → D} {p : α → Bool} : ∀ (l : List α) {Q : List D → Prop}, (∀ a ∈ l, ∀ R : Bool → Prop, R (p a) → T (ρ.set j (.val (h a))) R F0) → (∀ a ∈ l, p a = true → ∀ R : D → Prop, R (f a) → F (ρ.set j (.val (h a))) R F0) → Q ((l.filter p).map f) → lcD (gN j) T F ρ (l.map h) Q
  | [], Q, _, _, q => q
  | a :: l, Q, ht, hf, q => by
    show T (ρ.set j (.val (h a))) (fun b => if b = true then F (ρ.set j (.val (h a))) (fun y => lcD (gN j) T F ρ (l.map h) fun ys => Q (y :: ys)) F0 else lcD (gN j) T F ρ (l.map h) Q) F0
    refine ht a (List.mem_cons_self ..) _ ?_
    have ih := fun (R : List D → Prop) (r : R ((l.filter p).map f)) => lc_fil l (Q := R) (fun b hb => ht b (List.mem_cons_of_mem _ hb)) (fun b hb => hf b (List.mem_cons_of_mem _ hb)) r
    cases c : p a with
    | true =>
      rw [if_pos rfl]
      rw [List.filter_cons_of_pos c] at q
      exact hf a (List.mem_cons_self ..) c _ (ih _ q)
    | false =>
      rw [if_neg (by simp)]
      rw [List.filter_cons_of_neg (by rw [c]; simp)] at q
      exact ih _ q
theorem isI_small {i : Int} (h1 : -1000 < i) (h2 : i < 1000) : isI (.int i) = true := by
  unfold isI
  have a : (1000 : Int) ≤ 10 ^ 60 := by decide +kernel
  rw [Bool.and_eq_true]
  exact ⟨decide_eq_true (by omega), decide_eq_true (by omega)⟩
theorem wthn_small {i lo hi : Int} (h1 : -1000 < i) (h2 : i < 1000) : wthn (.int i) lo hi = (decide (lo ≤ i) && decide (i ≤ hi)) := by
  have := isI_small h1 h2
  unfold wthn
  rw [this]
  exact Bool.true_and _
theorem bls_map {α : Type} (p : α → Bool) : ∀ l : List α, blsD (l.map fun a => D.bl (p a)) = some (l.map p)
  | [] => rfl
  | a :: l => by
    show (blsD (l.map fun a => D.bl (p a))).map (p a :: ·) = _
    rw [bls_map p l]
    rfl
section
variable {K : PySem.W.Frag} {A : Adr}
theorem is_integer {i : Int} (h : -1000000 < i ∧ i < 1000000) {Q : D → Prop} {Z : ZX} (q : Q (.bl true)) : G_is_integer K A [.int i] Q Z := by
  unfold G_is_integer S_is_integer
  simp only [fnS, Pu.startB, sSeq, sAsg, sIf, sRet, sNext, sNew, sApp, sPar, sDem, demB, fVar, fVarT, fC, fOp, fTst, fAnd, fOr, fNot, fNew, fLst, fTup, fNil, fCons, fSl, oAt, oNo, fCB, fCall, fIf, fChain, fRng1, fIt, fJoin, RLen, RI0, RAdd, RIx, RSl, RIsN, RTuple, RIn, gN, bD, List.map_cons, List.map_nil, List.cons_append, List.nil_append, List.length_cons, List.length_nil, List.replicate, Nat.reduceSub, Nat.reduceAdd, List.getElem?_cons_zero, List.getElem?_cons_succ, List.set_cons_zero, List.set_cons_succ, Option.some.injEq, B.val.injEq, D.int.injEq, D.bl.injEq, D.str.injEq, D.tup.injEq, D.lst.injEq, exists_eq_left', exists_eq_left, exists_and_left, ex_eq, true_and, and_true, List.cons.injEq, fIsi, fAndV, fNotV, fNeg, okI, kdD, kdIs]
  rw [if_pos (by decide), if_pos (by decide), if_pos (decide_eq_true (by omega)), decide_eq_true (by omega)]
  exact q
theorem is_within {i lo hi : Int} (h : -1000000 < i ∧ i < 1000000) {Q : D → Prop} {Z : ZX} (q : Q (.bl (decide (lo ≤ i) && decide (i ≤ hi)))) : G_is_within K A [.int i, .int lo, .int hi] Q Z := by
  unfold G_is_within S_is_within
  simp only [fnS, Pu.startB, sSeq, sAsg, sIf, sRet, sNext, sNew, sApp, sPar, sDem, demB, fVar, fVarT, fC, fOp, fTst, fAnd, fOr, fNot, fNew, fLst, fTup, fNil, fCons, fSl, oAt, oNo, fCB, fCall, fIf, fChain, fRng1, fIt, fJoin, RLen, RI0, RAdd, RIx, RSl, RIsN, RTuple, RIn, gN, bD, List.map_cons, List.map_nil, List.cons_append, List.nil_append, List.length_cons, List.length_nil, List.replicate, Nat.reduceSub, Nat.reduceAdd, List.getElem?_cons_zero, List.getElem?_cons_succ, List.set_cons_zero, List.set_cons_succ, Option.some.injEq, B.val.injEq, D.int.injEq, D.bl.injEq, D.str.injEq, D.tup.injEq, D.lst.injEq, exists_eq_left', exists_eq_left, exists_and_left, ex_eq, true_and, and_true, List.cons.injEq, fIsi, fAndV, fNotV, fNeg, okI, kdD, kdIs]
  refine is_integer h ?_
  simp only [fnS, Pu.startB, sSeq, sAsg, sIf, sRet, sNext, sNew, sApp, sPar, sDem, demB, fVar, fVarT, fC, fOp, fTst, fAnd, fOr, fNot, fNew, fLst, fTup, fNil, fCons, fSl, oAt, oNo, fCB, fCall, fIf, fChain, fRng1, fIt, fJoin, RLen, RI0, RAdd, RIx, RSl, RIsN, RTuple, RIn, gN, bD, List.map_cons, List.map_nil, List.cons_append, List.nil_append, List.length_cons, List.length_nil, List.replicate, Nat.reduceSub, Nat.reduceAdd, List.getElem?_cons_zero, List.getElem?_cons_succ, List.set_cons_zero, List.set_cons_succ, Option.some.injEq, B.val.injEq, D.int.injEq, D.bl.injEq, D.str.injEq, D.tup.injEq, D.lst.injEq, exists_eq_left', exists_eq_left, exists_and_left, ex_eq, true_and, and_true, List.cons.injEq, fIsi, fAndV, fNotV, fNeg, okI, kdD, kdIs, if_true]
  by_cases h1 : lo ≤ i
  · rw [decide_eq_true h1, Bool.true_and] at q
    rw [if_pos (decide_eq_true h1)]
    exact q
  · rw [decide_eq_false h1, Bool.false_and] at q
    rw [if_neg (by rw [decide_eq_false h1]; simp)]
    exact q
theorem is_word {z : Str} (h : z.length ≤ 100000) {Q : D → Prop} {Z : ZX} (q : Q (.bl (isW (.str z)))) : G_is_word K A [.str z] Q Z := by
  have hs : z.length ≤ sizeLine := by rw [sizeLine_eq]; omega
  unfold G_is_word S_is_word
  simp only [fnS, Pu.startB, sSeq, sAsg, sIf, sRet, sNext, sNew, sApp, sPar, sDem, demB, fVar, fVarT, fC, fOp, fTst, fAnd, fOr, fNot, fNew, fLst, fTup, fNil, fCons, fSl, oAt, oNo, fCB, fCall, fIf, fChain, fRng1, fIt, fJoin, RLen, RI0, RAdd, RIx, RSl, RIsN, RTuple, RIn, gN, bD, List.map_cons, List.map_nil, List.cons_append, List.nil_append, List.length_cons, List.length_nil, List.replicate, Nat.reduceSub, Nat.reduceAdd, List.getElem?_cons_zero, List.getElem?_cons_succ, List.set_cons_zero, List.set_cons_succ, Option.some.injEq, B.val.injEq, D.int.injEq, D.bl.injEq, D.str.injEq, D.tup.injEq, D.lst.injEq, exists_eq_left', exists_eq_left, exists_and_left, ex_eq, true_and, and_true, List.cons.injEq, fIsi, fAndV, fNotV, fNeg, okI, kdD, kdIs, lenD_str hs, RAll, fLc, itD]
  have q : Q (.bl ((decide (1 ≤ (z.length : Int)) && decide ((z.length : Int) ≤ 8)) && z.cps.toList.all fun c => decide (c ∈ letters))) := q
  rw [if_pos (by decide)]
  by_cases h1 : 1 ≤ (z.length : Int)
  · rw [if_pos (decide_eq_true h1)]
    rw [decide_eq_true h1, Bool.true_and] at q
    by_cases h2 : (z.length : Int) ≤ 8
    · rw [if_pos (decide_eq_true h2)]
      rw [decide_eq_true h2, Bool.true_and] at q
      refine ⟨_, if_pos hs, by rw [signsD, List.length_map, Array.length_toList]; exact hs, ?_⟩
      refine lc_map (f := fun c => .bl (isL c)) z.cps.toList (fun c _ R r => ?_) ?_
      · simp only [fnS, Pu.startB, sSeq, sAsg, sIf, sRet, sNext, sNew, sApp, sPar, sDem, demB, fVar, fVarT, fC, fOp, fTst, fAnd, fOr, fNot, fNew, fLst, fTup, fNil, fCons, fSl, oAt, oNo, fCB, fCall, fIf, fChain, fRng1, fIt, fJoin, RLen, RI0, RAdd, RIx, RSl, RIsN, RTuple, RIn, gN, bD, List.map_cons, List.map_nil, List.cons_append, List.nil_append, List.length_cons, List.length_nil, List.replicate, Nat.reduceSub, Nat.reduceAdd, List.getElem?_cons_zero, List.getElem?_cons_succ, List.set_cons_zero, List.set_cons_succ, Option.some.injEq, B.val.injEq, D.int.injEq, D.bl.injEq, D.str.injEq, D.tup.injEq, D.lst.injEq, exists_eq_left', exists_eq_left, exists_and_left, ex_eq, true_and, and_true, List.cons.injEq, wipeB, Bool.false_bne, in_let]
        exact r
      · refine ⟨_, bls_map isL _, ?_⟩
        rw [List.all_map]
        exact q
    · rw [if_neg (by rw [decide_eq_false h2]; simp)]
      rw [decide_eq_false h2, Bool.false_and] at q
      exact q
  · rw [if_neg (by rw [decide_eq_false h1]; simp), if_neg (by simp)]
    rw [decide_eq_false h1, Bool.false_and, Bool.false_and] at q
    exact q
theorem is_node {n : Nd} (h : n.1.length ≤ 100000 ∧ n.2 < 1000) {Q : D → Prop} {Z : ZX} (q : Q (.bl (isNode2 (.str n.1) (.int (n.2 : Int))))) : G_is_node K A [ndDD n] Q Z := by
  unfold G_is_node S_is_node ndDD
  simp only [fnS, Pu.startB, sSeq, sAsg, sIf, sRet, sNext, sNew, sApp, sPar, sDem, demB, fVar, fVarT, fC, fOp, fTst, fAnd, fOr, fNot, fNew, fLst, fTup, fNil, fCons, fSl, oAt, oNo, fCB, fCall, fIf, fChain, fRng1, fIt, fJoin, RLen, RI0, RAdd, RIx, RSl, RIsN, RTuple, RIn, gN, bD, List.map_cons, List.map_nil, List.cons_append, List.nil_append, List.length_cons, List.length_nil, List.replicate, Nat.reduceSub, Nat.reduceAdd, List.getElem?_cons_zero, List.getElem?_cons_succ, List.set_cons_zero, List.set_cons_succ, Option.some.injEq, B.val.injEq, D.int.injEq, D.bl.injEq, D.str.injEq, D.tup.injEq, D.lst.injEq, exists_eq_left', exists_eq_left, exists_and_left, ex_eq, true_and, and_true, List.cons.injEq, fIsi, fAndV, fOrV, fNotV, fNeg, okI, kdD, kdIs, lenD, RNe, REq, sc, at0, at1]
  have hsig : ([D.str (Str.ofString "_"), D.str (Str.ofString "#")].any fun y => eqF y (D.str n.1)) = decide (V.str n.1 = V.str "_" ∨ V.str n.1 = V.str "#") := by
    show ((Str.ofString "_" == n.1) || ((Str.ofString "#" == n.1) || false)) = _
    rw [Bool.or_false, Bool.eq_iff_iff, Bool.or_eq_true, beq_iff_eq, beq_iff_eq, decide_eq_true_iff]
    constructor
    · rintro (h | h)
      · exact .inl (by rw [← h])
      · exact .inr (by rw [← h])
    · rintro (h | h)
      · injection h with h; exact .inl h.symm
      · injection h with h; exact .inr h.symm
  rw [if_neg (by decide), if_neg (by decide)]
  refine is_within ⟨by omega, by omega⟩ ⟨_, rfl, ?_⟩
  have hw := wthn_small (i := (n.2 : Int)) (lo := 0) (hi := 3) (by omega) (by omega)
  have q : Q (.bl (wthn (.int (n.2 : Int)) 0 3 && (isW (.str n.1) || (decide (V.str n.1 = V.str "_" ∨ V.str n.1 = V.str "#") && decide (V.int (n.2 : Int) = V.int 0))))) := q
  rw [hw] at q
  cases c : (decide ((0 : Int) ≤ n.2) && decide ((n.2 : Int) ≤ 3)) with
  | false =>
    rw [c] at q
    rw [if_pos (by rfl)]
    exact q
  | true =>
    rw [c, Bool.true_and] at q
    rw [if_neg (by simp)]
    refine is_word h.1 ⟨_, rfl, ?_⟩
    cases c2 : isW (.str n.1) with
    | true =>
      rw [c2] at q
      rw [if_pos rfl]
      exact q
    | false =>
      rw [c2, Bool.false_or] at q
      rw [if_neg (by simp), if_pos (by decide), hsig, Bool.false_bne]
      refine ⟨by decide, rfl, rfl, ?_⟩
      have hd : decide ((n.2 : Int) = 0) = decide (V.int (n.2 : Int) = V.int 0) := by
        refine decide_eq_decide.mpr ⟨fun h => by rw [h], fun h => by injection h⟩
      cases c3 : decide (V.str n.1 = V.str "_" ∨ V.str n.1 = V.str "#") with
      | true =>
        rw [c3, Bool.true_and] at q
        rw [if_pos rfl, hd]
        exact q
      | false =>
        rw [c3, Bool.false_and] at q
        rw [if_neg (by simp)]
        exact q
end
end K6

set_option Elab.async false
set_option maxRecDepth 100000
set_option maxHeartbeats 1000000
set_option linter.all false
namespace K6
open PySem PySem.Spec PyProof.Rows L2 Ly Pu TM
def iD (l : List Nat) : List D := l.map fun (n : Nat) => D.int (n : Int)
theorem iD_len (l : List Nat) : (iD l).length = l.length := List.length_map ..
def iT (l : List Nat) : D := .tup (iD l)
def dwn : Nat → List D
  | 0 => []
  | m + 1 => .int (m : Int) :: dwn m
theorem rng_dwn (n : Nat) : rngD ((n : Int) - 1) (-1) n = dwn n := by
  have h : ∀ m, ((List.range m).map fun k => D.int ((m : Int) - 1 + (k : Nat) * (-1))) = dwn m := by
    intro m
    induction m with
    | zero => rfl
    | succ m ih =>
      rw [List.range_succ_eq_map, List.map_cons, List.map_map]
      show D.int (((m + 1 : Nat) : Int) - 1 + ((0 : Nat) : Int) * (-1)) :: _ = D.int (m : Int) :: dwn m
      rw [← ih]
      congr 1
      · congr 1; omega
      · apply List.map_congr_left
        intro k _
        show D.int (((m + 1 : Nat) : Int) - 1 + ((k + 1 : Nat) : Int) * (-1)) = D.int ((m : Int) - 1 + (k : Nat) * (-1))
        congr 1; omega
  exact h n
theorem cut_fr (xs : List D) {k : Nat} (h : k ≤ xs.length) : Pu.cutD xs (some (k : Int)) none = xs.drop k := by
  unfold Pu.cutD
  rw [HT.sIx_nat, HT.sIx_none, Nat.min_eq_left h, List.take_of_length_le (by rw [List.length_drop]; omega)]
theorem cut_to (xs : List D) {k : Nat} (h : k ≤ xs.length) : Pu.cutD xs none (some (k : Int)) = xs.take k := by
  unfold Pu.cutD
  rw [HT.sIx_nat, HT.sIx_none, Nat.min_eq_left h, List.drop_zero, Nat.sub_zero]
theorem ixN_nat {n i : Nat} (h : i < n) : ixN n (i : Int) = some i := by
  unfold ixN
  rw [if_pos (by omega), if_pos (by omega)]
  rfl
def chB (K : PySem.W.Frag) (A : Adr) : FS := (sSeq (sAsg 5 (fOp RSub (fCB RLen (fCons (fVarT 3) fNil)) (fOp RIx (fOp RIx (fVarT 0) (fVarT 4)) (fC (.int 1))))) (sSeq (sIf (fTst (fOp RLt (fVarT 5) (fC (.int 0)))) (sRet (fC .non)) sNext) (sSeq (sPut 1 (fVar 4) (fCB RTuple (fCons (fNew (fRev (fSl (fVarT 3) (oAt (fVar 5)) oNo))) fNil))) (sAsg 3 (fNew (fLst (fStar (fSl (fVarT 3) oNo (oAt (fVar 5))) (fCons (fVar 4) fNil))))))))
theorem put_rep {α : Type} (e d : α) (f : List α) (m : Nat) : (List.replicate (m + 1) e ++ f).set m d = List.replicate m e ++ (d :: f) := by
  rw [List.replicate_succ', List.append_assoc, List.set_append_right _ _ (by rw [List.length_replicate]; omega), List.length_replicate, Nat.sub_self]
  rfl
theorem toPs_iD : ∀ l : List Nat, toPs (iD l) = l.map fun (n : Nat) => PyData.int (n : Int)
  | [] => rfl
  | n :: l => by
    show toP (D.int (n : Int)) :: toPs (iD l) = _
    rw [toPs_iD l]
    rfl
theorem eq_ints {w v : List Nat} {Q : D → Prop} (q : Q (.bl (decide (w = v)))) : REq (.lst (iD w)) (.lst (iD v)) Q := by
  have h : ∀ l, shp (.lst (iD l)) := fun l => by
    show SeqAt.shaped (.list (toPs (iD l))) = true
    rw [toPs_iD]
    exact (ints_shaped l).1
  refine ⟨h w, h v, ?_⟩
  show Q (.bl (PyData.eqv (.list (toPs (iD w))) (.list (toPs (iD v)))))
  rw [toPs_iD, toPs_iD]
  show Q (.bl (PyData.eqvAll _ _))
  rw [intsV_eqv]
  exact q
section
variable {K : PySem.W.Frag} {A : Adr}
theorem ch_loop {nds : List Nd} (hn : nds.length ≤ 1000) {Q : D → Prop} {De : EndsD} (hr : De.rt = Q) (hx : ∀ o2 o4 o5 (w : List Nat) (f : List (List Nat)), chF (nds.map (·.2)) 0 = some (w, f) → De.nx [.val (ndsDD nds), .lst (f.map iT), o2, .val (.lst (iD w)), o4, o5]) (h0 : chF (nds.map (·.2)) 0 = none → Q .non) :
    ∀ (m : Nat) (w : List Nat) (f : List (List Nat)) (o2 o4 o5 : B), m ≤ nds.length → chF ((nds.map (·.2)).drop m) m = some (w, f) →
      forD (gN 4) (chB K A) (dwn m) [.val (ndsDD nds), .lst (List.replicate m (.tup []) ++ f.map iT), o2, .val (.lst (iD w)), o4, o5] De
  | 0, w, f, o2, o4, o5, hm, h => hx o2 o4 o5 w f h
  | m + 1, w, f, o2, o4, o5, hm, h => by
    unfold dwn forD chB ndsDD
    obtain ⟨n, hnd⟩ : ∃ n, nds[m]? = some n := ⟨nds[m], List.getElem?_eq_getElem (by omega)⟩
    have hat : (nds.map ndDD)[m]? = some (ndDD n) := by rw [List.getElem?_map, hnd]; rfl
    obtain ⟨fl, wl⟩ := chF_len h
    rw [List.length_drop, List.length_map] at fl wl
    have hstep : chF ((nds.map (·.2)).drop m) m = if w.length < n.2 then none else some (w.take (w.length - n.2) ++ [m], (w.drop (w.length - n.2)).reverse :: f) := by
      have e : (nds.map (·.2)).drop m = n.2 :: (nds.map (·.2)).drop (m + 1) := by
        have h1 : (nds.map (·.2))[m]? = some n.2 := by rw [List.getElem?_map, hnd]; rfl
        obtain ⟨h2, h3⟩ := List.getElem?_eq_some_iff.mp h1
        rw [List.drop_eq_getElem_cons h2, h3]
      rw [e, chF_cons, h]
    have ih := fun (w' : List Nat) (f' : List (List Nat)) (o2 o4 o5 : B) (q : chF ((nds.map (·.2)).drop m) m = some (w', f')) => ch_loop hn hr hx h0 m w' f' o2 o4 o5 (by omega) q
    generalize hR : List.replicate (m + 1) (D.tup []) ++ f.map iT = R
    have hRl : m < R.length := by rw [← hR, List.length_append, List.length_replicate]; omega
    simp only [fnS, Pu.startB, sSeq, sAsg, sIf, sRet, sNext, sNew, sApp, sPar, sDem, demB, fVar, fVarT, fC, fOp, fTst, fAnd, fOr, fNot, fNew, fLst, fTup, fNil, fCons, fSl, oAt, oNo, fCB, fCall, fIf, fChain, fRng1, fIt, fJoin, RLen, RI0, RAdd, RIx, RSl, RIsN, RTuple, RIn, gN, bD, List.map_cons, List.map_nil, List.cons_append, List.nil_append, List.length_cons, List.length_nil, List.replicate, Nat.reduceSub, Nat.reduceAdd, List.getElem?_cons_zero, List.getElem?_cons_succ, List.set_cons_zero, List.set_cons_succ, Option.some.injEq, B.val.injEq, D.int.injEq, D.bl.injEq, D.str.injEq, D.tup.injEq, D.lst.injEq, exists_eq_left', exists_eq_left, exists_and_left, ex_eq, true_and, and_true, List.cons.injEq, lenD, atI_nat, hat, ndDD, at1, B.lst.injEq, fRev, fStar, sPut, seqD]
    rw [iD_len]
    by_cases hlt : w.length < n.2
    · rw [if_pos (decide_eq_true (by omega)), hr]
      rw [if_pos hlt] at hstep
      exact h0 (chF_none (k := m) (by rw [Nat.zero_add]; exact hstep))
    · rw [if_neg (by rw [decide_eq_false (by omega)]; simp)]
      rw [if_neg hlt] at hstep
      have hk : (w.length : Int) - (n.2 : Int) = ((w.length - n.2 : Nat) : Int) := by omega
      rw [hk, cut_fr _ (by rw [iD_len]; omega), cut_to _ (by rw [iD_len]; omega)]
      refine ⟨m, ixN_nat hRl, by rw [List.length_append, List.length_take, iD_len, sizeLine_eq]; simp; omega, ?_⟩
      have q := ih _ _ o2 (.val (.int (m : Int))) (.val (.int ((w.length - n.2 : Nat) : Int))) hstep
      have e1 : R.set m (D.tup ((iD w).drop (w.length - n.2)).reverse) = List.replicate m (D.tup []) ++ ((w.drop (w.length - n.2)).reverse :: f).map iT := by
        rw [← hR, put_rep]
        show _ ++ (_ :: f.map iT) = _ ++ (iT _ :: f.map iT)
        unfold iT iD
        rw [List.map_reverse, List.map_drop]
      have e2 : (iD w).take (w.length - n.2) ++ [D.int (m : Int)] = iD (w.take (w.length - n.2) ++ [m]) := by
        unfold iD
        rw [List.map_append, List.map_take]
        rfl
      rw [e1, e2]
      exact q
theorem children_of {nds : List Nd} (hn : nds.length ≤ 1000) {Q : D → Prop} {Z : ZX} (q : match chOf nds with | none => Q .non | some cs => Q (.lst (cs.map iT))) : G_children_of K A [ndsDD nds] Q Z := by
  unfold G_children_of S_children_of ndsDD
  simp only [fnS, Pu.startB, sSeq, sAsg, sIf, sRet, sNext, sNew, sApp, sPar, sDem, demB, fVar, fVarT, fC, fOp, fTst, fAnd, fOr, fNot, fNew, fLst, fTup, fNil, fCons, fSl, oAt, oNo, fCB, fCall, fIf, fChain, fRng1, fIt, fJoin, RLen, RI0, RAdd, RIx, RSl, RIsN, RTuple, RIn, gN, bD, List.map_cons, List.map_nil, List.cons_append, List.nil_append, List.length_cons, List.length_nil, List.replicate, Nat.reduceSub, Nat.reduceAdd, List.getElem?_cons_zero, List.getElem?_cons_succ, List.set_cons_zero, List.set_cons_succ, Option.some.injEq, B.val.injEq, D.int.injEq, D.bl.injEq, D.str.injEq, D.tup.injEq, D.lst.injEq, exists_eq_left', exists_eq_left, exists_and_left, ex_eq, true_and, and_true, List.cons.injEq, lenD, itD, fLc, sFor, fRng3, fNeg]
  refine ⟨by rw [List.length_map, sizeLine_eq]; omega, ?_⟩
  refine lc_map (f := fun _ => D.tup []) nds (fun n _ R r => ?_) ?_
  · simp only [fnS, Pu.startB, sSeq, sAsg, sIf, sRet, sNext, sNew, sApp, sPar, sDem, demB, fVar, fVarT, fC, fOp, fTst, fAnd, fOr, fNot, fNew, fLst, fTup, fNil, fCons, fSl, oAt, oNo, fCB, fCall, fIf, fChain, fRng1, fIt, fJoin, RLen, RI0, RAdd, RIx, RSl, RIsN, RTuple, RIn, gN, bD, List.map_cons, List.map_nil, List.cons_append, List.nil_append, List.length_cons, List.length_nil, List.replicate, Nat.reduceSub, Nat.reduceAdd, List.getElem?_cons_zero, List.getElem?_cons_succ, List.set_cons_zero, List.set_cons_succ, Option.some.injEq, B.val.injEq, D.int.injEq, D.bl.injEq, D.str.injEq, D.tup.injEq, D.lst.injEq, exists_eq_left', exists_eq_left, exists_and_left, ex_eq, true_and, and_true, List.cons.injEq, wipeB]
    exact ⟨Nat.zero_le _, r⟩
  · refine ⟨Nat.zero_le _, _, _, ⟨rfl, rfl⟩, ⟨by rw [List.length_map]; omega, by rw [List.length_map]; omega⟩, by decide, ?_⟩
    rw [List.length_map, show ((nds.length : Int) - 1 - -1).toNat = nds.length by omega, rng_dwn]
    have hrep : nds.map (fun _ => D.tup []) = List.replicate nds.length (D.tup []) ++ ([] : List (List Nat)).map iT := by
      rw [List.map_const', List.map_nil, List.append_nil]
    rw [hrep]
    unfold chOf at q
    refine ch_loop (K := K) (A := A) (Q := Q) hn rfl (fun o2 o4 o5 w f h => ?_) (fun h => ?_) nds.length [] [] .un .un .un (Nat.le_refl _) (by rw [List.drop_of_length_le (by rw [List.length_map]; exact Nat.le_refl _)]; rfl)
    · rw [h] at q
      simp only [fnS, Pu.startB, sSeq, sAsg, sIf, sRet, sNext, sNew, sApp, sPar, sDem, demB, fVar, fVarT, fC, fOp, fTst, fAnd, fOr, fNot, fNew, fLst, fTup, fNil, fCons, fSl, oAt, oNo, fCB, fCall, fIf, fChain, fRng1, fIt, fJoin, RLen, RI0, RAdd, RIx, RSl, RIsN, RTuple, RIn, gN, bD, List.map_cons, List.map_nil, List.cons_append, List.nil_append, List.length_cons, List.length_nil, List.replicate, Nat.reduceSub, Nat.reduceAdd, List.getElem?_cons_zero, List.getElem?_cons_succ, List.set_cons_zero, List.set_cons_succ, Option.some.injEq, B.val.injEq, D.int.injEq, D.bl.injEq, D.str.injEq, D.tup.injEq, D.lst.injEq, exists_eq_left', exists_eq_left, exists_and_left, ex_eq, true_and, and_true, List.cons.injEq, demB]
      refine ⟨by decide, eq_ints (v := [0]) ⟨_, rfl, ?_⟩⟩
      have q : match (if w = [0] then some f else none) with | none => Q .non | some cs => Q (.lst (cs.map iT)) := q
      by_cases hw : w = [0]
      · rw [if_pos hw] at q
        rw [if_pos (decide_eq_true hw)]
        first | exact q | exact ⟨_, rfl, q⟩
      · rw [if_neg hw] at q
        rw [if_neg (by rw [decide_eq_false hw]; simp)]
        exact q
    · rw [h] at q
      exact q
end
end K6

set_option Elab.async false
set_option maxRecDepth 100000
set_option maxHeartbeats 1000000
set_option linter.all false
namespace K6
open PySem PySem.Spec PyProof.Rows L2 Ly Pu TM
def enB (K : PySem.W.Frag) (A : Adr) : FS := (sIf (fTst (fOp RNe (fOp RIx (fVarT 0) (fVarT 2)) (fTup fNil))) (sPut 1 (fVar 2) (fOp RIx (fVarT 1) (fOp RIx (fOp RIx (fVarT 0) (fVarT 2)) (fNeg (fC (.int 1)))))) sNext)
theorem shp_iT (l : List Nat) : shp (iT l) := by
  show SeqAt.shaped (.tuple (toPs (iD l))) = true
  rw [toPs_iD]
  exact (ints_shaped l).2
theorem ne_nil {c : List Nat} {Q : D → Prop} (q : Q (.bl (!decide (c = [])))) : RNe (iT c) (.tup []) Q := by
  refine ⟨shp_iT c, shp_iT [], ?_⟩
  show Q (.bl (!PyData.eqv (.tuple (toPs (iD c))) (.tuple (toPs (iD [])))))
  rw [toPs_iD, toPs_iD]
  show Q (.bl (!PyData.eqvAll _ _))
  rw [intsV_eqv]
  exact q
theorem at_last {xs : List D} {x : D} (h : xs.getLast? = some x) : atI xs (-1) = some x := by
  unfold atI ixN
  cases xs with
  | nil => cases h
  | cons a xs =>
    rw [if_neg (by omega), if_pos (by simp; omega)]
    rw [List.getLast?_eq_getElem?] at h
    show (a :: xs)[((-1 : Int) + ((a :: xs).length : Nat)).toNat]? = some x
    rw [show ((-1 : Int) + ((a :: xs).length : Nat)).toNat = (a :: xs).length - 1 by simp; omega]
    exact h
section
variable {K : PySem.W.Frag} {A : Adr}
theorem en_loop {cs : List (List Nat)} (hl : cs.length ≤ 1000) (hc : ChOk cs) {De : EndsD} (hx : ∀ o2, De.nx [.val (.tup (cs.map iT)), .lst (iD (enF cs 0)), o2]) :
    ∀ (m : Nat) (o2 : B), m ≤ cs.length → forD (gN 2) (enB K A) (dwn m) [.val (.tup (cs.map iT)), .lst (iD (enL cs m)), o2] De
  | 0, o2, hm => hx o2
  | m + 1, o2, hm => by
    unfold dwn forD enB
    obtain ⟨c, hcm⟩ : ∃ c, cs[m]? = some c := ⟨cs[m], List.getElem?_eq_getElem (by omega)⟩
    have hat : (cs.map iT)[m]? = some (iT c) := by rw [List.getElem?_map, hcm]; rfl
    have ih := fun (o2 : B) => en_loop hl hc hx m o2 (by omega)
    simp only [fnS, Pu.startB, sSeq, sAsg, sIf, sRet, sNext, sNew, sApp, sPar, sDem, demB, fVar, fVarT, fC, fOp, fTst, fAnd, fOr, fNot, fNew, fLst, fTup, fNil, fCons, fSl, oAt, oNo, fCB, fCall, fIf, fChain, fRng1, fIt, fJoin, RLen, RI0, RAdd, RIx, RSl, RIsN, RTuple, RIn, gN, bD, List.map_cons, List.map_nil, List.cons_append, List.nil_append, List.length_cons, List.length_nil, List.replicate, Nat.reduceSub, Nat.reduceAdd, List.getElem?_cons_zero, List.getElem?_cons_succ, List.set_cons_zero, List.set_cons_succ, Option.some.injEq, B.val.injEq, D.int.injEq, D.bl.injEq, D.str.injEq, D.tup.injEq, D.lst.injEq, exists_eq_left', exists_eq_left, exists_and_left, ex_eq, true_and, and_true, List.cons.injEq, lenD, atI_nat, hat, B.lst.injEq, sPut, fNeg]
    refine ⟨Nat.zero_le _, ne_nil ⟨_, rfl, ?_⟩⟩
    cases c with
    | nil =>
      rw [if_neg (by simp)]
      rw [enL_nil hcm]
      exact ih _
    | cons a c =>
      rw [if_pos (by simp)]
      obtain ⟨k, hk⟩ : ∃ k, (a :: c).getLast? = some k := ⟨_, List.getLast?_eq_some_getLast (by simp)⟩
      have hkm : k ∈ a :: c := List.mem_of_getLast? hk
      have hkb := hc m _ hcm k hkm
      have hge : (enL cs (m + 1))[k]? = some ((enL cs (m + 1)).getD k 0) := by
        have : k < (enL cs (m + 1)).length := by rw [enL_len (by omega)]; exact hkb.2
        rw [List.getD_eq_getElem?_getD, List.getElem?_eq_getElem this]
        rfl
      have hla : atI (iD (a :: c)) (-1) = some (.int (k : Int)) := at_last (by unfold iD; rw [List.getLast?_map, hk]; rfl)
      refine ⟨_, hla, .int ((enL cs (m + 1)).getD k 0 : Nat), ?_, m, ixN_nat (by rw [iD_len, enL_len (by omega)]; omega), ?_⟩
      · rw [atI_nat]
        unfold iD
        rw [List.getElem?_map, hge]
        rfl
      · have e : (iD (enL cs (m + 1))).set m (.int ((enL cs (m + 1)).getD k 0 : Nat)) = iD (enL cs m) := by
          rw [← enL_set hcm hk hkb.1]
          unfold iD
          rw [List.map_set]
        rw [e]
        exact ih _
theorem ends_of {cs : List (List Nat)} (hl : cs.length ≤ 1000) (hc : ChOk cs) {Q : D → Prop} {Z : ZX} (q : Q (.lst (iD (enF cs 0)))) : G_ends_of K A [.tup (cs.map iT)] Q Z := by
  unfold G_ends_of S_ends_of
  simp only [fnS, Pu.startB, sSeq, sAsg, sIf, sRet, sNext, sNew, sApp, sPar, sDem, demB, fVar, fVarT, fC, fOp, fTst, fAnd, fOr, fNot, fNew, fLst, fTup, fNil, fCons, fSl, oAt, oNo, fCB, fCall, fIf, fChain, fRng1, fIt, fJoin, RLen, RI0, RAdd, RIx, RSl, RIsN, RTuple, RIn, gN, bD, List.map_cons, List.map_nil, List.cons_append, List.nil_append, List.length_cons, List.length_nil, List.replicate, Nat.reduceSub, Nat.reduceAdd, List.getElem?_cons_zero, List.getElem?_cons_succ, List.set_cons_zero, List.set_cons_succ, Option.some.injEq, B.val.injEq, D.int.injEq, D.bl.injEq, D.str.injEq, D.tup.injEq, D.lst.injEq, exists_eq_left', exists_eq_left, exists_and_left, ex_eq, true_and, and_true, List.cons.injEq, lenD, itD, fLc, sFor, fRng3, fNeg]
  rw [List.length_map, Int.toNat_natCast]
  refine ⟨⟨by omega, by omega⟩, by rw [rngD, List.length_map, List.length_range, sizeLine_eq]; omega, ?_⟩
  refine lc_map (h := fun (k : Nat) => D.int (0 + (k : Nat) * 1)) (f := fun (k : Nat) => D.int ((k + 1 : Nat) : Int)) (List.range cs.length) (fun k _ R r => ?_) ?_
  · simp only [fnS, Pu.startB, sSeq, sAsg, sIf, sRet, sNext, sNew, sApp, sPar, sDem, demB, fVar, fVarT, fC, fOp, fTst, fAnd, fOr, fNot, fNew, fLst, fTup, fNil, fCons, fSl, oAt, oNo, fCB, fCall, fIf, fChain, fRng1, fIt, fJoin, RLen, RI0, RAdd, RIx, RSl, RIsN, RTuple, RIn, gN, bD, List.map_cons, List.map_nil, List.cons_append, List.nil_append, List.length_cons, List.length_nil, List.replicate, Nat.reduceSub, Nat.reduceAdd, List.getElem?_cons_zero, List.getElem?_cons_succ, List.set_cons_zero, List.set_cons_succ, Option.some.injEq, B.val.injEq, D.int.injEq, D.bl.injEq, D.str.injEq, D.tup.injEq, D.lst.injEq, exists_eq_left', exists_eq_left, exists_and_left, ex_eq, true_and, and_true, List.cons.injEq, wipeB]
    rw [show (0 : Int) + (k : Int) * 1 + 1 = ((k + 1 : Nat) : Int) by omega]
    exact r
  · refine ⟨_, _, ⟨rfl, rfl⟩, ⟨by omega, by omega⟩, by decide, ?_⟩
    rw [show ((cs.length : Int) - 1 - -1).toNat = cs.length by omega, rng_dwn]
    have e : ((List.range cs.length).map fun (k : Nat) => D.int ((k + 1 : Nat) : Int)) = iD (enL cs cs.length) := by
      unfold iD enL
      rw [List.drop_of_length_le (Nat.le_refl _)]
      show _ = ((List.range cs.length).map (· + 1) ++ []).map _
      rw [List.append_nil, List.map_map]
      rfl
    rw [e]
    refine en_loop (K := K) (A := A) hl hc (fun o2 => ?_) cs.length .un (Nat.le_refl _)
    exact ⟨_, rfl, q⟩
end
end K6

set_option Elab.async false
set_option maxRecDepth 100000
set_option maxHeartbeats 1000000
set_option linter.all false
namespace K6
open PySem PySem.Spec PyProof.Rows L2 Ly Pu TM
theorem eq_nil {c : List Nat} {Q : D → Prop} (q : Q (.bl (decide (c = [])))) : REq (iT c) (.tup []) Q := by
  refine ⟨shp_iT c, shp_iT [], ?_⟩
  show Q (.bl (PyData.eqv (.tuple (toPs (iD c))) (.tuple (toPs (iD [])))))
  rw [toPs_iD, toPs_iD]
  show Q (.bl (PyData.eqvAll _ _))
  rw [intsV_eqv]
  exact q
theorem strs_map : ∀ zs : List Str, strsD (zs.map D.str) = some zs
  | [] => rfl
  | z :: zs => by
    show (strsD (zs.map D.str)).map (z :: ·) = _
    rw [strs_map zs]
    rfl
theorem txt_bound {w : Str} {ts : List Tr} (h : Tr.All (fun w => w.length ≤ 100) (.nd w ts)) (hs : Tr.size (.nd w ts) ≤ 100) : ((ts.map Tr.text).map (·.length)).sum + (ts.map Tr.text).length * 2 ≤ 10400 ∧ w.length ≤ 100 ∧ (Txt.join ", " (ts.map Tr.text)).length ≤ 10400 := by
  have h1 := texts_len (m := 100) ts h.2
  have h2 : (nodesL ts).length + 1 ≤ 100 := hs
  rw [textsL_map] at h1
  have h3 : ((ts.map Tr.text).map (·.length)).sum + 2 * ts.length ≤ 10400 := by
    refine Nat.le_trans h1 ?_
    have : (100 + 4) * (nodesL ts).length ≤ 104 * 100 := Nat.mul_le_mul_left _ (by omega)
    omega
  have h4 := join_len (ts.map Tr.text)
  rw [List.length_map] at h4
  refine ⟨by rw [List.length_map]; omega, h.1, ?_⟩
  rw [TL.join_eq]
  exact Nat.le_trans h4 (by omega)
theorem slen_app (a b : Str) : (a ++ b).length = a.length + b.length := by
  show (a.cps ++ b.cps).size = _
  rw [Array.size_append]
  rfl
section
variable {K : PySem.W.Frag} {A : Adr}
theorem text_of {nds : List Nd} {cs : List (List Nat)} : ∀ (n : Nat) (p : Nat) (s : Tr) (Q : D → Prop) (Z : ZX), Sub nds cs p s → s.ht < n → s.All (fun w => w.length ≤ 100) → s.size ≤ 100 → Q (.str s.text) → G_text_of K A n [ndsDD nds, .tup (cs.map iT), .int (p : Int)] Q Z
  | 0, p, s, Q, Z, _, h, _, _, _ => by omega
  | n + 1, p, .nd w ts, Q, Z, hs, hh, ha, hz, q => by
    obtain ⟨h1, h2⟩ := hs.at
    have e1 : (nds.map ndDD)[p]? = some (ndDD (w, ts.length)) := by rw [List.getElem?_map, h1]; rfl
    have e2 : (cs.map iT)[p]? = some (iT (roots ts (p + 1))) := by rw [List.getElem?_map, h2]; rfl
    show fnS 4 (S_text_of K A (G_text_of K A n)) _ Q Z
    unfold S_text_of ndsDD
    simp only [fnS, Pu.startB, sSeq, sAsg, sIf, sRet, sNext, sNew, sApp, sPar, sDem, demB, fVar, fVarT, fC, fOp, fTst, fAnd, fOr, fNot, fNew, fLst, fTup, fNil, fCons, fSl, oAt, oNo, fCB, fCall, fIf, fChain, fRng1, fIt, fJoin, RLen, RI0, RAdd, RIx, RSl, RIsN, RTuple, RIn, gN, bD, List.map_cons, List.map_nil, List.cons_append, List.nil_append, List.length_cons, List.length_nil, List.replicate, Nat.reduceSub, Nat.reduceAdd, List.getElem?_cons_zero, List.getElem?_cons_succ, List.set_cons_zero, List.set_cons_succ, Option.some.injEq, B.val.injEq, D.int.injEq, D.bl.injEq, D.str.injEq, D.tup.injEq, D.lst.injEq, exists_eq_left', exists_eq_left, exists_and_left, ex_eq, true_and, and_true, List.cons.injEq, atI_nat, e1, e2, ndDD, at0]
    refine ⟨Nat.zero_le _, eq_nil ⟨_, rfl, ?_⟩⟩
    cases ts with
    | nil =>
      rw [if_pos (decide_eq_true (show roots [] (p + 1) = [] from rfl))]
      exact q
    | cons t ts =>
      rw [if_neg (by rw [decide_eq_false (by simp [roots])]; simp)]
      obtain ⟨b1, b2, b3⟩ := txt_bound ha hz
      simp only [fnS, Pu.startB, sSeq, sAsg, sIf, sRet, sNext, sNew, sApp, sPar, sDem, demB, fVar, fVarT, fC, fOp, fTst, fAnd, fOr, fNot, fNew, fLst, fTup, fNil, fCons, fSl, oAt, oNo, fCB, fCall, fIf, fChain, fRng1, fIt, fJoin, RLen, RI0, RAdd, RIx, RSl, RIsN, RTuple, RIn, gN, bD, List.map_cons, List.map_nil, List.cons_append, List.nil_append, List.length_cons, List.length_nil, List.replicate, Nat.reduceSub, Nat.reduceAdd, List.getElem?_cons_zero, List.getElem?_cons_succ, List.set_cons_zero, List.set_cons_succ, Option.some.injEq, B.val.injEq, D.int.injEq, D.bl.injEq, D.str.injEq, D.tup.injEq, D.lst.injEq, exists_eq_left', exists_eq_left, exists_and_left, ex_eq, true_and, and_true, List.cons.injEq, fLc, iT, itD, strs_map, seqD, atI_nat, e2]
      have hz1 : ("(" : Str).length = 1 := rfl
      have hz2 : (")" : Str).length = 1 := rfl
      have hz3 : (", " : Str).length = 2 := rfl
      refine ⟨by rw [hz1, sizeLine_eq]; omega, ?_⟩
      generalize hT : t :: ts = us at *
      have hus : us ≠ [] := by rw [← hT]; simp
      have hsz : (nodesL us).length + 1 ≤ 100 := hz
      have hul := lenL us
      have hrl := roots_len us (p + 1)
      have hL1 : (((roots us (p + 1)).zip us).map Prod.fst) = roots us (p + 1) := List.map_fst_zip (by omega)
      have hL2 : (((roots us (p + 1)).zip us).map Prod.snd) = us := List.map_snd_zip (by omega)
      have e3 : iD (roots us (p + 1)) = ((roots us (p + 1)).zip us).map fun x => D.int (x.1 : Int) := by
        conv => lhs; rw [← hL1]
        unfold iD
        rw [List.map_map]
        rfl
      refine ⟨by rw [iD_len, hrl, sizeLine_eq]; omega, ?_⟩
      rw [e3]
      refine lc_map (f := fun x => D.str x.2.text) _ (fun x hx R r => ?_) ?_
      · obtain ⟨i, hi⟩ := List.getElem?_of_mem hx
        rw [List.getElem?_zip_eq_some] at hi
        obtain ⟨c, hc, hsub⟩ := hs.child i x.1 hi.1
        rw [hi.2] at hc
        cases hc
        have hm : x.2 ∈ us := List.mem_of_getElem? hi.2
        simp only [fnS, Pu.startB, sSeq, sAsg, sIf, sRet, sNext, sNew, sApp, sPar, sDem, demB, fVar, fVarT, fC, fOp, fTst, fAnd, fOr, fNot, fNew, fLst, fTup, fNil, fCons, fSl, oAt, oNo, fCB, fCall, fIf, fChain, fRng1, fIt, fJoin, RLen, RI0, RAdd, RIx, RSl, RIsN, RTuple, RIn, gN, bD, List.map_cons, List.map_nil, List.cons_append, List.nil_append, List.length_cons, List.length_nil, List.replicate, Nat.reduceSub, Nat.reduceAdd, List.getElem?_cons_zero, List.getElem?_cons_succ, List.set_cons_zero, List.set_cons_succ, Option.some.injEq, B.val.injEq, D.int.injEq, D.bl.injEq, D.str.injEq, D.tup.injEq, D.lst.injEq, exists_eq_left', exists_eq_left, exists_and_left, ex_eq, true_and, and_true, List.cons.injEq, wipeB]
        have hlt := htL_lt hm
        have hh : htL us < n + 1 := hh
        have hsm := sizeL_mem hm
        exact text_of n x.1 x.2 R F0 hsub (by omega) (AllL_mem ha.2 x.2 hm) (by omega) r
      · have e4 : (((roots us (p + 1)).zip us).map fun x => D.str x.2.text) = (us.map Tr.text).map D.str := by
          conv => rhs; rw [← hL2]
          rw [List.map_map, List.map_map]
          rfl
        rw [e4]
        refine ⟨_, strs_map _, by rw [hz3]; omega, by rw [slen_app, hz1, sizeLine_eq]; omega, by rw [slen_app, slen_app, hz1, hz2, sizeLine_eq]; omega, ?_⟩
        rw [text_nd hus] at q
        exact q
end
end K6

set_option Elab.async false
set_option maxRecDepth 100000
set_option maxHeartbeats 1000000
set_option linter.all false
namespace K6
open PySem PySem.Spec PyProof.Rows L2 Ly Pu TM
theorem lc_g {α : Type} {g : FG} {T : FT} {F : FE} {ρ : Pu.Env} {h f : α → D} {p : α → Bool} : ∀ (l : List α) {Q : List D → Prop}, (∀ a ∈ l, ∃ ρa : Pu.Env, (∀ k : Pu.Env → Prop, k ρa → g (h a) ρ k) ∧ (∀ R : Bool → Prop, R (p a) → T ρa R F0) ∧ (p a = true → ∀ R : D → Prop, R (f a) → F ρa R F0)) → Q ((l.filter p).map f) → lcD g T F ρ (l.map h) Q
  | [], Q, _, q => q
  | a :: l, Q, hh, q => by
    obtain ⟨ρa, h1, h2, h3⟩ := hh a (List.mem_cons_self ..)
    show g (h a) ρ fun ρ2 => T ρ2 (fun b => if b = true then F ρ2 (fun y => lcD g T F ρ (l.map h) fun ys => Q (y :: ys)) F0 else lcD g T F ρ (l.map h) Q) F0
    refine h1 _ (h2 _ ?_)
    have ih := fun (R : List D → Prop) (r : R ((l.filter p).map f)) => lc_g l (Q := R) (fun b hb => hh b (List.mem_cons_of_mem _ hb)) r
    cases c : p a with
    | true =>
      rw [if_pos rfl]
      rw [List.filter_cons_of_pos c] at q
      exact h3 c _ (ih _ q)
    | false =>
      rw [if_neg (by simp)]
      rw [List.filter_cons_of_neg (by rw [c]; simp)] at q
      exact ih _ q
theorem enum_map : ∀ (nds : List Nd) (k : Nat), enumD k (nds.map ndDD) = (nds.zipIdx k).map fun x => D.tup [.int (x.2 : Int), ndDD x.1]
  | [], _ => rfl
  | n :: nds, k => by
    show D.tup [.int (k : Int), ndDD n] :: enumD (k + 1) (nds.map ndDD) = _
    rw [enum_map nds (k + 1)]
    rfl
def plz (nds : List Nd) (w : Str) : List Nat := ((nds.zipIdx 0).filter fun x => decide (x.1.1 = w)).map (·.2)
section
variable {K : PySem.W.Frag} {A : Adr}
theorem places_with {nds : List Nd} (hn : nds.length ≤ 1000) {w : Str} {Q : D → Prop} {Z : ZX} (q : Q (iT (plz nds w))) : G_places_with K A [ndsDD nds, .str w] Q Z := by
  unfold G_places_with S_places_with ndsDD
  simp only [fnS, Pu.startB, sSeq, sAsg, sIf, sRet, sNext, sNew, sApp, sPar, sDem, demB, fVar, fVarT, fC, fOp, fTst, fAnd, fOr, fNot, fNew, fLst, fTup, fNil, fCons, fSl, oAt, oNo, fCB, fCall, fIf, fChain, fRng1, fIt, fJoin, RLen, RI0, RAdd, RIx, RSl, RIsN, RTuple, RIn, gN, bD, List.map_cons, List.map_nil, List.cons_append, List.nil_append, List.length_cons, List.length_nil, List.replicate, Nat.reduceSub, Nat.reduceAdd, List.getElem?_cons_zero, List.getElem?_cons_succ, List.set_cons_zero, List.set_cons_succ, Option.some.injEq, B.val.injEq, D.int.injEq, D.bl.injEq, D.str.injEq, D.tup.injEq, D.lst.injEq, exists_eq_left', exists_eq_left, exists_and_left, ex_eq, true_and, and_true, List.cons.injEq, fLc, fEnum, seqD]
  rw [enum_map]
  refine ⟨by rw [List.length_map, List.length_zipIdx, sizeLine_eq]; omega, ?_⟩
  refine lc_g (p := fun x => decide (x.1.1 = w)) (f := fun x => D.int (x.2 : Int)) (nds.zipIdx 0) (fun x _ => ⟨[.val (ndsDD nds), .val (.str w), .val (.int (x.2 : Int)), .val (ndDD x.1)], fun k hk => ⟨_, rfl, rfl, hk⟩, fun R r => ?_, fun _ R r => ⟨_, rfl, r⟩⟩) ?_
  · unfold ndDD
    simp only [fnS, Pu.startB, sSeq, sAsg, sIf, sRet, sNext, sNew, sApp, sPar, sDem, demB, fVar, fVarT, fC, fOp, fTst, fAnd, fOr, fNot, fNew, fLst, fTup, fNil, fCons, fSl, oAt, oNo, fCB, fCall, fIf, fChain, fRng1, fIt, fJoin, RLen, RI0, RAdd, RIx, RSl, RIsN, RTuple, RIn, gN, bD, List.map_cons, List.map_nil, List.cons_append, List.nil_append, List.length_cons, List.length_nil, List.replicate, Nat.reduceSub, Nat.reduceAdd, List.getElem?_cons_zero, List.getElem?_cons_succ, List.set_cons_zero, List.set_cons_succ, Option.some.injEq, B.val.injEq, D.int.injEq, D.bl.injEq, D.str.injEq, D.tup.injEq, D.lst.injEq, exists_eq_left', exists_eq_left, exists_and_left, ex_eq, true_and, and_true, List.cons.injEq, at0, REq, sc]
    exact r
  · have e : (((nds.zipIdx 0).filter fun x => decide (x.1.1 = w)).map fun x => D.int (x.2 : Int)) = iD (plz nds w) := by
      unfold iD plz
      rw [List.map_map]
      rfl
    rw [e]
    exact q
end
end K6

set_option Elab.async false
set_option maxRecDepth 100000
set_option maxHeartbeats 1000000
set_option linter.all false
namespace K6
open PySem PySem.Spec PyProof.Rows L2 Ly Pu TM
def kA (l : List Nd) : List Key := l.map fun n => Sum.inr n.1
def vA (l : List Nd) : List D := l.map fun n => D.int (n.2 : Int)
theorem valD_A : ∀ (l : List Nd) (w : Str), valD (kA l) (vA l) (Sum.inr w) = (l.lookup w).map fun (a : Nat) => D.int (a : Int)
  | [], w => rfl
  | (u, a) :: l, w => by
    show (if (Sum.inr u : Key) = Sum.inr w then some (D.int (a : Int)) else valD (kA l) (vA l) (Sum.inr w)) = _
    rw [valD_A l w, List.lookup_cons]
    by_cases h : w = u
    · subst h
      rw [if_pos rfl, beq_self_eq_true]
      rfl
    · rw [if_neg (fun z => h (by injection z with z; exact z.symm)), beq_eq_false_iff_ne.mpr h]
theorem any_A : ∀ (l : List Nd) (w : Str), ((kA l).any fun x => decide (x = Sum.inr w)) = (l.lookup w).isSome
  | [], w => rfl
  | (u, a) :: l, w => by
    show (decide ((Sum.inr u : Key) = Sum.inr w) || (kA l).any fun x => decide (x = Sum.inr w)) = _
    rw [any_A l w, List.lookup_cons]
    by_cases h : w = u
    · subst h
      rw [decide_eq_true rfl, beq_self_eq_true]
      rfl
    · rw [decide_eq_false (fun z => h (by injection z with z; exact z.symm)), beq_eq_false_iff_ne.mpr h]
      rfl
theorem put_newA {l : List Nd} {w : Str} {a : Nat} (h : l.lookup w = none) : putKs (kA l) (Sum.inr w) = kA (l ++ [(w, a)]) ∧ putDs (kA l) (vA l) (Sum.inr w) (.int (a : Int)) = vA (l ++ [(w, a)]) := by
  unfold putKs putDs
  rw [any_A, h]
  refine ⟨?_, ?_⟩
  · rw [if_neg (by simp), kA, kA, List.map_append]; rfl
  · rw [if_neg (by simp), vA, vA, List.map_append]; rfl
theorem zip_same : ∀ (l : List Nd) (w : Str) (a : Nat), (l.map (·.1)).Nodup → (∀ b, (w, b) ∈ l → b = a) → List.zipWith (fun (x : Key) (y : D) => if x = Sum.inr w then D.int (a : Int) else y) (kA l) (vA l) = vA l
  | [], _, _, _, _ => rfl
  | (u, b) :: l, w, a, hn, hb => by
    show (if (Sum.inr u : Key) = Sum.inr w then D.int (a : Int) else D.int (b : Int)) :: List.zipWith _ (kA l) (vA l) = D.int (b : Int) :: vA l
    rw [zip_same l w a (List.nodup_cons.mp hn).2 fun b hb' => hb b (List.mem_cons_of_mem _ hb')]
    by_cases h : u = w
    · subst h
      rw [if_pos rfl, hb b (List.mem_cons_self ..)]
    · rw [if_neg (fun z => h (by injection z))]
theorem put_oldA {l : List Nd} {w : Str} {a : Nat} (hn : (l.map (·.1)).Nodup) (h : l.lookup w = some a) : putKs (kA l) (Sum.inr w) = kA l ∧ putDs (kA l) (vA l) (Sum.inr w) (.int (a : Int)) = vA l := by
  unfold putKs putDs
  rw [any_A, h]
  refine ⟨if_pos rfl, ?_⟩
  rw [if_pos (show (some a).isSome = true from rfl)]
  refine zip_same l w a hn fun b hb => ?_
  have := lookup_of_mem hn hb
  rw [h] at this
  cases this
  rfl
theorem look_none {l : List Nd} {w : Str} (h : w ∉ l.map (·.1)) : l.lookup w = none := by
  cases c : l.lookup w with
  | none => rfl
  | some a => exact absurd (List.mem_map.mpr ⟨_, lookup_mem c, rfl⟩) h
theorem dc_nd {g : FG} {T : FT} {Fk Fv : FE} {ρ : Pu.Env} {h : Nd → D} {p : Nd → Bool} : ∀ (m acc : List Nd) {Q : List Key → List D → Prop},
    (∀ n ∈ m, ∃ ρa : Pu.Env, (∀ k : Pu.Env → Prop, k ρa → g (h n) ρ k) ∧ (∀ R : Bool → Prop, R (p n) → T ρa R F0) ∧ (p n = true → (∀ R : D → Prop, R (.str n.1) → Fk ρa R F0) ∧ ∀ R : D → Prop, R (.int (n.2 : Int)) → Fv ρa R F0)) →
    ((acc ++ m).map (·.1)).Nodup → Q (kA (acc ++ m.filter p)) (vA (acc ++ m.filter p)) → dcD g T Fk Fv ρ (m.map h) (kA acc) (vA acc) Q
  | [], acc, Q, _, _, q => by
    rw [List.filter_nil, List.append_nil] at q
    exact q
  | n :: m, acc, Q, hh, hn, q => by
    obtain ⟨ρa, h1, h2, h3⟩ := hh n (List.mem_cons_self ..)
    show g (h n) ρ fun ρ2 => T ρ2 (fun b => if b = true then Fk ρ2 (fun y => Fv ρ2 (fun z => ∃ k, keyD y = some k ∧ dcD g T Fk Fv ρ (m.map h) (putKs (kA acc) k) (putDs (kA acc) (vA acc) k z) Q) F0) F0 else dcD g T Fk Fv ρ (m.map h) (kA acc) (vA acc) Q) F0
    refine h1 _ (h2 _ ?_)
    have hsub : ((acc ++ m).map (·.1)).Nodup := by
      refine List.Nodup.sublist ?_ hn
      exact ((List.Sublist.refl acc).append (List.sublist_cons_self n m)).map _
    cases c : p n with
    | false =>
      rw [if_neg (by simp)]
      rw [List.filter_cons_of_neg (by rw [c]; simp)] at q
      exact dc_nd m acc (fun b hb => hh b (List.mem_cons_of_mem _ hb)) hsub q
    | true =>
      rw [if_pos rfl]
      rw [List.filter_cons_of_pos c] at q
      refine (h3 c).1 _ ((h3 c).2 _ ⟨_, rfl, ?_⟩)
      have hl : acc.lookup n.1 = none := look_none fun hm => by
        rw [List.map_append, List.nodup_append] at hn
        exact hn.2.2 _ hm _ (List.mem_cons_self ..) rfl
      obtain ⟨e1, e2⟩ := put_newA (a := n.2) hl
      rw [e1, e2]
      exact dc_nd m (acc ++ [(n.1, n.2)]) (fun b hb => hh b (List.mem_cons_of_mem _ hb)) (by rw [List.append_assoc]; exact hn) (by rw [List.append_assoc]; exact q)
theorem relook : ∀ {l : List Nd}, (l.map (·.1)).Nodup → (l.map (·.1)).map (fun y => (y, (l.lookup y).getD 0)) = l := fun {l} hn => by
  rw [List.map_map]
  conv => rhs; rw [← List.map_id l]
  refine List.map_congr_left fun n hm => ?_
  show (n.1, (l.lookup n.1).getD 0) = n
  rw [lookup_of_mem hn (show (n.1, n.2) ∈ l from hm)]
  rfl
section
variable {K : PySem.W.Frag} {A : Adr}
theorem ascending_rows {l : List Nd} (hn : (l.map (·.1)).Nodup) (h64 : l.length < 64) {Q : D → Prop} {Z : ZX} (q : ∀ l' : List Nd, l'.Perm l → sortedS (l'.map (·.1)) = true → Q (.dic (kA l') (vA l'))) : G_ascending_rows K A [.dic (kA l) (vA l)] Q Z := by
  unfold G_ascending_rows S_ascending_rows
  simp only [fnS, Pu.startB, sSeq, sAsg, sIf, sRet, sNext, sNew, sApp, sPar, sDem, demB, fVar, fVarT, fC, fOp, fTst, fAnd, fOr, fNot, fNew, fLst, fTup, fNil, fCons, fSl, oAt, oNo, fCB, fCall, fIf, fChain, fRng1, fIt, fJoin, RLen, RI0, RAdd, RIx, RSl, RIsN, RTuple, RIn, gN, bD, List.map_cons, List.map_nil, List.cons_append, List.nil_append, List.length_cons, List.length_nil, List.replicate, Nat.reduceSub, Nat.reduceAdd, List.getElem?_cons_zero, List.getElem?_cons_succ, List.set_cons_zero, List.set_cons_succ, Option.some.injEq, B.val.injEq, D.int.injEq, D.bl.injEq, D.str.injEq, D.tup.injEq, D.lst.injEq, exists_eq_left', exists_eq_left, exists_and_left, ex_eq, true_and, and_true, List.cons.injEq, fDic, fDc, fCBN, RSortS, RListD, itD]
  have e : (kA l).map kD = (l.map (·.1)).map D.str := by
    unfold kA
    rw [List.map_map, List.map_map]
    rfl
  refine ⟨_, _, rfl, l.map (·.1), e, by rw [List.length_map]; exact h64, fun ys hp hs => ?_⟩
  have hyl : ys.length = l.length := by rw [hp.length_eq, List.length_map]
  refine ⟨by rw [List.length_map, sizeLine_eq]; omega, ?_⟩
  have hl' : (ys.map fun y => (y, (l.lookup y).getD 0)).Perm l := by
    have := hp.map fun y => (y, (l.lookup y).getD 0)
    rw [relook hn] at this
    exact this
  have e2 : ys.map D.str = (ys.map fun y => (y, (l.lookup y).getD 0)).map fun n => D.str n.1 := by rw [List.map_map]; rfl
  have e3 : (ys.map fun y => (y, (l.lookup y).getD 0)).map (·.1) = ys := by
    rw [List.map_map]
    conv => rhs; rw [← List.map_id ys]
    rfl
  rw [e2]
  refine dc_nd (p := fun _ => true) _ [] (fun n hm => ⟨[.val (.dic (kA l) (vA l)), .val (.str n.1)], fun k hk => hk, fun R r => r, fun _ => ⟨fun R r => ⟨_, rfl, r⟩, fun R r => ?_⟩⟩) ?_ ?_
  · have hm2 := hl'.mem_iff.mp hm
    refine ⟨_, _, rfl, rfl, _, _, rfl, _, rfl, _, _, rfl, ?_, r⟩
    rw [valD_A, lookup_of_mem hn (show (n.1, n.2) ∈ l from hm2)]
    rfl
  · rw [List.nil_append, e3]
    exact hp.nodup_iff.mpr hn
  · rw [List.filter_eq_self.mpr (fun _ _ => rfl), List.nil_append]
    exact q _ hl' (by rw [e3]; exact hs)
def arB (K : PySem.W.Frag) (A : Adr) : FS := (sSeq (sIf (fTst (fOp RNe (fGet2 (fVarT 1) (fVar 2) (fVar 3)) (fVarT 3))) (sRet (fC .non)) sNext) (sPutD 1 (fVar 2) (fVar 3)))
theorem ar_loop {Q : D → Prop} {De : EndsD} (hr : De.rt = Q) {v0 : B} :
    ∀ (nds acc : List Nd) (o2 o3 : B), acc.length + nds.length ≤ 1000 → (acc.map (·.1)).Nodup → (arF nds acc = none → Q .non) → (∀ l o2 o3, arF nds acc = some l → De.nx [v0, .dic (kA l) (vA l), o2, o3]) →
      forD (gT [2, 3]) (arB K A) (nds.map ndDD) [v0, .dic (kA acc) (vA acc), o2, o3] De
  | [], acc, o2, o3, _, _, _, h => h acc o2 o3 rfl
  | (w, a) :: nds, acc, o2, o3, hl, hn, h0, h1 => by
    rw [List.length_cons] at hl
    have key : ∀ (acc' : List Nd), acc'.length ≤ acc.length + 1 → (acc'.map (·.1)).Nodup → arF ((w, a) :: nds) acc = arF nds acc' → forD (gT [2, 3]) (arB K A) (nds.map ndDD) [v0, .dic (kA acc') (vA acc'), .val (.str w), .val (.int (a : Int))] De := fun acc' g1 g2 g3 =>
      ar_loop hr nds acc' _ _ (by omega) g2 (fun z => h0 (g3.trans z)) fun l o2 o3 z => h1 l o2 o3 (g3.trans z)
    show gT [2, 3] (ndDD (w, a)) _ _
    refine ⟨_, rfl, rfl, ?_⟩
    show arB K A [v0, .dic (kA acc) (vA acc), .val (.str w), .val (.int (a : Int))] _
    unfold arB
    simp only [fnS, Pu.startB, sSeq, sAsg, sIf, sRet, sNext, sNew, sApp, sPar, sDem, demB, fVar, fVarT, fC, fOp, fTst, fAnd, fOr, fNot, fNew, fLst, fTup, fNil, fCons, fSl, oAt, oNo, fCB, fCall, fIf, fChain, fRng1, fIt, fJoin, RLen, RI0, RAdd, RIx, RSl, RIsN, RTuple, RIn, gN, bD, List.map_cons, List.map_nil, List.cons_append, List.nil_append, List.length_cons, List.length_nil, List.replicate, Nat.reduceSub, Nat.reduceAdd, List.getElem?_cons_zero, List.getElem?_cons_succ, List.set_cons_zero, List.set_cons_succ, Option.some.injEq, B.val.injEq, D.int.injEq, D.bl.injEq, D.str.injEq, D.tup.injEq, D.lst.injEq, exists_eq_left', exists_eq_left, exists_and_left, ex_eq, true_and, and_true, List.cons.injEq, fGet2, keyD, RNe, sc, valD_A, sPutD]
    refine ⟨_, _, rfl, ?_⟩
    rw [valD_A]
    have hks : (kA acc).length < sizeLine := by rw [kA, List.length_map, sizeLine_eq]; omega
    cases c : acc.lookup w with
    | none =>
      show if (!decide ((a : Int) = (a : Int))) = true then _ else _
      rw [if_neg (by simp)]
      refine ⟨_, _, rfl, hks, ?_⟩
      obtain ⟨e1, e2⟩ := put_newA (a := a) c
      rw [e1, e2]
      refine key (acc ++ [(w, a)]) (by rw [List.length_append]; exact Nat.le_refl _) ?_ (by simp only [arF, c])
      rw [List.map_append, List.nodup_append]
      refine ⟨hn, by simp, fun x hx y hy z => ?_⟩
      obtain rfl : y = w := by simpa using hy
      obtain ⟨m, hm, rfl⟩ := List.mem_map.mp hx
      have := lookup_of_mem hn (show (m.1, m.2) ∈ acc from hm)
      rw [z, c] at this
      cases this
    | some b =>
      show if (!decide ((b : Int) = (a : Int))) = true then _ else _
      by_cases hba : b = a
      · subst hba
        rw [if_neg (by simp)]
        refine ⟨_, _, rfl, hks, ?_⟩
        obtain ⟨e1, e2⟩ := put_oldA hn c
        rw [e1, e2]
        exact key acc (by omega) hn (by simp only [arF, c, if_true])
      · rw [if_pos (by rw [decide_eq_false (by omega)]; rfl), hr]
        exact h0 (by simp only [arF, c, if_neg hba])
theorem items_A : ∀ l : List Nd, itemsD (kA l) (vA l) = l.map ndDD
  | [] => rfl
  | n :: l => by
    show D.tup [.str n.1, .int (n.2 : Int)] :: itemsD (kA l) (vA l) = _
    rw [items_A l]
    rfl
theorem any_leaf (z : Str) : ([D.str (Str.ofString "_"), D.str (Str.ofString "#")].any fun y => eqF y (D.str z)) = isLeaf z := by
  show ((Str.ofString "_" == z) || ((Str.ofString "#" == z) || false)) = decide (z = "_" ∨ z = "#")
  rw [Bool.or_false, Bool.eq_iff_iff, Bool.or_eq_true, beq_iff_eq, beq_iff_eq, decide_eq_true_iff]
  exact ⟨fun h => h.imp (fun h => h.symm) fun h => h.symm, fun h => h.imp (fun h => h.symm) fun h => h.symm⟩
def plainW (n : Nd) : Bool := !isLeaf n.1
theorem arities_in {nds : List Nd} (hl : nds.length < 64) {Q : D → Prop} {Z : ZX} (q : match arF nds [] with | none => Q .non | some l => ∀ l' : List Nd, l'.Perm (l.filter plainW) → sortedS (l'.map (·.1)) = true → Q (.dic (kA l') (vA l'))) : G_arities_in K A [ndsDD nds] Q Z := by
  unfold G_arities_in S_arities_in
  simp only [fnS, Pu.startB, sSeq, sAsg, sIf, sRet, sNext, sNew, sApp, sPar, sDem, demB, fVar, fVarT, fC, fOp, fTst, fAnd, fOr, fNot, fNew, fLst, fTup, fNil, fCons, fSl, oAt, oNo, fCB, fCall, fIf, fChain, fRng1, fIt, fJoin, RLen, RI0, RAdd, RIx, RSl, RIsN, RTuple, RIn, gN, bD, List.map_cons, List.map_nil, List.cons_append, List.nil_append, List.length_cons, List.length_nil, List.replicate, Nat.reduceSub, Nat.reduceAdd, List.getElem?_cons_zero, List.getElem?_cons_succ, List.set_cons_zero, List.set_cons_succ, Option.some.injEq, B.val.injEq, D.int.injEq, D.bl.injEq, D.str.injEq, D.tup.injEq, D.lst.injEq, exists_eq_left', exists_eq_left, exists_and_left, ex_eq, true_and, and_true, List.cons.injEq, sNewD, fDic0, sFor, itD, ndsDD]
  refine ar_loop (K := K) (A := A) (Q := Q) (v0 := .val (.tup (nds.map ndDD))) rfl nds [] .un .un (by simp; omega) List.nodup_nil (fun h => ?_) (fun l o2 o3 h => ?_)
  · rw [h] at q
    exact q
  · rw [h] at q
    obtain ⟨hnd, hll⟩ := arF_nodup (acc := []) List.nodup_nil h
    rw [List.length_nil] at hll
    have q : ∀ l' : List Nd, l'.Perm (l.filter plainW) → sortedS (l'.map (·.1)) = true → Q (.dic (kA l') (vA l')) := q
    simp only [fnS, Pu.startB, sSeq, sAsg, sIf, sRet, sNext, sNew, sApp, sPar, sDem, demB, fVar, fVarT, fC, fOp, fTst, fAnd, fOr, fNot, fNew, fLst, fTup, fNil, fCons, fSl, oAt, oNo, fCB, fCall, fIf, fChain, fRng1, fIt, fJoin, RLen, RI0, RAdd, RIx, RSl, RIsN, RTuple, RIn, gN, bD, List.map_cons, List.map_nil, List.cons_append, List.nil_append, List.length_cons, List.length_nil, List.replicate, Nat.reduceSub, Nat.reduceAdd, List.getElem?_cons_zero, List.getElem?_cons_succ, List.set_cons_zero, List.set_cons_succ, Option.some.injEq, B.val.injEq, D.int.injEq, D.bl.injEq, D.str.injEq, D.tup.injEq, D.lst.injEq, exists_eq_left', exists_eq_left, exists_and_left, ex_eq, true_and, and_true, List.cons.injEq, sDemD, demBD, fDic, fDc, fDw]
    refine ⟨_, _, rfl, by rw [items_A, List.length_map, sizeLine_eq]; omega, ?_⟩
    rw [items_A]
    refine dc_nd (p := plainW) l [] (fun n hm => ⟨[.val (.tup (nds.map ndDD)), .val (.dic (kA l) (vA l)), .val (.str n.1), .val (.int (n.2 : Int))], fun k hk => ⟨_, rfl, rfl, hk⟩, fun R r => ?_, fun _ => ⟨fun R r => ⟨_, rfl, r⟩, fun R r => ⟨_, rfl, r⟩⟩⟩) (by rw [List.nil_append]; exact hnd) ?_
    · simp only [fnS, Pu.startB, sSeq, sAsg, sIf, sRet, sNext, sNew, sApp, sPar, sDem, demB, fVar, fVarT, fC, fOp, fTst, fAnd, fOr, fNot, fNew, fLst, fTup, fNil, fCons, fSl, oAt, oNo, fCB, fCall, fIf, fChain, fRng1, fIt, fJoin, RLen, RI0, RAdd, RIx, RSl, RIsN, RTuple, RIn, gN, bD, List.map_cons, List.map_nil, List.cons_append, List.nil_append, List.length_cons, List.length_nil, List.replicate, Nat.reduceSub, Nat.reduceAdd, List.getElem?_cons_zero, List.getElem?_cons_succ, List.set_cons_zero, List.set_cons_succ, Option.some.injEq, B.val.injEq, D.int.injEq, D.bl.injEq, D.str.injEq, D.tup.injEq, D.lst.injEq, exists_eq_left', exists_eq_left, exists_and_left, ex_eq, true_and, and_true, List.cons.injEq]
      refine ⟨by decide, rfl, rfl, ?_⟩
      have e : (true != [D.str (Str.ofString "_"), D.str (Str.ofString "#")].any fun y => eqF y (D.str n.1)) = plainW n := by
        rw [any_leaf]
        unfold plainW
        cases isLeaf n.1 <;> rfl
      rw [e]
      exact r
    · rw [List.nil_append]
      refine ascending_rows ?_ ?_ q
      · exact List.Nodup.sublist (List.filter_sublist.map _) hnd
      · exact Nat.lt_of_le_of_lt (List.length_filter_le _ _) (by omega)
end
end K6

set_option Elab.async false
set_option maxRecDepth 100000
set_option maxHeartbeats 1000000
set_option linter.all false
namespace K6
open PySem PySem.Spec PyProof.Rows L2 Ly Pu TM
section
variable {K : PySem.W.Frag} {A : Adr}
theorem is_term_row {nds : List Nd} {cs : List (List Nat)} (h1 : 1 ≤ nds.length ∧ nds.length ≤ 40) (hg : ∀ n ∈ nds, GoodNd n) (hc : chOf nds = some cs) {Q : D → Prop} {Z : ZX} (q : Q (.bl (arF nds []).isSome)) : G_is_term_row K A [ndsDD nds] Q Z := by
  unfold G_is_term_row S_is_term_row ndsDD
  simp only [fnS, Pu.startB, sSeq, sAsg, sIf, sRet, sNext, sNew, sApp, sPar, sDem, demB, fVar, fVarT, fC, fOp, fTst, fAnd, fOr, fNot, fNew, fLst, fTup, fNil, fCons, fSl, oAt, oNo, fCB, fCall, fIf, fChain, fRng1, fIt, fJoin, RLen, RI0, RAdd, RIx, RSl, RIsN, RTuple, RIn, gN, bD, List.map_cons, List.map_nil, List.cons_append, List.nil_append, List.length_cons, List.length_nil, List.replicate, Nat.reduceSub, Nat.reduceAdd, List.getElem?_cons_zero, List.getElem?_cons_succ, List.set_cons_zero, List.set_cons_succ, Option.some.injEq, B.val.injEq, D.int.injEq, D.bl.injEq, D.str.injEq, D.tup.injEq, D.lst.injEq, exists_eq_left', exists_eq_left, exists_and_left, ex_eq, true_and, and_true, List.cons.injEq, fIsi, fAndV, okI, kdD, kdIs, lenD, RAll, fLc, itD, RNotN]
  rw [if_neg (by decide), List.length_map, if_pos (decide_eq_true (by omega)), if_neg (by rw [decide_eq_true (by omega)]; simp)]
  refine ⟨by rw [sizeLine_eq]; omega, ?_⟩
  refine lc_map (f := fun n => D.bl (isNode2 (.str n.1) (.int (n.2 : Int)))) nds (fun n hn R r => ?_) ?_
  · simp only [fnS, Pu.startB, sSeq, sAsg, sIf, sRet, sNext, sNew, sApp, sPar, sDem, demB, fVar, fVarT, fC, fOp, fTst, fAnd, fOr, fNot, fNew, fLst, fTup, fNil, fCons, fSl, oAt, oNo, fCB, fCall, fIf, fChain, fRng1, fIt, fJoin, RLen, RI0, RAdd, RIx, RSl, RIsN, RTuple, RIn, gN, bD, List.map_cons, List.map_nil, List.cons_append, List.nil_append, List.length_cons, List.length_nil, List.replicate, Nat.reduceSub, Nat.reduceAdd, List.getElem?_cons_zero, List.getElem?_cons_succ, List.set_cons_zero, List.set_cons_succ, Option.some.injEq, B.val.injEq, D.int.injEq, D.bl.injEq, D.str.injEq, D.tup.injEq, D.lst.injEq, exists_eq_left', exists_eq_left, exists_and_left, ex_eq, true_and, and_true, List.cons.injEq, wipeB]
    have hk := ((good_iff n.1 n.2).mp (hg n hn)).1
    exact is_node ⟨Nat.le_trans (hg n hn).2 (by decide), by omega⟩ r
  · refine ⟨_, bls_map (fun n : Nd => isNode2 (.str n.1) (.int (n.2 : Int))) nds, ?_⟩
    have hall : (nds.map fun n : Nd => isNode2 (.str n.1) (.int (n.2 : Int))).all id = true := by
      rw [List.all_eq_true]
      intro b hb
      obtain ⟨n, hn, e⟩ := List.mem_map.mp hb
      have h2 := (hg n hn).1
      rw [e] at h2
      exact h2
    rw [if_neg (by rw [hall]; simp)]
    refine children_of (nds := nds) (by omega) ?_
    rw [hc]
    show if (!isN (D.lst _)) = true then _ else _
    rw [if_pos (by rfl)]
    refine arities_in (nds := nds) (by omega) ?_
    cases c : arF nds [] with
    | none => rw [c] at q; exact q
    | some l => rw [c] at q; exact fun l' _ _ => q
structure TK (K : PySem.W.Frag) (A : Adr) : Prop where
  cl : Cls K A.cTerm
  n1 : NoAttr K A.cTerm "own_nodes"
  n2 : NoAttr K A.cTerm "own_children"
  n3 : NoAttr K A.cTerm "own_ends"
  n4 : NoAttr K A.cTerm "own_symbols"
  n5 : NoAttr K A.cTerm "own_unknown"
  n6 : NoAttr K A.cTerm "own_lost"
  isN : ∀ n ∈ seven, PySem.W.kitOne K (.type n) (.ref A.cNodes) = some false
  isT7 : ∀ n ∈ seven, PySem.W.kitOne K (.type n) (.ref A.cTerm) = some false
  isT : PySem.W.kitOne K (.ref A.cTerm) (.ref A.cTerm) = some true
  own : Own K A.cTerm
def tmN : List Str := ["own_nodes", "own_children", "own_ends", "own_symbols", "own_unknown", "own_lost"]
def tmD (A : Adr) (t : Tr) (l : List Nd) : D := .obj A.cTerm tmN [ndsDD t.nodes, .tup ((t.ch 0).map iT), iT (enF (t.ch 0) 0), .dic (kA l) (vA l), iT (plz t.nodes "_"), iT (plz t.nodes "#")]
theorem term_init (TC : TK K A) {t : Tr} (hg : GoodT t) (hs : t.size ≤ 40) {Q : D → Prop} {Z : ZX} (q : match arF t.nodes [] with | none => Z (.bare A.cInvalidTerm) | some _ => ∀ l, Q (tmD A t l)) : G_Term_init K A [ndsDD t.nodes] Q Z := by
  have hsz : t.nodes.length ≤ 40 := hs
  intro x
  unfold S_Term_init initB
  have hisc : isC K A.cNodes (ndsDD t.nodes) false := ⟨trivial, rfl, TC.isN⟩
  simp only [fnS, Pu.startB, sSeq, sAsg, sIf, sRet, sNext, sNew, sApp, sPar, sDem, demB, fVar, fVarT, fC, fOp, fTst, fAnd, fOr, fNot, fNew, fLst, fTup, fNil, fCons, fSl, oAt, oNo, fCB, fCall, fIf, fChain, fRng1, fIt, fJoin, RLen, RI0, RAdd, RIx, RSl, RIsN, RTuple, RIn, gN, bD, List.map_cons, List.map_nil, List.cons_append, List.nil_append, List.length_cons, List.length_nil, List.replicate, Nat.reduceSub, Nat.reduceAdd, List.getElem?_cons_zero, List.getElem?_cons_succ, List.set_cons_zero, List.set_cons_succ, Option.some.injEq, B.val.injEq, D.int.injEq, D.bl.injEq, D.str.injEq, D.tup.injEq, D.lst.injEq, exists_eq_left', exists_eq_left, exists_and_left, ex_eq, true_and, and_true, List.cons.injEq, fIsc, sRaise, sFldS, fFld]
  refine ⟨false, hisc, ?_⟩
  rw [if_neg (by simp)]
  refine is_term_row ⟨t.size_pos, hsz⟩ hg t.chOf ⟨_, rfl, ?_⟩
  cases c : arF t.nodes [] with
  | none =>
    rw [c] at q
    rw [if_pos (by rfl)]
    exact q
  | some r =>
    rw [c] at q
    have q : ∀ l, Q (tmD A t l) := q
    rw [if_neg (by simp)]
    refine ⟨_, _, _, _, rfl, TC.cl, TC.n1, by decide, _, _, _, rfl, TC.cl, TC.n1, _, rfl, ?_⟩
    refine children_of (nds := t.nodes) (by omega) ?_
    rw [t.chOf]
    refine ⟨_, rfl, _, _, _, _, rfl, TC.cl, TC.n2, by show 1 < 100; decide, _, _, _, rfl, TC.cl, TC.n2, _, rfl, ?_⟩
    refine ends_of (cs := t.ch 0) (by rw [t.ch_len]; exact Nat.le_trans hs (by decide)) t.chOk ?_
    refine ⟨_, rfl, _, _, _, _, rfl, TC.cl, TC.n3, by show 2 < 100; decide, _, _, _, rfl, TC.cl, TC.n1, _, rfl, ?_⟩
    refine arities_in (nds := t.nodes) (by omega) ?_
    rw [c]
    intro l _ _
    refine ⟨_, _, _, _, rfl, TC.cl, TC.n4, by show 3 < 100; decide, _, _, _, rfl, TC.cl, TC.n1, _, rfl, ?_⟩
    refine places_with (nds := t.nodes) (by omega) ?_
    refine ⟨_, _, _, _, rfl, TC.cl, TC.n5, by show 4 < 100; decide, _, _, _, rfl, TC.cl, TC.n1, _, rfl, ?_⟩
    refine places_with (nds := t.nodes) (by omega) ?_
    refine ⟨_, _, _, _, rfl, TC.cl, TC.n6, by show 5 < 100; decide, _, _, rfl, ?_⟩
    exact q l
end
end K6

set_option Elab.async false
set_option maxRecDepth 100000
set_option maxHeartbeats 1000000
set_option linter.all false
namespace K6
open PySem PySem.Spec PyProof.Rows L2 Ly Pu TM
theorem labs100 (t : Tr) (h : GoodT t) : t.All (fun w => w.length ≤ 100) := all_of_nodes (fun n hn => by
    rcases ((good_iff n.1 n.2).mp (h n hn)).2 with q | ⟨q | q, _⟩
    · rw [len_lab]; have := q.2.1; omega
    · rw [len_lab, q]; decide
    · rw [len_lab, q]; decide) where
  all_of_nodes {P : Str → Prop} {t : Tr} : (∀ n ∈ t.nodes, P n.1) → t.All P :=
    Tr.rec (motive_1 := fun t => (∀ n ∈ t.nodes, P n.1) → t.All P) (motive_2 := fun ts => (∀ n ∈ nodesL ts, P n.1) → AllL P ts)
      (fun w ts ih h => ⟨h (w, ts.length) (List.mem_cons_self ..), ih fun m hm => h m (List.mem_cons_of_mem _ hm)⟩) (fun _ => trivial)
      (fun t ts i1 i2 h => ⟨i1 fun m hm => h m (List.mem_append_left _ hm), i2 fun m hm => h m (List.mem_append_right _ hm)⟩) t
section
variable {K : PySem.W.Frag} {A : Adr}
theorem term_text (TC : TK K A) {t : Tr} (hg : GoodT t) (hs : t.size ≤ 40) {l : List Nd} {Q : D → Prop} {Z : ZX} (q : Q (.str t.text)) : G_Term_text K A [tmD A t l] Q Z := by
  unfold G_Term_text S_Term_text tmD
  simp only [fnS, Pu.startB, sSeq, sAsg, sIf, sRet, sNext, sNew, sApp, sPar, sDem, demB, fVar, fVarT, fC, fOp, fTst, fAnd, fOr, fNot, fNew, fLst, fTup, fNil, fCons, fSl, oAt, oNo, fCB, fCall, fIf, fChain, fRng1, fIt, fJoin, RLen, RI0, RAdd, RIx, RSl, RIsN, RTuple, RIn, gN, bD, List.map_cons, List.map_nil, List.cons_append, List.nil_append, List.length_cons, List.length_nil, List.replicate, Nat.reduceSub, Nat.reduceAdd, List.getElem?_cons_zero, List.getElem?_cons_succ, List.set_cons_zero, List.set_cons_succ, Option.some.injEq, B.val.injEq, D.int.injEq, D.bl.injEq, D.str.injEq, D.tup.injEq, D.lst.injEq, exists_eq_left', exists_eq_left, exists_and_left, ex_eq, true_and, and_true, List.cons.injEq, fFld]
  refine ⟨_, _, _, rfl, TC.cl, TC.n1, _, rfl, _, _, _, rfl, TC.cl, TC.n2, _, rfl, ?_⟩
  exact text_of 41 0 t Q Z (Sub.root t) (Nat.lt_of_lt_of_le (ht_lt t) (by omega)) (labs100 t hg) (by omega) q
theorem nodes_loop {n : Nat} {De : EndsD} {v0 : B} (ih : ∀ (t : Tr) (Q : D → Prop), t.ht < n → t.size ≤ 2000 → Q (.lst (t.nodes.map ndDD)) → G_nodes' K A n [trD t] Q De.ex) :
    ∀ (ts : List Tr) (acc : List Nd) (o : B), (∀ t ∈ ts, t.ht < n) → acc.length + (nodesL ts).length ≤ 2000 → (∀ o, De.nx [v0, .val (.lst ((acc ++ nodesL ts).map ndDD)), o]) →
      forD (gN 2) (sAsg 1 (fOp RAdd (fVarT 1) (fCall (G_nodes' K A n) 1 (fCons (fVar 2) fNil)))) (trsD ts) [v0, .val (.lst (acc.map ndDD)), o] De
  | [], acc, o, _, _, h => by
    have := h o
    rw [show nodesL [] = [] from rfl, List.append_nil] at this
    exact this
  | t :: ts, acc, o, hh, hl, h => by
    have hl : acc.length + (t.nodes ++ nodesL ts).length ≤ 2000 := hl
    rw [List.length_append] at hl
    unfold trsD forD
    simp only [fnS, Pu.startB, sSeq, sAsg, sIf, sRet, sNext, sNew, sApp, sPar, sDem, demB, fVar, fVarT, fC, fOp, fTst, fAnd, fOr, fNot, fNew, fLst, fTup, fNil, fCons, fSl, oAt, oNo, fCB, fCall, fIf, fChain, fRng1, fIt, fJoin, RLen, RI0, RAdd, RIx, RSl, RIsN, RTuple, RIn, gN, bD, List.map_cons, List.map_nil, List.cons_append, List.nil_append, List.length_cons, List.length_nil, List.replicate, Nat.reduceSub, Nat.reduceAdd, List.getElem?_cons_zero, List.getElem?_cons_succ, List.set_cons_zero, List.set_cons_succ, Option.some.injEq, B.val.injEq, D.int.injEq, D.bl.injEq, D.str.injEq, D.tup.injEq, D.lst.injEq, exists_eq_left', exists_eq_left, exists_and_left, ex_eq, true_and, and_true, List.cons.injEq]
    refine ih t _ (hh t (List.mem_cons_self ..)) (by show t.nodes.length ≤ 2000; omega) ?_
    simp only [fnS, Pu.startB, sSeq, sAsg, sIf, sRet, sNext, sNew, sApp, sPar, sDem, demB, fVar, fVarT, fC, fOp, fTst, fAnd, fOr, fNot, fNew, fLst, fTup, fNil, fCons, fSl, oAt, oNo, fCB, fCall, fIf, fChain, fRng1, fIt, fJoin, RLen, RI0, RAdd, RIx, RSl, RIsN, RTuple, RIn, gN, bD, List.map_cons, List.map_nil, List.cons_append, List.nil_append, List.length_cons, List.length_nil, List.replicate, Nat.reduceSub, Nat.reduceAdd, List.getElem?_cons_zero, List.getElem?_cons_succ, List.set_cons_zero, List.set_cons_succ, Option.some.injEq, B.val.injEq, D.int.injEq, D.bl.injEq, D.str.injEq, D.tup.injEq, D.lst.injEq, exists_eq_left', exists_eq_left, exists_and_left, ex_eq, true_and, and_true, List.cons.injEq]
    rw [List.length_map, List.length_map, ← List.map_append]
    refine ⟨by rw [sizeLine_eq]; omega, ?_⟩
    refine nodes_loop ih ts (acc ++ t.nodes) _ (fun u hu => hh u (List.mem_cons_of_mem _ hu)) (by rw [List.length_append]; omega) fun o => ?_
    have := h o
    rw [show nodesL (t :: ts) = t.nodes ++ nodesL ts from rfl, ← List.append_assoc] at this
    exact this
theorem nodes : ∀ (n : Nat) (t : Tr) (Q : D → Prop) (Z : ZX), t.ht < n → t.size ≤ 2000 → Q (.lst (t.nodes.map ndDD)) → G_nodes' K A n [trD t] Q Z
  | 0, t, Q, Z, h, _, _ => by omega
  | n + 1, .nd w ts, Q, Z, h, hs, q => by
    have hs : (nodesL ts).length + 1 ≤ 2000 := hs
    have hul := lenL ts
    show fnS 3 (S_nodes' K A (G_nodes' K A n)) _ Q Z
    unfold S_nodes' trD
    simp only [fnS, Pu.startB, sSeq, sAsg, sIf, sRet, sNext, sNew, sApp, sPar, sDem, demB, fVar, fVarT, fC, fOp, fTst, fAnd, fOr, fNot, fNew, fLst, fTup, fNil, fCons, fSl, oAt, oNo, fCB, fCall, fIf, fChain, fRng1, fIt, fJoin, RLen, RI0, RAdd, RIx, RSl, RIsN, RTuple, RIn, gN, bD, List.map_cons, List.map_nil, List.cons_append, List.nil_append, List.length_cons, List.length_nil, List.replicate, Nat.reduceSub, Nat.reduceAdd, List.getElem?_cons_zero, List.getElem?_cons_succ, List.set_cons_zero, List.set_cons_succ, Option.some.injEq, B.val.injEq, D.int.injEq, D.bl.injEq, D.str.injEq, D.tup.injEq, D.lst.injEq, exists_eq_left', exists_eq_left, exists_and_left, ex_eq, true_and, and_true, List.cons.injEq, at0, at1, lenD, sFor, itD]
    refine ⟨by decide, by decide, ?_⟩
    have hh : htL ts < n + 1 := h
    rw [trsD_len]
    refine nodes_loop (v0 := .val (.tup [.str w, .tup (trsD ts)])) (fun t Q a b c => nodes n t Q _ a b c) ts [(w, ts.length)] .un (fun u hu => by have := htL_lt hu; omega) (by show 1 + _ ≤ _; omega) fun o => ?_
    exact ⟨_, rfl, q⟩
end
end K6

set_option Elab.async false
set_option maxRecDepth 100000
set_option maxHeartbeats 1000000
set_option linter.all false
namespace K6
open PySem PySem.Spec PyProof.Rows L2 Ly Pu TM
theorem let_lt {c : Nat} (h : isL c = true) : c < 1114112 := by
  have h : c ∈ letters := of_decide_eq_true h
  exact (by decide +kernel : ∀ c ∈ letters, c < 1114112) c h
theorem strOk_lab {w : Str} (h : LabT w) : PyData.strOk w = true := by
  unfold PyData.strOk
  rw [← Array.all_toList, List.all_eq_true]
  intro c hc
  refine decide_eq_true ?_
  rcases h with ⟨_, h⟩ | h | h
  · exact let_lt (List.all_eq_true.mp h c hc)
  · have hc : c ∈ lab w := hc
    rw [h] at hc
    rw [List.mem_singleton.mp hc]
    decide
  · have hc : c ∈ lab w := hc
    rw [h] at hc
    rw [List.mem_singleton.mp hc]
    decide
theorem trsD_map : ∀ us : List Tr, trsD us = us.map trD
  | [] => rfl
  | u :: us => by
    show trD u :: trsD us = _
    rw [trsD_map us]
    rfl
theorem tr_lay (t : Tr) : t.All LabT → PyData.canLay0 (toP (trD t)) = true ∧ PyData.depth (toP (trD t)) ≤ 2 * t.ht + 2 :=
  Tr.rec (motive_1 := fun t => t.All LabT → PyData.canLay0 (toP (trD t)) = true ∧ PyData.depth (toP (trD t)) ≤ 2 * t.ht + 2)
    (motive_2 := fun ts => AllL LabT ts → PyData.canLayAll0 (toPs (trsD ts)) = true ∧ PyData.depthAll (toPs (trsD ts)) ≤ 2 * htL ts)
    (fun w ts ih h => by
      obtain ⟨a, b⟩ := ih h.2
      have hw := strOk_lab h.1
      have e : toP (trD (.nd w ts)) = .tuple [.str w, .tuple (toPs (trsD ts))] := rfl
      rw [e]
      refine ⟨by simp [PyData.canLay0, PyData.canLayAll0, hw, a], ?_⟩
      show PyData.depth _ ≤ 2 * htL ts + 2
      simp only [PyData.depth, PyData.depthAll]
      omega)
    (fun _ => ⟨by simp [trsD, toPs, PyData.canLayAll0], by simp [trsD, toPs, PyData.depthAll]⟩)
    (fun t ts i1 i2 h => by
      obtain ⟨a, b⟩ := i1 h.1
      obtain ⟨c, d⟩ := i2 h.2
      refine ⟨by simp [trsD, toPs, PyData.canLayAll0, a, c], ?_⟩
      show PyData.depthAll (toP (trD t) :: toPs (trsD ts)) ≤ 2 * max (t.ht + 1) (htL ts)
      simp only [PyData.depthAll]
      omega) t
theorem trs_shp {ts : List Tr} {w : Str} (h : Tr.All LabT (.nd w ts)) (hh : htL ts ≤ 20) : shp (.tup (trsD ts)) := by
  obtain ⟨a, b⟩ := tr_lay (.nd w ts) h
  have e : toP (trD (.nd w ts)) = .tuple [.str w, .tuple (toPs (trsD ts))] := rfl
  rw [e] at a b
  show SeqAt.shaped (.tuple (toPs (trsD ts))) = true
  have hb : 2 * Tr.ht (.nd w ts) + 2 = 2 * htL ts + 2 := rfl
  unfold SeqAt.shaped
  have a2 : PyData.canLay0 (.tuple (toPs (trsD ts))) = true := by
    simp only [PyData.canLay0, PyData.canLayAll0, Bool.and_true, Bool.and_eq_true] at a
    simp only [PyData.canLay0]
    exact a.2
  rw [a2, Bool.true_and]
  refine decide_eq_true ?_
  simp only [PyData.depth, PyData.depthAll] at b ⊢
  omega
theorem eq_nilT {ts : List Tr} {w : Str} (h : Tr.All LabT (.nd w ts)) (hh : htL ts ≤ 20) {Q : D → Prop} (q : Q (.bl ts.isEmpty)) : REq (.tup (trsD ts)) (.tup []) Q := by
  refine ⟨trs_shp h hh, shp_iT [], ?_⟩
  cases ts with
  | nil => exact q
  | cons t ts => exact q
section
variable {K : PySem.W.Frag} {A : Adr}
theorem ltext : ∀ (n : Nat) (s : Tr) (Q : D → Prop) (Z : ZX), s.ht < n → n ≤ 20 → s.All LabT → s.All (fun w => w.length ≤ 100) → s.size ≤ 100 → Q (.str s.text) → G_text K A n [trD s] Q Z
  | 0, s, Q, Z, h, _, _, _, _, _ => by omega
  | n + 1, .nd w ts, Q, Z, hh, h20, hL, ha, hz, q => by
    have hh : htL ts < n + 1 := hh
    show fnS 2 (S_text K A (G_text K A n)) _ Q Z
    unfold S_text trD
    simp only [fnS, Pu.startB, sSeq, sAsg, sIf, sRet, sNext, sNew, sApp, sPar, sDem, demB, fVar, fVarT, fC, fOp, fTst, fAnd, fOr, fNot, fNew, fLst, fTup, fNil, fCons, fSl, oAt, oNo, fCB, fCall, fIf, fChain, fRng1, fIt, fJoin, RLen, RI0, RAdd, RIx, RSl, RIsN, RTuple, RIn, gN, bD, List.map_cons, List.map_nil, List.cons_append, List.nil_append, List.length_cons, List.length_nil, List.replicate, Nat.reduceSub, Nat.reduceAdd, List.getElem?_cons_zero, List.getElem?_cons_succ, List.set_cons_zero, List.set_cons_succ, Option.some.injEq, B.val.injEq, D.int.injEq, D.bl.injEq, D.str.injEq, D.tup.injEq, D.lst.injEq, exists_eq_left', exists_eq_left, exists_and_left, ex_eq, true_and, and_true, List.cons.injEq, at0, at1]
    refine ⟨Nat.zero_le _, eq_nilT hL (by omega) ⟨_, rfl, ?_⟩⟩
    cases ts with
    | nil =>
      rw [if_pos (by rfl)]
      exact q
    | cons t ts =>
      rw [if_neg (by simp)]
      obtain ⟨b1, b2, b3⟩ := txt_bound ha hz
      simp only [fnS, Pu.startB, sSeq, sAsg, sIf, sRet, sNext, sNew, sApp, sPar, sDem, demB, fVar, fVarT, fC, fOp, fTst, fAnd, fOr, fNot, fNew, fLst, fTup, fNil, fCons, fSl, oAt, oNo, fCB, fCall, fIf, fChain, fRng1, fIt, fJoin, RLen, RI0, RAdd, RIx, RSl, RIsN, RTuple, RIn, gN, bD, List.map_cons, List.map_nil, List.cons_append, List.nil_append, List.length_cons, List.length_nil, List.replicate, Nat.reduceSub, Nat.reduceAdd, List.getElem?_cons_zero, List.getElem?_cons_succ, List.set_cons_zero, List.set_cons_succ, Option.some.injEq, B.val.injEq, D.int.injEq, D.bl.injEq, D.str.injEq, D.tup.injEq, D.lst.injEq, exists_eq_left', exists_eq_left, exists_and_left, ex_eq, true_and, and_true, List.cons.injEq, fLc, itD, seqD, at1, at0]
      have hz1 : ("(" : Str).length = 1 := rfl
      have hz2 : (")" : Str).length = 1 := rfl
      have hz3 : (", " : Str).length = 2 := rfl
      refine ⟨by rw [hz1, sizeLine_eq]; omega, ?_⟩
      generalize hT : t :: ts = us at *
      have hus : us ≠ [] := by rw [← hT]; simp
      have hsz : (nodesL us).length + 1 ≤ 100 := hz
      have hul := lenL us
      refine ⟨by rw [trsD_len, sizeLine_eq]; omega, ?_⟩
      have e3 := trsD_map us
      rw [e3]
      refine lc_map (f := fun u => D.str u.text) us (fun u hu R r => ?_) ?_
      · simp only [fnS, Pu.startB, sSeq, sAsg, sIf, sRet, sNext, sNew, sApp, sPar, sDem, demB, fVar, fVarT, fC, fOp, fTst, fAnd, fOr, fNot, fNew, fLst, fTup, fNil, fCons, fSl, oAt, oNo, fCB, fCall, fIf, fChain, fRng1, fIt, fJoin, RLen, RI0, RAdd, RIx, RSl, RIsN, RTuple, RIn, gN, bD, List.map_cons, List.map_nil, List.cons_append, List.nil_append, List.length_cons, List.length_nil, List.replicate, Nat.reduceSub, Nat.reduceAdd, List.getElem?_cons_zero, List.getElem?_cons_succ, List.set_cons_zero, List.set_cons_succ, Option.some.injEq, B.val.injEq, D.int.injEq, D.bl.injEq, D.str.injEq, D.tup.injEq, D.lst.injEq, exists_eq_left', exists_eq_left, exists_and_left, ex_eq, true_and, and_true, List.cons.injEq, wipeB]
        have hlt := htL_lt hu
        have hsm := sizeL_mem hu
        exact ltext n u R F0 (by omega) (by omega) (AllL_mem hL.2 u hu) (AllL_mem ha.2 u hu) (by omega) r
      · have e4 : (us.map fun u => D.str u.text) = (us.map Tr.text).map D.str := by rw [List.map_map]; rfl
        rw [e4]
        refine ⟨_, strs_map _, by rw [hz3]; omega, by rw [slen_app, hz1, sizeLine_eq]; omega, by rw [slen_app, slen_app, hz1, hz2, sizeLine_eq]; omega, ?_⟩
        rw [text_nd hus] at q
        exact q
end
end K6

set_option Elab.async false
set_option maxRecDepth 100000
set_option maxHeartbeats 1000000
set_option linter.all false
namespace K6
open PySem PySem.Spec PyProof.Rows L2 Ly Pu TM
theorem toPs_nds : ∀ nds : List Nd, toPs (nds.map ndDD) = nds.map fun n => PyData.tuple [.str n.1, .int (n.2 : Int)]
  | [] => rfl
  | n :: nds => by
    show toP (ndDD n) :: toPs (nds.map ndDD) = _
    rw [toPs_nds nds]
    rfl
theorem nds_lay : ∀ {nds : List Nd}, (∀ n ∈ nds, LabT n.1) → PyData.canLayAll0 (nds.map fun n => PyData.tuple [.str n.1, .int (n.2 : Int)]) = true ∧ PyData.depthAll (nds.map fun n => PyData.tuple [.str n.1, .int (n.2 : Int)]) ≤ 1
  | [], _ => ⟨by simp [PyData.canLayAll0], by simp [PyData.depthAll]⟩
  | n :: nds, h => by
    obtain ⟨a, b⟩ := nds_lay (nds := nds) fun m hm => h m (List.mem_cons_of_mem _ hm)
    have hw := strOk_lab (h n (List.mem_cons_self ..))
    refine ⟨by simp [PyData.canLayAll0, PyData.canLay0, hw, a], ?_⟩
    show PyData.depthAll (PyData.tuple [.str n.1, .int (n.2 : Int)] :: _) ≤ 1
    simp only [PyData.depthAll, PyData.depth]
    omega
theorem nds_shp {nds : List Nd} (h : ∀ n ∈ nds, LabT n.1) : shp (ndsDD nds) := by
  obtain ⟨a, b⟩ := nds_lay h
  show SeqAt.shaped (.tuple (toPs (nds.map ndDD))) = true
  rw [toPs_nds]
  unfold SeqAt.shaped
  simp only [PyData.canLay0, PyData.depth, a, Bool.true_and]
  exact decide_eq_true (by omega)
theorem nds_eqv : ∀ a b : List Nd, PyData.eqvAll (a.map fun n => PyData.tuple [.str n.1, .int (n.2 : Int)]) (b.map fun n => PyData.tuple [.str n.1, .int (n.2 : Int)]) = decide (a = b)
  | [], [] => by simp [PyData.eqvAll]
  | [], _ :: _ => by simp [PyData.eqvAll]
  | _ :: _, [] => by simp [PyData.eqvAll]
  | n :: a, m :: b => by
    rw [List.map_cons, List.map_cons]
    simp only [PyData.eqvAll]
    rw [nds_eqv a b]
    have e : PyData.eqv (.tuple [.str n.1, .int (n.2 : Int)]) (.tuple [.str m.1, .int (m.2 : Int)]) = decide (n = m) := by
      simp only [PyData.eqv, PyData.eqvAll]
      rw [Bool.eq_iff_iff]
      simp
      constructor
      · rintro ⟨h1, h2⟩
        exact Prod.ext h1 (by omega)
      · rintro rfl
        exact ⟨rfl, rfl⟩
    rw [e, Bool.eq_iff_iff]
    simp
theorem eq_nds {a b : List Nd} (ha : ∀ n ∈ a, LabT n.1) (hb : ∀ n ∈ b, LabT n.1) {Q : D → Prop} (q : Q (.bl (decide (a = b)))) : REq (ndsDD a) (ndsDD b) Q := by
  refine ⟨nds_shp ha, nds_shp hb, ?_⟩
  show Q (.bl (PyData.eqv (.tuple (toPs (a.map ndDD))) (.tuple (toPs (b.map ndDD)))))
  rw [toPs_nds, toPs_nds]
  show Q (.bl (PyData.eqvAll _ _))
  rw [nds_eqv]
  exact q
theorem goodLab {t : Tr} (h : GoodT t) : ∀ n ∈ t.nodes, LabT n.1 := fun n hn => GoodNd.labT (k := n.2) (h n hn)
section
variable {K : PySem.W.Frag} {A : Adr}
theorem term_eq (TC : TK K A) {t u : Tr} (ht : GoodT t) (hu : GoodT u) {l m : List Nd} {Q : D → Prop} {Z : ZX} (q : Q (.bl (decide (t.nodes = u.nodes)))) : G_Term_eq K A [tmD A t l, tmD A u m] Q Z := by
  unfold G_Term_eq S_Term_eq tmD
  simp only [fnS, Pu.startB, sSeq, sAsg, sIf, sRet, sNext, sNew, sApp, sPar, sDem, demB, fVar, fVarT, fC, fOp, fTst, fAnd, fOr, fNot, fNew, fLst, fTup, fNil, fCons, fSl, oAt, oNo, fCB, fCall, fIf, fChain, fRng1, fIt, fJoin, RLen, RI0, RAdd, RIx, RSl, RIsN, RTuple, RIn, gN, bD, List.map_cons, List.map_nil, List.cons_append, List.nil_append, List.length_cons, List.length_nil, List.replicate, Nat.reduceSub, Nat.reduceAdd, List.getElem?_cons_zero, List.getElem?_cons_succ, List.set_cons_zero, List.set_cons_succ, Option.some.injEq, B.val.injEq, D.int.injEq, D.bl.injEq, D.str.injEq, D.tup.injEq, D.lst.injEq, exists_eq_left', exists_eq_left, exists_and_left, ex_eq, true_and, and_true, List.cons.injEq, fFld, fIsc, fAndV]
  refine ⟨true, ⟨TC.own, TC.isT⟩, ?_⟩
  rw [if_pos rfl]
  refine ⟨_, _, _, rfl, TC.cl, TC.n1, _, rfl, _, _, _, rfl, TC.cl, TC.n1, _, rfl, ?_⟩
  exact eq_nds (goodLab ht) (goodLab hu) q
theorem term_eqS (TC : TK K A) {t : Tr} {l : List Nd} {z : Str} {Q : D → Prop} {Z : ZX} (q : Q (.bl false)) : G_Term_eq K A [tmD A t l, .str z] Q Z := by
  unfold G_Term_eq S_Term_eq tmD
  simp only [fnS, Pu.startB, sSeq, sAsg, sIf, sRet, sNext, sNew, sApp, sPar, sDem, demB, fVar, fVarT, fC, fOp, fTst, fAnd, fOr, fNot, fNew, fLst, fTup, fNil, fCons, fSl, oAt, oNo, fCB, fCall, fIf, fChain, fRng1, fIt, fJoin, RLen, RI0, RAdd, RIx, RSl, RIsN, RTuple, RIn, gN, bD, List.map_cons, List.map_nil, List.cons_append, List.nil_append, List.length_cons, List.length_nil, List.replicate, Nat.reduceSub, Nat.reduceAdd, List.getElem?_cons_zero, List.getElem?_cons_succ, List.set_cons_zero, List.set_cons_succ, Option.some.injEq, B.val.injEq, D.int.injEq, D.bl.injEq, D.str.injEq, D.tup.injEq, D.lst.injEq, exists_eq_left', exists_eq_left, exists_and_left, ex_eq, true_and, and_true, List.cons.injEq, fFld, fIsc, fAndV]
  refine ⟨false, ⟨trivial, rfl, TC.isT7⟩, ?_⟩
  rw [if_neg (by simp)]
  exact q
theorem made_term (TC : TK K A) {t : Tr} (hg : GoodT t) (hs : t.size ≤ 40) (hh : t.ht < 61) {r : List Nd} (hr : arF t.nodes [] = some r) {Q : D → Prop} {Z : ZX} (q : ∀ l, Q (tmD A t l)) : G_made_term K A [trD t] Q Z := by
  unfold G_made_term S_made_term
  simp only [fnS, Pu.startB, sSeq, sAsg, sIf, sRet, sNext, sNew, sApp, sPar, sDem, demB, fVar, fVarT, fC, fOp, fTst, fAnd, fOr, fNot, fNew, fLst, fTup, fNil, fCons, fSl, oAt, oNo, fCB, fCall, fIf, fChain, fRng1, fIt, fJoin, RLen, RI0, RAdd, RIx, RSl, RIsN, RTuple, RIn, gN, bD, List.map_cons, List.map_nil, List.cons_append, List.nil_append, List.length_cons, List.length_nil, List.replicate, Nat.reduceSub, Nat.reduceAdd, List.getElem?_cons_zero, List.getElem?_cons_succ, List.set_cons_zero, List.set_cons_succ, Option.some.injEq, B.val.injEq, D.int.injEq, D.bl.injEq, D.str.injEq, D.tup.injEq, D.lst.injEq, exists_eq_left', exists_eq_left, exists_and_left, ex_eq, true_and, and_true, List.cons.injEq]
  refine nodes 61 t _ _ hh (Nat.le_trans hs (by decide)) ?_
  simp only [fnS, Pu.startB, sSeq, sAsg, sIf, sRet, sNext, sNew, sApp, sPar, sDem, demB, fVar, fVarT, fC, fOp, fTst, fAnd, fOr, fNot, fNew, fLst, fTup, fNil, fCons, fSl, oAt, oNo, fCB, fCall, fIf, fChain, fRng1, fIt, fJoin, RLen, RI0, RAdd, RIx, RSl, RIsN, RTuple, RIn, gN, bD, List.map_cons, List.map_nil, List.cons_append, List.nil_append, List.length_cons, List.length_nil, List.replicate, Nat.reduceSub, Nat.reduceAdd, List.getElem?_cons_zero, List.getElem?_cons_succ, List.set_cons_zero, List.set_cons_succ, Option.some.injEq, B.val.injEq, D.int.injEq, D.bl.injEq, D.str.injEq, D.tup.injEq, D.lst.injEq, exists_eq_left', exists_eq_left, exists_and_left, ex_eq, true_and, and_true, List.cons.injEq, seqD]
  refine term_init TC hg hs ?_
  rw [hr]
  exact q
end
end K6

set_option Elab.async false
set_option maxRecDepth 100000
set_option maxHeartbeats 1000000
set_option linter.all false
namespace K6
open PySem PySem.Spec PyProof.Rows L2 Ly Pu TM
theorem lc_tr {j : Nat} {F : FE} {ρ : Pu.Env} {P : Tr → Prop} : ∀ (l : List D) {Q : List D → Prop}, (∀ d ∈ l, ∀ R : D → Prop, (∀ t, P t → R (trD t)) → F (ρ.set j (.val d)) R F0) →
    (∀ ts : List Tr, ts.length = l.length → (∀ t ∈ ts, P t) → Q (trsD ts)) → lcD (gN j) fYes F ρ l Q
  | [], Q, _, q => q [] rfl fun t h => by cases h
  | d :: l, Q, h, q => by
    refine h d (List.mem_cons_self ..) _ fun t ht => ?_
    refine lc_tr l (fun e he => h e (List.mem_cons_of_mem _ he)) fun ts hl hp => ?_
    refine q (t :: ts) (by rw [List.length_cons, List.length_cons, hl]) fun u hu => ?_
    rcases List.mem_cons.mp hu with rfl | hu
    · exact ht
    · exact hp u hu
theorem eq_int {i j : Int} {Q : D → Prop} : REq (.int i) (.int j) Q = Q (.bl (decide (i = j))) := rfl
theorem kA_zs (l : List Nd) : kA l = (l.map (·.1)).map Sum.inr := by
  rw [List.map_map]; rfl
theorem look_perm {T : List Nd} {ys : List Str} (hp : ys.Perm (T.map (·.1))) (hn : (T.map (·.1)).Nodup) {w : Str} (hw : w ∈ ys) : ∃ a, T.lookup w = some a ∧ (w, a) ∈ T := by
  obtain ⟨n, h1, h2⟩ := List.mem_map.mp (hp.mem_iff.mp hw)
  obtain ⟨u, a⟩ := n
  cases h2
  exact ⟨a, lookup_of_mem hn h1, h1⟩
section
variable {K : PySem.W.Frag} {A : Adr}
theorem term' {T : List Nd} {ls : List Str} (S : Sym T ls) : ∀ (n deep : Nat) (Q : Pu.D → Prop) (Z : ZX), deep < n → deep ≤ 5 →
    (∀ t, Fit T ls t → t.size ≤ 4 ^ (deep + 1) → t.ht ≤ deep → Q (trD t)) → G_term' K A n [.dice, .dic (kA T) (vA T), .lst (ls.map .str), .int (deep : Int)] Q Z
  | 0, _, _, _, h, _, _ => by omega
  | n + 1, deep, Q, Z, h, h5, q => by
    show fnS 8 (S_term' K A (G_term' K A n)) _ Q Z
    unfold S_term'
    simp only [fnS, Pu.startB, sSeq, sAsg, sIf, sRet, sNext, sNew, sApp, sPar, sDem, demB, fVar, fVarT, fC, fOp, fTst, fAnd, fOr, fNot, fNew, fLst, fTup, fNil, fCons, fSl, oAt, oNo, fCB, fCall, fIf, fChain, fRng1, fIt, fJoin, RLen, RI0, RAdd, RIx, RSl, RIsN, RTuple, RIn, gN, bD, List.map_cons, List.map_nil, List.cons_append, List.nil_append, List.length_cons, List.length_nil, List.replicate, Nat.reduceSub, Nat.reduceAdd, List.getElem?_cons_zero, List.getElem?_cons_succ, List.set_cons_zero, List.set_cons_succ, Option.some.injEq, B.val.injEq, D.int.injEq, D.bl.injEq, D.str.injEq, D.tup.injEq, D.lst.injEq, exists_eq_left', exists_eq_left, exists_and_left, ex_eq, true_and, and_true, List.cons.injEq, fLc, fCBN, itD, wipeB]
    refine ⟨T.map (·.1), vA T, by rw [kA_zs], by rw [List.length_map]; exact S.len, fun ys hp hs => ?_⟩
    have hyl : ys.length < 64 := by rw [hp.length_eq, List.length_map]; exact S.len
    refine ⟨by rw [List.length_map, sizeLine_eq]; omega, ?_⟩
    refine lc_fil (f := Pu.D.str) (p := fun w => decide (T.lookup w = some 0)) ys (fun w hw R r => ?_) (fun w hw _ R r => ?_) ?_
    · obtain ⟨a, h1, h2⟩ := look_perm hp S.nodup hw
      simp only [fnS, Pu.startB, sSeq, sAsg, sIf, sRet, sNext, sNew, sApp, sPar, sDem, demB, fVar, fVarT, fC, fOp, fTst, fAnd, fOr, fNot, fNew, fLst, fTup, fNil, fCons, fSl, oAt, oNo, fCB, fCall, fIf, fChain, fRng1, fIt, fJoin, RLen, RI0, RAdd, RIx, RSl, RIsN, RTuple, RIn, gN, bD, List.map_cons, List.map_nil, List.cons_append, List.nil_append, List.length_cons, List.length_nil, List.replicate, Nat.reduceSub, Nat.reduceAdd, List.getElem?_cons_zero, List.getElem?_cons_succ, List.set_cons_zero, List.set_cons_succ, Option.some.injEq, B.val.injEq, D.int.injEq, D.bl.injEq, D.str.injEq, D.tup.injEq, D.lst.injEq, exists_eq_left', exists_eq_left, exists_and_left, ex_eq, true_and, and_true, List.cons.injEq, fGet]
      refine ⟨_, _, rfl, _, rfl, _, (by rw [valD_A, h1]; rfl), ?_⟩
      rw [eq_int]
      refine ⟨_, rfl, ?_⟩
      rw [h1] at r
      exact (show decide ((a : Int) = 0) = decide (some a = some 0) by rw [Bool.eq_iff_iff]; simp) ▸ r
    · simp only [fnS, Pu.startB, sSeq, sAsg, sIf, sRet, sNext, sNew, sApp, sPar, sDem, demB, fVar, fVarT, fC, fOp, fTst, fAnd, fOr, fNot, fNew, fLst, fTup, fNil, fCons, fSl, oAt, oNo, fCB, fCall, fIf, fChain, fRng1, fIt, fJoin, RLen, RI0, RAdd, RIx, RSl, RIsN, RTuple, RIn, gN, bD, List.map_cons, List.map_nil, List.cons_append, List.nil_append, List.length_cons, List.length_nil, List.replicate, Nat.reduceSub, Nat.reduceAdd, List.getElem?_cons_zero, List.getElem?_cons_succ, List.set_cons_zero, List.set_cons_succ, Option.some.injEq, B.val.injEq, D.int.injEq, D.bl.injEq, D.str.injEq, D.tup.injEq, D.lst.injEq, exists_eq_left', exists_eq_left, exists_and_left, ex_eq, true_and, and_true, List.cons.injEq]
      exact r
    have hpick : ∀ w, w ∈ ys.filter (fun w => decide (T.lookup w = some 0)) ∨ w ∈ ls → Fit T ls (.nd w []) := fun w hw => Fit.nd (by
      rcases hw with hw | hw
      · obtain ⟨h1, h2⟩ := List.mem_filter.mp hw
        exact .inl (lookup_mem (of_decide_eq_true h2))
      · exact .inr ⟨hw, rfl⟩) fun t h => by cases h
    have hleaf : ∀ w, w ∈ ys.filter (fun w => decide (T.lookup w = some 0)) ∨ w ∈ ls → Q (.tup [.str w, .tup []]) := fun w hw => q (.nd w []) (hpick w hw) (Nat.pos_of_ne_zero (by simp)) (Nat.zero_le _)
    have hfl := List.length_filter_le (fun w => decide (T.lookup w = some 0)) ys
    have hll := S.ll
    have hne : 0 < (ys.filter (fun w => decide (T.lookup w = some 0))).length := by
      obtain ⟨w, hw⟩ := S.con
      refine List.length_pos_of_mem (a := w) (List.mem_filter.mpr ⟨hp.mem_iff.mpr (List.mem_map.mpr ⟨_, hw, rfl⟩), decide_eq_true (lookup_of_mem S.nodup hw)⟩)
    have leaf : (List.map Pu.D.str (ys.filter (fun w => decide (T.lookup w = some 0)))).length + (List.map Pu.D.str ls).length ≤ sizeLine ∧
        (List.map Pu.D.str (ys.filter (fun w => decide (T.lookup w = some 0))) ++ List.map Pu.D.str ls).length + (List.map Pu.D.str ls).length ≤ sizeLine ∧
          G_pick K A [Pu.D.dice, Pu.D.lst (List.map Pu.D.str (ys.filter (fun w => decide (T.lookup w = some 0))) ++ List.map Pu.D.str ls ++ List.map Pu.D.str ls)] (fun d => 0 ≤ sizeLine ∧ 2 ≤ sizeLine ∧ Q (Pu.D.tup [d, Pu.D.tup []])) Z := by
      simp only [List.length_append, List.length_map]
      refine ⟨by rw [sizeLine_eq]; omega, by rw [sizeLine_eq]; omega, ?_⟩
      refine ⟨_, rfl, by simp only [List.length_append, List.length_map]; omega, by simp only [List.length_append, List.length_map]; omega, fun x hx => ?_⟩
      rw [← List.map_append, ← List.map_append] at hx
      obtain ⟨z, hz, rfl⟩ := List.mem_map.mp hx
      refine ⟨Nat.zero_le _, by decide, hleaf z ?_⟩
      rcases List.mem_append.mp hz with hz | hz
      · exact List.mem_append.mp hz
      · exact .inr hz
    rw [eq_int]
    refine ⟨_, rfl, ?_⟩
    by_cases hd : (deep : Int) = 0
    · rw [decide_eq_true hd, if_pos rfl, if_pos trivial]
      exact leaf
    rw [decide_eq_false hd, if_neg (by simp)]
    refine ⟨4, rfl, by decide, by decide, fun r _ _ => ?_⟩
    show REq (.int r) (.int 0) _
    rw [eq_int]
    refine ⟨_, rfl, ?_⟩
    by_cases hr : r = 0
    · rw [decide_eq_true hr, if_pos rfl]
      exact leaf
    rw [decide_eq_false hr, if_neg (by simp)]
    refine ⟨T.map (·.1), vA T, by rw [kA_zs], by rw [List.length_map]; exact S.len, fun y2 hp2 hs2 => ?_⟩
    refine ⟨T.map (·.1), vA T, by rw [kA_zs], by rw [List.length_map]; exact S.len, fun y3 hp3 hs3 => ?_⟩
    have hy2 : y2.length < 64 := by rw [hp2.length_eq, List.length_map]; exact S.len
    have hy3 : y3.length < 64 := by rw [hp3.length_eq, List.length_map]; exact S.len
    refine ⟨by rw [List.length_map, sizeLine_eq]; omega, ?_⟩
    refine lc_fil (f := Pu.D.str) (p := fun w => decide (0 < (T.lookup w).getD 0)) y3 (fun w hw R r => ?_) (fun w hw _ R r => ?_) ?_
    · obtain ⟨a, h1, h2⟩ := look_perm hp3 S.nodup hw
      simp only [fnS, Pu.startB, sSeq, sAsg, sIf, sRet, sNext, sNew, sApp, sPar, sDem, demB, fVar, fVarT, fC, fOp, fTst, fAnd, fOr, fNot, fNew, fLst, fTup, fNil, fCons, fSl, oAt, oNo, fCB, fCall, fIf, fChain, fRng1, fIt, fJoin, RLen, RI0, RAdd, RIx, RSl, RIsN, RTuple, RIn, gN, bD, List.map_cons, List.map_nil, List.cons_append, List.nil_append, List.length_cons, List.length_nil, List.replicate, Nat.reduceSub, Nat.reduceAdd, List.getElem?_cons_zero, List.getElem?_cons_succ, List.set_cons_zero, List.set_cons_succ, Option.some.injEq, B.val.injEq, D.int.injEq, D.bl.injEq, D.str.injEq, D.tup.injEq, D.lst.injEq, exists_eq_left', exists_eq_left, exists_and_left, ex_eq, true_and, and_true, List.cons.injEq, fGet]
      refine ⟨_, _, rfl, _, rfl, _, (by rw [valD_A, h1]; rfl), ?_⟩
      rw [h1] at r
      simp only [fnS, Pu.startB, sSeq, sAsg, sIf, sRet, sNext, sNew, sApp, sPar, sDem, demB, fVar, fVarT, fC, fOp, fTst, fAnd, fOr, fNot, fNew, fLst, fTup, fNil, fCons, fSl, oAt, oNo, fCB, fCall, fIf, fChain, fRng1, fIt, fJoin, RLen, RI0, RAdd, RIx, RSl, RIsN, RTuple, RIn, gN, bD, List.map_cons, List.map_nil, List.cons_append, List.nil_append, List.length_cons, List.length_nil, List.replicate, Nat.reduceSub, Nat.reduceAdd, List.getElem?_cons_zero, List.getElem?_cons_succ, List.set_cons_zero, List.set_cons_succ, Option.some.injEq, B.val.injEq, D.int.injEq, D.bl.injEq, D.str.injEq, D.tup.injEq, D.lst.injEq, exists_eq_left', exists_eq_left, exists_and_left, ex_eq, true_and, and_true, List.cons.injEq, RGt]
      exact (show decide ((0 : Int) < (a : Int)) = decide (0 < (some a).getD 0) by rw [Bool.eq_iff_iff]; simp) ▸ r
    · simp only [fnS, Pu.startB, sSeq, sAsg, sIf, sRet, sNext, sNew, sApp, sPar, sDem, demB, fVar, fVarT, fC, fOp, fTst, fAnd, fOr, fNot, fNew, fLst, fTup, fNil, fCons, fSl, oAt, oNo, fCB, fCall, fIf, fChain, fRng1, fIt, fJoin, RLen, RI0, RAdd, RIx, RSl, RIsN, RTuple, RIn, gN, bD, List.map_cons, List.map_nil, List.cons_append, List.nil_append, List.length_cons, List.length_nil, List.replicate, Nat.reduceSub, Nat.reduceAdd, List.getElem?_cons_zero, List.getElem?_cons_succ, List.set_cons_zero, List.set_cons_succ, Option.some.injEq, B.val.injEq, D.int.injEq, D.bl.injEq, D.str.injEq, D.tup.injEq, D.lst.injEq, exists_eq_left', exists_eq_left, exists_and_left, ex_eq, true_and, and_true, List.cons.injEq]
      exact r
    have hf3 := List.length_filter_le (fun w => decide (0 < (T.lookup w).getD 0)) y3
    refine ⟨by simp only [List.length_map]; rw [sizeLine_eq]; omega, ?_⟩
    have hy0 : 0 < y2.length := by
      obtain ⟨w, hw⟩ := S.con
      exact List.length_pos_of_mem (a := w) (hp2.mem_iff.mpr (List.mem_map.mpr ⟨_, hw, rfl⟩))
    refine ⟨_, rfl, by simp only [List.length_append, List.length_map]; omega, by simp only [List.length_append, List.length_map]; omega, fun x hx => ?_⟩
    rw [← List.map_append] at hx
    obtain ⟨z, hz, rfl⟩ := List.mem_map.mp hx
    obtain ⟨a, h1, h2⟩ : ∃ a, T.lookup z = some a ∧ (z, a) ∈ T := by
      rcases List.mem_append.mp hz with hz | hz
      · exact look_perm hp2 S.nodup hz
      · exact look_perm hp3 S.nodup (List.mem_filter.mp hz).1
    have ha : a ≤ 3 := S.ar _ h2
    simp only [fnS, Pu.startB, sSeq, sAsg, sIf, sRet, sNext, sNew, sApp, sPar, sDem, demB, fVar, fVarT, fC, fOp, fTst, fAnd, fOr, fNot, fNew, fLst, fTup, fNil, fCons, fSl, oAt, oNo, fCB, fCall, fIf, fChain, fRng1, fIt, fJoin, RLen, RI0, RAdd, RIx, RSl, RIsN, RTuple, RIn, gN, bD, List.map_cons, List.map_nil, List.cons_append, List.nil_append, List.length_cons, List.length_nil, List.replicate, Nat.reduceSub, Nat.reduceAdd, List.getElem?_cons_zero, List.getElem?_cons_succ, List.set_cons_zero, List.set_cons_succ, Option.some.injEq, B.val.injEq, D.int.injEq, D.bl.injEq, D.str.injEq, D.tup.injEq, D.lst.injEq, exists_eq_left', exists_eq_left, exists_and_left, ex_eq, true_and, and_true, List.cons.injEq, fGet]
    refine ⟨_, _, rfl, _, rfl, _, (by rw [valD_A, h1]; rfl), ?_⟩
    refine ⟨_, rfl, ⟨by omega, by omega⟩, ?_⟩
    rw [Int.toNat_natCast]
    have hrl : (rngD 0 1 a).length = a := by unfold rngD; rw [List.length_map, List.length_range]
    refine ⟨by rw [hrl, sizeLine_eq]; omega, ?_⟩
    refine lc_tr (P := fun t => Fit T ls t ∧ t.size ≤ 4 ^ (deep - 1 + 1) ∧ t.ht ≤ deep - 1) _ (fun d hd R hR => ?_) fun ts hl hp => ?_
    · simp only [fnS, Pu.startB, sSeq, sAsg, sIf, sRet, sNext, sNew, sApp, sPar, sDem, demB, fVar, fVarT, fC, fOp, fTst, fAnd, fOr, fNot, fNew, fLst, fTup, fNil, fCons, fSl, oAt, oNo, fCB, fCall, fIf, fChain, fRng1, fIt, fJoin, RLen, RI0, RAdd, RIx, RSl, RIsN, RTuple, RIn, gN, bD, List.map_cons, List.map_nil, List.cons_append, List.nil_append, List.length_cons, List.length_nil, List.replicate, Nat.reduceSub, Nat.reduceAdd, List.getElem?_cons_zero, List.getElem?_cons_succ, List.set_cons_zero, List.set_cons_succ, Option.some.injEq, B.val.injEq, D.int.injEq, D.bl.injEq, D.str.injEq, D.tup.injEq, D.lst.injEq, exists_eq_left', exists_eq_left, exists_and_left, ex_eq, true_and, and_true, List.cons.injEq, RSub]
      rw [show (deep : Int) - 1 = ((deep - 1 : Nat) : Int) by omega]
      exact term' S n (deep - 1) R _ (by omega) (by omega) fun t g1 g2 g3 => hR t ⟨g1, g2, g3⟩
    · refine ⟨_, rfl, by decide, ?_⟩
      rw [hrl] at hl
      refine q (.nd z ts) (Fit.nd (.inl (by rw [hl]; exact h2)) fun t h => (hp t h).1) ?_ ?_
      · show (nodesL ts).length + 1 ≤ _
        have := sizeL_le fun t h => (hp t h).2.1
        rw [hl] at this
        have h4 : 1 ≤ 4 ^ (deep - 1 + 1) := Nat.pos_of_ne_zero (by simp)
        have h6 : 4 ^ (deep + 1) = 4 * 4 ^ (deep - 1 + 1) := by
          rw [show deep - 1 + 1 = deep by omega, Nat.pow_succ, Nat.mul_comm]
        have h7 : 4 ^ (deep - 1 + 1) * a ≤ 4 ^ (deep - 1 + 1) * 3 := Nat.mul_le_mul_left _ ha
        omega
      · show htL ts ≤ deep
        have := htL_le fun t h => (hp t h).2.2
        omega
end
end K6

set_option Elab.async false
set_option maxRecDepth 100000
set_option maxHeartbeats 1000000
set_option linter.all false
namespace K6
open PySem PySem.Spec PyProof.Rows L2 Ly Pu TM
theorem toPs_str : ∀ ls : List Str, toPs (ls.map D.str) = ls.map PyData.str
  | [] => rfl
  | x :: ls => by
    show toP (.str x) :: toPs (ls.map D.str) = _
    rw [toPs_str ls]
    rfl
theorem str_lay : ∀ {ls : List Str}, (∀ x ∈ ls, PyData.strOk x = true) → PyData.canLayAll0 (ls.map PyData.str) = true ∧ PyData.depthAll (ls.map PyData.str) ≤ 0
  | [], _ => ⟨by simp [PyData.canLayAll0], by simp [PyData.depthAll]⟩
  | x :: ls, h => by
    obtain ⟨a, b⟩ := str_lay (ls := ls) fun m hm => h m (List.mem_cons_of_mem _ hm)
    have hw := h x (List.mem_cons_self ..)
    refine ⟨by simp [PyData.canLayAll0, PyData.canLay0, hw, a], ?_⟩
    show PyData.depthAll (PyData.str x :: _) ≤ 0
    simp only [PyData.depthAll, PyData.depth]
    omega
theorem strs_shp {ls : List Str} (h : ∀ x ∈ ls, PyData.strOk x = true) : shp (.lst (ls.map D.str)) := by
  obtain ⟨a, b⟩ := str_lay h
  show SeqAt.shaped (.list (toPs (ls.map D.str))) = true
  rw [toPs_str]
  unfold SeqAt.shaped
  simp only [PyData.canLay0, PyData.depth, a, Bool.true_and]
  exact decide_eq_true (by omega)
theorem ne_strs {ls : List Str} (h : ∀ x ∈ ls, PyData.strOk x = true) (hl : ls ≠ []) {Q : D → Prop} (q : Q (.bl true)) : RNe (.lst (ls.map D.str)) (.lst []) Q := by
  refine ⟨strs_shp h, strs_shp (ls := []) (fun x h => by cases h), ?_⟩
  cases ls with
  | nil => exact absurd rfl hl
  | cons x ls => exact q
section
variable {K : PySem.W.Frag} {A : Adr}
theorem small_term {T : List Nd} {ls : List Str} (S : Sym T ls) (hl : ls ≠ []) {deep most : Nat} (hd : deep ≤ 4) (hm : 1 ≤ most) {Q : D → Prop} {Z : ZX}
    (q : ∀ t, Fit T ls t → t.size ≤ most → t.ht ≤ 5 → Q (trD t)) : G_small_term K A [.dice, .dic (kA T) (vA T), .lst (ls.map .str), .int (deep : Int), .int (most : Int)] Q Z := by
  unfold G_small_term S_small_term
  simp only [fnS, Pu.startB, sSeq, sAsg, sIf, sRet, sNext, sNew, sApp, sPar, sDem, demB, fVar, fVarT, fC, fOp, fTst, fAnd, fOr, fNot, fNew, fLst, fTup, fNil, fCons, fSl, oAt, oNo, fCB, fCall, fIf, fChain, fRng1, fIt, fJoin, RLen, RI0, RAdd, RIx, RSl, RIsN, RTuple, RIn, gN, bD, List.map_cons, List.map_nil, List.cons_append, List.nil_append, List.length_cons, List.length_nil, List.replicate, Nat.reduceSub, Nat.reduceAdd, List.getElem?_cons_zero, List.getElem?_cons_succ, List.set_cons_zero, List.set_cons_succ, Option.some.injEq, B.val.injEq, D.int.injEq, D.bl.injEq, D.str.injEq, D.tup.injEq, D.lst.injEq, exists_eq_left', exists_eq_left, exists_and_left, ex_eq, true_and, and_true, List.cons.injEq]
  refine term' S 6 deep _ _ (by omega) (by omega) fun t h1 h2 h3 => ?_
  have b1 : t.size ≤ 1024 := Nat.le_trans h2 (Nat.pow_le_pow_right (n := 4) (by decide) (show deep + 1 ≤ 5 by omega))
  refine nodes 61 t _ _ (by omega) (by omega) ?_
  refine ⟨t.size, by show some (List.map ndDD t.nodes).length = _; rw [List.length_map]; rfl, ?_⟩
  by_cases c : (t.size : Int) ≤ most
  · rw [decide_eq_true c, if_pos rfl]
    exact q t h1 (by omega) (by omega)
  rw [decide_eq_false c, if_neg (by simp)]
  refine term' S 6 1 _ _ (by omega) (by omega) fun t h1 h2 h3 => ?_
  have b1 : t.size ≤ 1024 := Nat.le_trans h2 (by decide)
  refine nodes 61 t _ _ (by omega) (by omega) ?_
  refine ⟨t.size, by show some (List.map ndDD t.nodes).length = _; rw [List.length_map]; rfl, ?_⟩
  by_cases c : (t.size : Int) ≤ most
  · rw [decide_eq_true c, if_pos rfl]
    exact q t h1 (by omega) (by omega)
  rw [decide_eq_false c, if_neg (by simp)]
  refine ⟨Nat.zero_le _, ne_strs S.lok hl ⟨true, rfl, ?_⟩⟩
  rw [if_pos rfl]
  refine ⟨_, rfl, by rw [List.length_map]; exact List.length_pos_iff.mpr hl, by rw [List.length_map]; have := S.ll; omega, fun x hx => ?_⟩
  obtain ⟨z, hz, rfl⟩ := List.mem_map.mp hx
  exact ⟨Nat.zero_le _, by decide, q (.nd z []) (Fit.nd (.inr ⟨hz, rfl⟩) fun t h => by cases h) hm (Nat.zero_le _)⟩
theorem drawn_term {deep : Nat} (hd : deep ≤ 4) {Q : D → Prop} {Z : ZX}
    (q : ∀ t, Fit D0 L0 t → t.size ≤ 40 → t.ht ≤ 5 → Q (trD t)) : G_drawn_term K A [.dice, .int (deep : Int)] Q Z := by
  unfold G_drawn_term S_drawn_term
  simp only [fnS, Pu.startB, sSeq, sAsg, sIf, sRet, sNext, sNew, sApp, sPar, sDem, demB, fVar, fVarT, fC, fOp, fTst, fAnd, fOr, fNot, fNew, fLst, fTup, fNil, fCons, fSl, oAt, oNo, fCB, fCall, fIf, fChain, fRng1, fIt, fJoin, RLen, RI0, RAdd, RIx, RSl, RIsN, RTuple, RIn, gN, bD, List.map_cons, List.map_nil, List.cons_append, List.nil_append, List.length_cons, List.length_nil, List.replicate, Nat.reduceSub, Nat.reduceAdd, List.getElem?_cons_zero, List.getElem?_cons_succ, List.set_cons_zero, List.set_cons_succ, Option.some.injEq, B.val.injEq, D.int.injEq, D.bl.injEq, D.str.injEq, D.tup.injEq, D.lst.injEq, exists_eq_left', exists_eq_left, exists_and_left, ex_eq, true_and, and_true, List.cons.injEq, fDic, fDisp, pairsF]
  refine ⟨_, rfl, by decide, by decide, ?_⟩
  exact small_term (T := D0) (ls := L0) sym0 (by decide) (deep := deep) (most := 40) hd (by decide) q
end
end K6

set_option Elab.async false
set_option maxRecDepth 100000
set_option maxHeartbeats 1000000
set_option linter.all false
namespace K6
open PySem PySem.Spec PyProof.Rows L2 Ly Pu TM
theorem slice_to (z : Str) (j : Nat) : Txt.slice z none (some (j : Int)) = mkS ((lab z).take j) := by
  rw [← C8.cutS_slice]
  unfold cutS mkS
  rw [HT.sIx_nat, len_lab]
  congr 2
  show ((lab z).drop 0).take (min j (lab z).length - 0) = _
  rw [List.drop_zero, Nat.sub_zero]
  by_cases hj : j ≤ (lab z).length
  · rw [Nat.min_eq_left hj]
  · rw [Nat.min_eq_right (by omega), List.take_of_length_le (by omega), List.take_of_length_le (by omega)]
theorem slice_of (z : Str) (i : Nat) : Txt.slice z (some (i : Int)) none = mkS ((lab z).drop i) := by
  rw [← C8.cutS_slice]
  unfold cutS mkS
  rw [HT.sIx_nat, len_lab]
  congr 2
  show ((lab z).drop (min i (lab z).length)).take ((lab z).length - min i (lab z).length) = _
  by_cases hi : i ≤ (lab z).length
  · rw [Nat.min_eq_left hi, List.take_of_length_le (by rw [List.length_drop]; omega)]
  · rw [Nat.min_eq_right (show (lab z).length ≤ i by omega), List.drop_of_length_le (Nat.le_refl _), List.drop_of_length_le (show (lab z).length ≤ i by omega), List.take_nil]
def Bent (l m : List Nat) : Prop := ∃ (a b : Nat) (p : List Nat), m = l.take a ++ p ++ l.drop b ∧ a ≤ b + 3 ∧ p.length ≤ 8 ∧ cnt p ≤ 1
def pcs : List Str := ["(", ")", ", ", ",", " ", "a", "_", "#", "f(", "k(_)", "A", "", ")(", "zzzzzzzz", ", _", "(a)"]
theorem pcs_ok : ∀ p ∈ pcs, (lab p).length ≤ 8 ∧ cnt (lab p) ≤ 1 := by decide +kernel
theorem mk_app (a b : List Nat) : mkS a ++ mkS b = mkS (a ++ b) := (mk_eq.mpr (by rw [lab_app, lab_mk, lab_mk])).symm
section
variable {K : PySem.W.Frag} {A : Adr}
theorem bent {z : Str} (hz : z.length ≤ 2000) {Q : D → Prop} {Z : ZX}
    (q : ∀ m, Bent (lab z) m → Q (.str (mkS m))) : G_bent K A [.dice, .str z] Q Z := by
  have hs : z.length ≤ sizeLine := by rw [sizeLine_eq]; omega
  unfold G_bent S_bent
  simp only [fnS, Pu.startB, sSeq, sAsg, sIf, sRet, sNext, sNew, sApp, sPar, sDem, demB, fVar, fVarT, fC, fOp, fTst, fAnd, fOr, fNot, fNew, fLst, fTup, fNil, fCons, fSl, oAt, oNo, fCB, fCall, fIf, fChain, fRng1, fIt, fJoin, RLen, RI0, RAdd, RIx, RSl, RIsN, RTuple, RIn, gN, bD, List.map_cons, List.map_nil, List.cons_append, List.nil_append, List.length_cons, List.length_nil, List.replicate, Nat.reduceSub, Nat.reduceAdd, List.getElem?_cons_zero, List.getElem?_cons_succ, List.set_cons_zero, List.set_cons_succ, Option.some.injEq, B.val.injEq, D.int.injEq, D.bl.injEq, D.str.injEq, D.tup.injEq, D.lst.injEq, exists_eq_left', exists_eq_left, exists_and_left, ex_eq, true_and, and_true, List.cons.injEq, lenD_str hs]
  refine ⟨_, rfl, by omega, by omega, fun r h0 h1 => ⟨_, rfl, by decide, by decide, fun u _ _ => ?_⟩⟩
  refine ⟨_, _, ⟨rfl, rfl⟩, by decide, ?_⟩
  refine ⟨pcs.map .str, rfl, by decide, by decide, fun x hx => ?_⟩
  obtain ⟨p, hp, rfl⟩ := List.mem_map.mp hx
  obtain ⟨p1, p2⟩ := pcs_ok p hp
  obtain ⟨a, rfl⟩ := Int.eq_ofNat_of_zero_le h0
  have hp' : p = mkS (lab p) := (mk_lab p).symm
  have hlz := len_lab z
  have key : ∀ (b : Nat) (m : List Nat), a ≤ b + 3 → m.length ≤ 8 → cnt m ≤ 1 → Bent (lab z) ((lab z).take a ++ m ++ (lab z).drop b) := fun b m h1 h2 h3 => ⟨a, b, m, rfl, h1, h2, h3⟩
  have ln : ∀ m : List Nat, (mkS m).length = m.length := fun m => by rw [len_lab, lab_mk]
  have lt : ((lab z).take a).length ≤ 2000 := by rw [List.length_take]; omega
  have ld : ∀ b, ((lab z).drop b).length ≤ 2000 := fun b => by rw [List.length_drop]; omega
  have fin0 : ∀ b : Nat, a ≤ b + 3 → (Txt.slice z none (some (a : Int))).length + (Txt.slice z (some (b : Int)) none).length ≤ sizeLine ∧ Q (D.str (Txt.slice z none (some (a : Int)) ++ Txt.slice z (some (b : Int)) none)) := fun b hb => by
    rw [slice_to, slice_of, mk_app, ln, ln]
    have h := q _ (key b [] hb (Nat.zero_le _) (Nat.zero_le _))
    rw [List.append_nil] at h
    have := ld b
    exact ⟨by rw [sizeLine_eq]; omega, h⟩
  have fin1 : ∀ b : Nat, a ≤ b + 3 → (Txt.slice z none (some (a : Int)) ++ p).length + (Txt.slice z (some (b : Int)) none).length ≤ sizeLine ∧ Q (D.str (Txt.slice z none (some (a : Int)) ++ p ++ Txt.slice z (some (b : Int)) none)) := fun b hb => by
    rw [hp', slice_to, slice_of, mk_app, mk_app, ln, ln, List.length_append]
    have h := q _ (key b (lab p) hb p1 p2)
    have := ld b
    exact ⟨by rw [sizeLine_eq]; omega, h⟩
  have len1 : (Txt.slice z none (some (a : Int))).length + p.length ≤ sizeLine := by
    rw [slice_to, ln, len_lab p, sizeLine_eq]
    omega
  rw [eq_int]
  refine ⟨_, rfl, ?_⟩
  by_cases c0 : u = 0
  · rw [decide_eq_true c0, if_pos rfl]
    exact ⟨_, rfl, hs, _, rfl, hs, fin0 (a + 1) (by omega)⟩
  rw [decide_eq_false c0, if_neg (by simp), eq_int]
  refine ⟨_, rfl, ?_⟩
  by_cases c1 : u = 1
  · rw [decide_eq_true c1, if_pos rfl]
    exact ⟨_, rfl, hs, len1, _, rfl, hs, fin1 a (by omega)⟩
  rw [decide_eq_false c1, if_neg (by simp), eq_int]
  refine ⟨_, rfl, ?_⟩
  by_cases c2 : u = 2
  · rw [decide_eq_true c2, if_pos rfl]
    refine ⟨_, rfl, hs, len1, 2, rfl, by decide, by decide, fun v g0 g1 => ?_⟩
    obtain ⟨v, rfl⟩ := Int.eq_ofNat_of_zero_le g0
    exact ⟨_, rfl, hs, fin1 (a + 1 + v) (by omega)⟩
  rw [decide_eq_false c2, if_neg (by simp)]
  refine ⟨_, rfl, hs, _, _, rfl, _, rfl, hs, ?_⟩
  rw [show (if (a : Int) - 3 > 0 then (a : Int) - 3 else 0) = ((a - 3 : Nat) : Int) by split <;> omega]
  exact fin0 (a - 3) (by omega)
theorem Bent.len {l m : List Nat} (h : Bent l m) : m.length ≤ l.length + 11 := by
  obtain ⟨a, b, p, rfl, h1, h2, _⟩ := h
  simp only [List.length_append, List.length_take, List.length_drop]
  omega
theorem Bent.cnt {l m : List Nat} (h : Bent l m) : cnt m ≤ cnt l + 4 := by
  obtain ⟨a, b, p, rfl, h1, _, h2⟩ := h
  unfold K6.cnt at *
  rw [List.count_append, List.count_append]
  have e1 : l.count 40 = (l.take b).count 40 + (l.drop b).count 40 := by rw [← List.count_append, List.take_append_drop]
  have e2 : (l.take (b + 3)).count 40 ≤ (l.take b).count 40 + 3 := by
    rw [List.take_add, List.count_append]
    have := List.count_le_length (a := 40) (l := (l.drop b).take 3)
    rw [List.length_take] at this
    omega
  have e3 : (l.take a).count 40 ≤ (l.take (b + 3)).count 40 := by
    refine List.Sublist.count_le 40 ?_
    exact List.take_sublist_take_left h1
  omega
end
end K6

set_option Elab.async false
set_option maxRecDepth 100000
set_option maxHeartbeats 1000000
set_option linter.all false
namespace K6
open PySem PySem.Spec PyProof.Rows L2 Ly Pu TM
theorem arF_look : ∀ (nds acc l : List Nd), arF nds acc = some l → (∀ w a, acc.lookup w = some a → l.lookup w = some a) ∧ ∀ n ∈ nds, l.lookup n.1 = some n.2
  | [], acc, l, h => by
    cases h
    exact ⟨fun _ _ h => h, fun n h => by cases h⟩
  | (w, a) :: r, acc, l, h => by
    unfold arF at h
    cases c : acc.lookup w with
    | none =>
      rw [c] at h
      obtain ⟨h1, h2⟩ := arF_look r _ l h
      have h3 : ∀ u b, acc.lookup u = some b → (acc ++ [(w, a)]).lookup u = some b := fun u b hb => by rw [List.lookup_append, hb]; rfl
      refine ⟨fun u b hb => h1 u b (h3 u b hb), fun n hn => ?_⟩
      rcases List.mem_cons.mp hn with rfl | hn
      · refine h1 w a ?_
        rw [List.lookup_append, c]
        simp [List.lookup_cons]
      · exact h2 n hn
    | some b =>
      rw [c] at h
      simp only at h
      by_cases e : b = a
      · rw [if_pos e] at h
        obtain ⟨h1, h2⟩ := arF_look r _ l h
        refine ⟨h1, fun n hn => ?_⟩
        rcases List.mem_cons.mp hn with rfl | hn
        · exact e ▸ h1 w b c
        · exact h2 n hn
      · rw [if_neg e] at h
        cases h
theorem val_zip (k k' : Key) (d : D) : ∀ (ks : List Key) (ds : List D), ks.length = ds.length → (ks.any fun x => decide (x = k)) = true → valD ks (List.zipWith (fun x y => if x = k then d else y) ks ds) k' = if k = k' then some d else valD ks ds k'
  | [], _, _, h => by cases h
  | x :: ks, [], hl, _ => by cases hl
  | x :: ks, y :: ds, hl, h => by
    show (if x = k' then some (if x = k then d else y) else valD ks (List.zipWith (fun x y => if x = k then d else y) ks ds) k') = if k = k' then some d else if x = k' then some y else valD ks ds k'
    by_cases c : x = k'
    · subst c
      rw [if_pos rfl, if_pos rfl]
      by_cases e : x = k
      · rw [if_pos e, if_pos e.symm]
      · rw [if_neg e, if_neg (fun z => e z.symm)]
    · rw [if_neg c, if_neg c]
      by_cases a : (ks.any fun x => decide (x = k)) = true
      · exact val_zip k k' d ks ds (by simpa using hl) a
      · have hx : x = k := by
          rw [List.any_cons, Bool.or_eq_true] at h
          rcases h with h | h
          · exact of_decide_eq_true h
          · exact absurd h a
        subst hx
        rw [if_neg c]
        have : List.zipWith (fun (u : Key) (v : D) => if u = x then d else v) ks ds = ds := no_zip ks ds (by simpa using hl) a
        rw [this] where
  no_zip {x : Key} {d : D} : ∀ (ks : List Key) (ds : List D), ks.length = ds.length → ¬ (ks.any fun u => decide (u = x)) = true → List.zipWith (fun (u : Key) (v : D) => if u = x then d else v) ks ds = ds
    | [], [], _, _ => rfl
    | [], _ :: _, h, _ => by cases h
    | _ :: _, [], h, _ => by cases h
    | u :: ks, v :: ds, h, a => by
      rw [List.any_cons, Bool.or_eq_true] at a
      show (if u = x then d else v) :: List.zipWith _ ks ds = _
      rw [if_neg (fun z => a (.inl (decide_eq_true z))), no_zip ks ds (by simpa using h) (fun z => a (.inr z))]
theorem val_end (k k' : Key) (d : D) : ∀ (ks : List Key) (ds : List D), ks.length = ds.length → ¬ (ks.any fun x => decide (x = k)) = true → valD (ks ++ [k]) (ds ++ [d]) k' = if k = k' then some d else valD ks ds k'
  | [], [], _, _ => by
    show (if k = k' then some d else none) = if k = k' then some d else none
    rfl
  | [], _ :: _, h, _ => by cases h
  | _ :: _, [], h, _ => by cases h
  | x :: ks, y :: ds, hl, a => by
    rw [List.any_cons, Bool.or_eq_true] at a
    show (if x = k' then some y else valD (ks ++ [k]) (ds ++ [d]) k') = if k = k' then some d else if x = k' then some y else valD ks ds k'
    rw [val_end k k' d ks ds (by simpa using hl) (fun z => a (.inr z))]
    by_cases c : x = k'
    · subst c
      rw [if_pos rfl, if_pos rfl, if_neg (fun z => a (.inl (decide_eq_true z.symm)))]
    · rw [if_neg c, if_neg c]
theorem val_put {ks : List Key} {ds : List D} (k k' : Key) (d : D) (hl : ks.length = ds.length) : valD (putKs ks k) (putDs ks ds k d) k' = if k = k' then some d else valD ks ds k' := by
  unfold putKs putDs
  by_cases h : (ks.any fun x => decide (x = k)) = true
  · rw [if_pos h, if_pos h]
    exact val_zip k k' d ks ds hl h
  · rw [if_neg h, if_neg h]
    exact val_end k k' d ks ds hl h
theorem len_put {ks : List Key} {ds : List D} (k : Key) (d : D) (hl : ks.length = ds.length) : (putKs ks k).length = (putDs ks ds k d).length := by
  unfold putKs putDs
  by_cases h : (ks.any fun x => decide (x = k)) = true
  · rw [if_pos h, if_pos h, List.length_zipWith]
    omega
  · rw [if_neg h, if_neg h, List.length_append, List.length_append, hl]
    rfl
theorem val_merge (w : Str) : ∀ (m : List Nd) (ks : List Key) (ds : List D), ks.length = ds.length → valD (mergeKs ks (m.map fun n => (Sum.inr n.1, D.int (n.2 : Int)))) (mergeDs ks ds (m.map fun n => (Sum.inr n.1, D.int (n.2 : Int)))) (Sum.inr w) = match m.reverse.lookup w with | some a => some (.int (a : Int)) | none => valD ks ds (Sum.inr w)
  | [], ks, ds, _ => rfl
  | n :: m, ks, ds, hl => by
    show valD (mergeKs (putKs ks (Sum.inr n.1)) (m.map fun n => (Sum.inr n.1, D.int (n.2 : Int)))) (mergeDs (putKs ks (Sum.inr n.1)) (putDs ks ds (Sum.inr n.1) (.int (n.2 : Int))) (m.map fun n => (Sum.inr n.1, D.int (n.2 : Int)))) (Sum.inr w) = _
    rw [val_merge w m _ _ (len_put _ _ hl), val_put _ _ _ hl, List.reverse_cons, List.lookup_append]
    cases m.reverse.lookup w with
    | some a => rfl
    | none =>
      obtain ⟨u, b⟩ := n
      show _ = match (none : Option Nat).or (List.lookup w [(u, b)]) with | some a => some (D.int (a : Int)) | none => valD ks ds (Sum.inr w)
      by_cases h : w = u
      · subst h
        simp [List.lookup_cons]
      · have h2 : ¬ u = w := fun z => h z.symm
        have h3 : ¬ (Sum.inr u : Key) = Sum.inr w := fun z => h2 (by injection z)
        simp only [if_neg h3, List.lookup_cons, beq_eq_false_iff_ne.mpr h]
        rfl
theorem keys_nds : ∀ m : List Nd, keysD (m.map fun n => (D.str n.1, D.int (n.2 : Int))) = some (m.map fun n => (Sum.inr n.1, D.int (n.2 : Int)))
  | [] => rfl
  | n :: m => by
    show (match keyD (D.str n.1), keysD (m.map fun n => (D.str n.1, D.int (n.2 : Int))) with | some k, some r => some ((k, D.int (n.2 : Int)) :: r) | _, _ => none) = _
    rw [keys_nds m]
    rfl
theorem leaf0 {w : Str} {k : Nat} (h : w = "_" ∨ w = "#") (g : GoodNd (w, k)) : k = 0 := by
  rcases ((good_iff w k).mp g).2 with q | q
  · have q := q.2.2
    rcases h with rfl | rfl
    · exact absurd q (by decide +kernel)
    · exact absurd q (by decide +kernel)
  · exact q.2
/-- one arity for each word -/
theorem twice_iff {t : Tr} (hg : GoodT t) : (∀ n ∈ t.nodes.filter plainW, (t.nodes.filter plainW).reverse.lookup n.1 = some n.2) ↔ (arF t.nodes []).isSome = true := by
  constructor
  · intro h
    obtain ⟨l, e⟩ := arF_fit (T := t.nodes) (fun w a b ha hb => by
      by_cases p : plainW (w, a) = true
      · have e1 := h _ (List.mem_filter.mpr ⟨ha, p⟩)
        have e2 := h _ (List.mem_filter.mpr ⟨hb, (p : plainW (w, b) = true)⟩)
        rw [e1] at e2
        cases e2
        rfl
      · have hl : w = "_" ∨ w = "#" := by
          have : isLeaf w = true := by
            unfold plainW at p
            cases c : isLeaf w with
            | true => rfl
            | false => rw [show isLeaf (w, a).1 = false from c] at p; exact absurd rfl p
          exact of_decide_eq_true this
        rw [leaf0 hl (hg _ ha), leaf0 hl (hg _ hb)]) t.nodes [] (fun n hn => hn) (fun n hn => by cases hn)
    rw [e]
    rfl
  · intro h n hn
    cases c : arF t.nodes [] with
    | none => rw [c] at h; cases h
    | some l =>
      have h2 := (arF_look _ _ _ c).2
      have f : ∀ (m : List Nd), (∀ k ∈ m, l.lookup k.1 = some k.2) → n ∈ m → m.lookup n.1 = some n.2 := by
        intro m
        induction m with
        | nil => intro _ h; cases h
        | cons k m ih =>
          intro hm hk
          obtain ⟨u, b⟩ := k
          rw [List.lookup_cons]
          by_cases e : n.1 = u
          · have e1 := hm (u, b) (List.mem_cons_self ..)
            have e2 := h2 n (List.mem_filter.mp hn).1
            rw [e] at e2
            rw [e2] at e1
            cases e1
            rw [e, beq_self_eq_true]
          · rw [beq_eq_false_iff_ne.mpr e]
            rcases List.mem_cons.mp hk with q | q
            · exact absurd (by rw [q]) e
            · exact ih (fun k hk => hm k (List.mem_cons_of_mem _ hk)) q
      exact f _ (fun k hk => h2 k (List.mem_filter.mp (List.mem_reverse.mp hk)).1) (List.mem_reverse.mpr hn)
end K6

set_option Elab.async false
set_option maxRecDepth 100000
set_option maxHeartbeats 1000000
set_option linter.all false
namespace K6
open PySem PySem.Spec PyProof.Rows L2 Ly Pu TM
theorem cnt_app (a b : List Nat) : cnt (a ++ b) = cnt a + cnt b := List.count_append
theorem cnt_cons (c : Nat) (b : List Nat) : cnt (c :: b) = cnt b + if c = 40 then 1 else 0 := by
  unfold cnt
  rw [List.count_cons]
  simp
theorem ht_tx (t : Tr) : t.ht ≤ cnt t.tx :=
  Tr.rec (motive_1 := fun t => t.ht ≤ cnt t.tx) (motive_2 := fun ts => htL ts ≤ cnt (txR ts) + 1 ∧ ∀ t us, ts = t :: us → htL ts ≤ cnt t.tx + cnt (txR us) + 1)
    (fun w ts ih => by
      cases ts with
      | nil => exact Nat.zero_le _
      | cons t us =>
        have h := ih.2 t us rfl
        show htL (t :: us) ≤ cnt (lab w ++ 40 :: (t.tx ++ txR us))
        rw [cnt_app, cnt_cons, cnt_app, if_pos rfl]
        omega)
    ⟨Nat.zero_le _, fun t us h => by cases h⟩
    (fun t ts i1 i2 => by
      have h : htL (t :: ts) ≤ cnt t.tx + cnt (txR ts) + 1 := by
        show max (t.ht + 1) (htL ts) ≤ _
        have := i2.1
        omega
      refine ⟨?_, fun u us e => by cases e; exact h⟩
      show _ ≤ cnt (44 :: 32 :: (t.tx ++ txR ts)) + 1
      rw [cnt_cons, cnt_cons, cnt_app]
      omega) t
theorem size_tx (t : Tr) : t.All LabT → t.size ≤ t.tx.length :=
  Tr.rec (motive_1 := fun t => t.All LabT → t.size ≤ t.tx.length) (motive_2 := fun ts => AllL LabT ts → (nodesL ts).length ≤ (txR ts).length ∧ ∀ t us, ts = t :: us → (nodesL ts).length ≤ t.tx.length + (txR us).length)
    (fun w ts ih h => by
      have hw : 1 ≤ (lab w).length := by
        rcases h.1 with q | q | q
        · exact List.length_pos_iff.mpr q.1
        · rw [q]; decide
        · rw [q]; decide
      cases ts with
      | nil => exact hw
      | cons t us =>
        have := (ih h.2).2 t us rfl
        show (nodesL (t :: us)).length + 1 ≤ (lab w ++ 40 :: (t.tx ++ txR us)).length
        simp only [List.length_append, List.length_cons]
        omega)
    (fun _ => ⟨Nat.zero_le _, fun t us h => by cases h⟩)
    (fun t ts i1 i2 h => by
      have h1 : t.nodes.length ≤ _ := i1 h.1
      have h2 := (i2 h.2).1
      have g : (nodesL (t :: ts)).length ≤ t.tx.length + (txR ts).length := by
        show (t.nodes ++ nodesL ts).length ≤ _
        rw [List.length_append]
        omega
      refine ⟨?_, fun u us e => by cases e; exact g⟩
      show _ ≤ (44 :: 32 :: (t.tx ++ txR ts)).length
      simp only [List.length_append, List.length_cons]
      omega) t
theorem let40 {w : Str} (h : LabT w) : cnt (lab w) = 0 := by
  unfold cnt
  rw [List.count_eq_zero]
  intro m
  rcases h with ⟨_, q⟩ | q | q
  · exact absurd (List.all_eq_true.mp q 40 m) (by decide +kernel)
  · rw [q] at m; revert m; decide
  · rw [q] at m; revert m; decide
theorem cnt_tx (t : Tr) : t.All LabT → cnt t.tx + 1 ≤ t.size :=
  Tr.rec (motive_1 := fun t => t.All LabT → cnt t.tx + 1 ≤ t.size) (motive_2 := fun ts => AllL LabT ts → cnt (txR ts) ≤ (nodesL ts).length ∧ ∀ t us, ts = t :: us → cnt t.tx + cnt (txR us) + 1 ≤ (nodesL ts).length)
    (fun w ts ih h => by
      have hw := let40 h.1
      cases ts with
      | nil => show cnt (lab w) + 1 ≤ 1; omega
      | cons t us =>
        have := (ih h.2).2 t us rfl
        show cnt (lab w ++ 40 :: (t.tx ++ txR us)) + 1 ≤ (nodesL (t :: us)).length + 1
        rw [cnt_app, cnt_cons, cnt_app, if_pos rfl]
        omega)
    (fun _ => ⟨by decide, fun t us h => by cases h⟩)
    (fun t ts i1 i2 h => by
      have h1 : _ ≤ t.nodes.length := i1 h.1
      have h2 := (i2 h.2).1
      have g : cnt t.tx + cnt (txR ts) + 1 ≤ (nodesL (t :: ts)).length := by
        show _ ≤ (t.nodes ++ nodesL ts).length
        rw [List.length_append]
        omega
      refine ⟨?_, fun u us e => by cases e; exact g⟩
      show cnt (44 :: 32 :: (t.tx ++ txR ts)) ≤ _
      rw [cnt_cons, cnt_cons, cnt_app, if_neg (by decide), if_neg (by decide)]
      omega) t
theorem len_tx (t : Tr) : t.All (fun w => w.length ≤ 8) → t.tx.length + 2 ≤ 13 * t.size :=
  Tr.rec (motive_1 := fun t => t.All (fun w => w.length ≤ 8) → t.tx.length + 2 ≤ 13 * t.size) (motive_2 := fun ts => AllL (fun w => w.length ≤ 8) ts → (txR ts).length ≤ 13 * (nodesL ts).length + 1 ∧ ∀ t us, ts = t :: us → t.tx.length + (txR us).length + 1 ≤ 13 * (nodesL ts).length)
    (fun w ts ih h => by
      have hw : w.length ≤ 8 := h.1
      rw [len_lab] at hw
      cases ts with
      | nil => show (lab w).length + 2 ≤ 13 * 1; omega
      | cons t us =>
        have := (ih h.2).2 t us rfl
        show (lab w ++ 40 :: (t.tx ++ txR us)).length + 2 ≤ 13 * ((nodesL (t :: us)).length + 1)
        simp only [List.length_append, List.length_cons]
        omega)
    (fun _ => ⟨by decide, fun t us h => by cases h⟩)
    (fun t ts i1 i2 h => by
      have h1 : _ ≤ 13 * t.nodes.length := i1 h.1
      have h2 := (i2 h.2).1
      have g : t.tx.length + (txR ts).length + 1 ≤ 13 * (nodesL (t :: ts)).length := by
        show _ ≤ 13 * (t.nodes ++ nodesL ts).length
        rw [List.length_append]
        omega
      refine ⟨?_, fun u us e => by cases e; exact g⟩
      show (44 :: 32 :: (t.tx ++ txR ts)).length ≤ _
      simp only [List.length_append, List.length_cons]
      omega) t
end K6

set_option Elab.async false
set_option maxRecDepth 100000
set_option maxHeartbeats 1000000
set_option linter.all false
namespace K6
open PySem PySem.Spec PyProof.Rows L2 Ly Pu TM
theorem join_tx : ∀ (ts : List Tr) (t : Tr), lab t.text = t.tx → (∀ u ∈ ts, lab u.text = u.tx) → lab (Str.join ", " ((t :: ts).map Tr.text)) ++ [41] = t.tx ++ txR ts
  | [], t, h, _ => by
    show lab t.text ++ [41] = t.tx ++ [41]
    rw [h]
  | u :: ts, t, h, hs => by
    have ih := join_tx ts u (hs u (List.mem_cons_self ..)) fun v hv => hs v (List.mem_cons_of_mem _ hv)
    show lab (t.text ++ ", " ++ Str.join ", " ((u :: ts).map Tr.text)) ++ [41] = t.tx ++ (44 :: 32 :: (u.tx ++ txR ts))
    rw [lab_app, lab_app, List.append_assoc, ih, h, List.append_assoc]
    rfl
theorem tx_text (t : Tr) : lab t.text = t.tx :=
  Tr.rec (motive_1 := fun t => lab t.text = t.tx) (motive_2 := fun ts => ∀ u ∈ ts, lab u.text = u.tx)
    (fun w ts ih => by
      cases ts with
      | nil => rfl
      | cons t us =>
        rw [text_nd (by simp)]
        have h := join_tx us t (ih t (List.mem_cons_self ..)) fun u hu => ih u (List.mem_cons_of_mem _ hu)
        show lab (w ++ "(" ++ Txt.join ", " ((t :: us).map Tr.text) ++ ")") = lab w ++ 40 :: (t.tx ++ txR us)
        rw [← h, TL.join_eq, lab_app, lab_app, lab_app, List.append_assoc, List.append_assoc]
        rfl)
    (fun u hu => by cases hu)
    (fun t ts i1 i2 u hu => by
      rcases List.mem_cons.mp hu with rfl | hu
      · exact i1
      · exact i2 u hu) t
theorem lnds_shp {nds : List Nd} (h : ∀ n ∈ nds, LabT n.1) : shp (.lst (nds.map ndDD)) := by
  obtain ⟨a, b⟩ := nds_lay h
  show SeqAt.shaped (.list (toPs (nds.map ndDD))) = true
  rw [toPs_nds]
  unfold SeqAt.shaped
  simp only [PyData.canLay0, PyData.depth, a, Bool.true_and]
  exact decide_eq_true (by omega)
theorem eq_lnil {m : List Nd} (h : ∀ n ∈ m, LabT n.1) {Q : D → Prop} (q : Q (.bl m.isEmpty)) : REq (.lst (m.map ndDD)) (.lst []) Q := by
  refine ⟨lnds_shp h, lnds_shp (nds := []) (fun x h => by cases h), ?_⟩
  cases m with
  | nil => exact q
  | cons x ls => exact q
def DueOk (Q : D → Prop) : Option (Tr × List Nat) → Prop
  | none => Q (.str "parse None")
  | some (t, r) => if r ≠ [] ∨ 40 < t.size then Q (.str "parse None") else if (arF t.nodes []).isSome = true then Q (trD t) else Q (.str "term")
section
variable {K : PySem.W.Frag} {A : Adr}
theorem due {z : Str} (hz : z.length ≤ 1000) (hc : cnt (lab z) < 60) {Q : D → Prop} {Z : ZX} (q : DueOk Q (rd 60 (lab z))) : G_due K A [.str z] Q Z := by
  have hs : z.length ≤ sizeLine := by rw [sizeLine_eq]; omega
  unfold G_due S_due
  simp only [fnS, Pu.startB, sSeq, sAsg, sIf, sRet, sNext, sNew, sApp, sPar, sDem, demB, fVar, fVarT, fC, fOp, fTst, fAnd, fOr, fNot, fNew, fLst, fTup, fNil, fCons, fSl, oAt, oNo, fCB, fCall, fIf, fChain, fRng1, fIt, fJoin, RLen, RI0, RAdd, RIx, RSl, RIsN, RTuple, RIn, gN, bD, List.map_cons, List.map_nil, List.cons_append, List.nil_append, List.length_cons, List.length_nil, List.replicate, Nat.reduceSub, Nat.reduceAdd, List.getElem?_cons_zero, List.getElem?_cons_succ, List.set_cons_zero, List.set_cons_succ, Option.some.injEq, B.val.injEq, D.int.injEq, D.bl.injEq, D.str.injEq, D.tup.injEq, D.lst.injEq, exists_eq_left', exists_eq_left, exists_and_left, ex_eq, true_and, and_true, List.cons.injEq]
  refine read 60 (by omega) 0 _ _ (Nat.zero_le _) (by rw [List.drop_zero]; exact hc) ?_
  rw [List.drop_zero]
  cases e : rd 60 (lab z) with
  | none =>
    rw [e] at q
    unfold RdOk
    simp only [fnS, Pu.startB, sSeq, sAsg, sIf, sRet, sNext, sNew, sApp, sPar, sDem, demB, fVar, fVarT, fC, fOp, fTst, fAnd, fOr, fNot, fNew, fLst, fTup, fNil, fCons, fSl, oAt, oNo, fCB, fCall, fIf, fChain, fRng1, fIt, fJoin, RLen, RI0, RAdd, RIx, RSl, RIsN, RTuple, RIn, gN, bD, List.map_cons, List.map_nil, List.cons_append, List.nil_append, List.length_cons, List.length_nil, List.replicate, Nat.reduceSub, Nat.reduceAdd, List.getElem?_cons_zero, List.getElem?_cons_succ, List.set_cons_zero, List.set_cons_succ, Option.some.injEq, B.val.injEq, D.int.injEq, D.bl.injEq, D.str.injEq, D.tup.injEq, D.lst.injEq, exists_eq_left', exists_eq_left, exists_and_left, ex_eq, true_and, and_true, List.cons.injEq]
    rw [if_pos (show isN D.non = true from rfl), if_pos trivial]
    exact q
  | some p =>
    obtain ⟨t, r⟩ := p
    rw [e] at q
    have q : if r ≠ [] ∨ 40 < t.size then Q (.str "parse None") else if (arF t.nodes []).isSome = true then Q (trD t) else Q (.str "term") := q
    unfold RdOk
    simp only [fnS, Pu.startB, sSeq, sAsg, sIf, sRet, sNext, sNew, sApp, sPar, sDem, demB, fVar, fVarT, fC, fOp, fTst, fAnd, fOr, fNot, fNew, fLst, fTup, fNil, fCons, fSl, oAt, oNo, fCB, fCall, fIf, fChain, fRng1, fIt, fJoin, RLen, RI0, RAdd, RIx, RSl, RIsN, RTuple, RIn, gN, bD, List.map_cons, List.map_nil, List.cons_append, List.nil_append, List.length_cons, List.length_nil, List.replicate, Nat.reduceSub, Nat.reduceAdd, List.getElem?_cons_zero, List.getElem?_cons_succ, List.set_cons_zero, List.set_cons_succ, Option.some.injEq, B.val.injEq, D.int.injEq, D.bl.injEq, D.str.injEq, D.tup.injEq, D.lst.injEq, exists_eq_left', exists_eq_left, exists_and_left, ex_eq, true_and, and_true, List.cons.injEq, lenD_str hs, at0, at1]
    obtain ⟨hl, hg⟩ := rd_sound 60 _ _ _ e
    have hlen : z.length = t.tx.length + r.length := by rw [len_lab, hl, List.length_append]
    have hsz : t.size ≤ 1000 := by have := size_tx t (labAll t hg); omega
    have hht : t.ht < 61 := by
      have h1 := ht_tx t
      rw [hl, cnt_app] at hc
      omega
    rw [if_neg (fun h => by cases h)]
    by_cases hr : ¬ r = []
    · have : 0 < r.length := List.length_pos_iff.mpr hr
      rw [decide_eq_true (by omega), if_pos rfl, if_pos trivial]
      rw [if_pos (Or.inl hr)] at q
      exact q
    have hr := Classical.not_not.mp hr
    subst hr
    rw [decide_eq_false (by simp), if_neg (by simp)]
    refine nodes 61 t _ _ hht (by omega) ?_
    refine ⟨t.size, by show some (List.map ndDD t.nodes).length = _; rw [List.length_map]; rfl, ?_⟩
    by_cases h40 : 40 < t.size
    · rw [decide_eq_true (by omega), if_pos rfl]
      rw [if_pos (Or.inr h40)] at q
      exact q
    rw [decide_eq_false (by omega), if_neg (by simp)]
    rw [if_neg (fun h => Or.elim h (fun h => absurd rfl h) h40)] at q
    simp only [fnS, Pu.startB, sSeq, sAsg, sIf, sRet, sNext, sNew, sApp, sPar, sDem, demB, fVar, fVarT, fC, fOp, fTst, fAnd, fOr, fNot, fNew, fLst, fTup, fNil, fCons, fSl, oAt, oNo, fCB, fCall, fIf, fChain, fRng1, fIt, fJoin, RLen, RI0, RAdd, RIx, RSl, RIsN, RTuple, RIn, gN, bD, List.map_cons, List.map_nil, List.cons_append, List.nil_append, List.length_cons, List.length_nil, List.replicate, Nat.reduceSub, Nat.reduceAdd, List.getElem?_cons_zero, List.getElem?_cons_succ, List.set_cons_zero, List.set_cons_succ, Option.some.injEq, B.val.injEq, D.int.injEq, D.bl.injEq, D.str.injEq, D.tup.injEq, D.lst.injEq, exists_eq_left', exists_eq_left, exists_and_left, ex_eq, true_and, and_true, List.cons.injEq, fLc, itD, at0, wipeB]
    refine nodes 61 t _ _ hht (by omega) ?_
    simp only [fnS, Pu.startB, sSeq, sAsg, sIf, sRet, sNext, sNew, sApp, sPar, sDem, demB, fVar, fVarT, fC, fOp, fTst, fAnd, fOr, fNot, fNew, fLst, fTup, fNil, fCons, fSl, oAt, oNo, fCB, fCall, fIf, fChain, fRng1, fIt, fJoin, RLen, RI0, RAdd, RIx, RSl, RIsN, RTuple, RIn, gN, bD, List.map_cons, List.map_nil, List.cons_append, List.nil_append, List.length_cons, List.length_nil, List.replicate, Nat.reduceSub, Nat.reduceAdd, List.getElem?_cons_zero, List.getElem?_cons_succ, List.set_cons_zero, List.set_cons_succ, Option.some.injEq, B.val.injEq, D.int.injEq, D.bl.injEq, D.str.injEq, D.tup.injEq, D.lst.injEq, exists_eq_left', exists_eq_left, exists_and_left, ex_eq, true_and, and_true, List.cons.injEq, itD]
    refine ⟨by rw [List.length_map, sizeLine_eq]; show t.size ≤ _; omega, ?_⟩
    refine lc_fil (f := ndDD) (p := plainW) t.nodes (fun n hn R r => ?_) (fun n hn _ R r => ?_) ?_
    · simp only [fnS, Pu.startB, sSeq, sAsg, sIf, sRet, sNext, sNew, sApp, sPar, sDem, demB, fVar, fVarT, fC, fOp, fTst, fAnd, fOr, fNot, fNew, fLst, fTup, fNil, fCons, fSl, oAt, oNo, fCB, fCall, fIf, fChain, fRng1, fIt, fJoin, RLen, RI0, RAdd, RIx, RSl, RIsN, RTuple, RIn, gN, bD, List.map_cons, List.map_nil, List.cons_append, List.nil_append, List.length_cons, List.length_nil, List.replicate, Nat.reduceSub, Nat.reduceAdd, List.getElem?_cons_zero, List.getElem?_cons_succ, List.set_cons_zero, List.set_cons_succ, Option.some.injEq, B.val.injEq, D.int.injEq, D.bl.injEq, D.str.injEq, D.tup.injEq, D.lst.injEq, exists_eq_left', exists_eq_left, exists_and_left, ex_eq, true_and, and_true, List.cons.injEq, at0, ndDD]
      refine ⟨by decide, .inl ⟨rfl, rfl, ?_⟩⟩
      rw [any_leaf, show (true != isLeaf n.1) = plainW n by unfold plainW; cases isLeaf n.1 <;> rfl]
      exact r
    · simp only [fnS, Pu.startB, sSeq, sAsg, sIf, sRet, sNext, sNew, sApp, sPar, sDem, demB, fVar, fVarT, fC, fOp, fTst, fAnd, fOr, fNot, fNew, fLst, fTup, fNil, fCons, fSl, oAt, oNo, fCB, fCall, fIf, fChain, fRng1, fIt, fJoin, RLen, RI0, RAdd, RIx, RSl, RIsN, RTuple, RIn, gN, bD, List.map_cons, List.map_nil, List.cons_append, List.nil_append, List.length_cons, List.length_nil, List.replicate, Nat.reduceSub, Nat.reduceAdd, List.getElem?_cons_zero, List.getElem?_cons_succ, List.set_cons_zero, List.set_cons_succ, Option.some.injEq, B.val.injEq, D.int.injEq, D.bl.injEq, D.str.injEq, D.tup.injEq, D.lst.injEq, exists_eq_left', exists_eq_left, exists_and_left, ex_eq, true_and, and_true, List.cons.injEq]
      exact r
    simp only [fnS, Pu.startB, sSeq, sAsg, sIf, sRet, sNext, sNew, sApp, sPar, sDem, demB, fVar, fVarT, fC, fOp, fTst, fAnd, fOr, fNot, fNew, fLst, fTup, fNil, fCons, fSl, oAt, oNo, fCB, fCall, fIf, fChain, fRng1, fIt, fJoin, RLen, RI0, RAdd, RIx, RSl, RIsN, RTuple, RIn, gN, bD, List.map_cons, List.map_nil, List.cons_append, List.nil_append, List.length_cons, List.length_nil, List.replicate, Nat.reduceSub, Nat.reduceAdd, List.getElem?_cons_zero, List.getElem?_cons_succ, List.set_cons_zero, List.set_cons_succ, Option.some.injEq, B.val.injEq, D.int.injEq, D.bl.injEq, D.str.injEq, D.tup.injEq, D.lst.injEq, exists_eq_left', exists_eq_left, exists_and_left, ex_eq, true_and, and_true, List.cons.injEq, fDic, fCBD]
    refine ⟨(t.nodes.filter plainW).map (fun n => (D.str n.1, D.int (n.2 : Int))), _, by rw [List.map_map]; rfl, keys_nds _, ?_⟩
    simp only [fnS, Pu.startB, sSeq, sAsg, sIf, sRet, sNext, sNew, sApp, sPar, sDem, demB, fVar, fVarT, fC, fOp, fTst, fAnd, fOr, fNot, fNew, fLst, fTup, fNil, fCons, fSl, oAt, oNo, fCB, fCall, fIf, fChain, fRng1, fIt, fJoin, RLen, RI0, RAdd, RIx, RSl, RIsN, RTuple, RIn, gN, bD, List.map_cons, List.map_nil, List.cons_append, List.nil_append, List.length_cons, List.length_nil, List.replicate, Nat.reduceSub, Nat.reduceAdd, List.getElem?_cons_zero, List.getElem?_cons_succ, List.set_cons_zero, List.set_cons_succ, Option.some.injEq, B.val.injEq, D.int.injEq, D.bl.injEq, D.str.injEq, D.tup.injEq, D.lst.injEq, exists_eq_left', exists_eq_left, exists_and_left, ex_eq, true_and, and_true, List.cons.injEq, fLc, fIt, itD, wipeB]
    have hfl := List.length_filter_le plainW t.nodes
    have hfs : t.nodes.length = t.size := rfl
    refine ⟨by rw [List.length_map, sizeLine_eq]; omega, ?_⟩
    refine lc_fil (f := ndDD) (p := fun n => decide ((t.nodes.filter plainW).reverse.lookup n.1 ≠ some n.2)) (t.nodes.filter plainW) (fun n hn R r => ?_) (fun n hn _ R r => ?_) ?_
    · simp only [fnS, Pu.startB, sSeq, sAsg, sIf, sRet, sNext, sNew, sApp, sPar, sDem, demB, fVar, fVarT, fC, fOp, fTst, fAnd, fOr, fNot, fNew, fLst, fTup, fNil, fCons, fSl, oAt, oNo, fCB, fCall, fIf, fChain, fRng1, fIt, fJoin, RLen, RI0, RAdd, RIx, RSl, RIsN, RTuple, RIn, gN, bD, List.map_cons, List.map_nil, List.cons_append, List.nil_append, List.length_cons, List.length_nil, List.replicate, Nat.reduceSub, Nat.reduceAdd, List.getElem?_cons_zero, List.getElem?_cons_succ, List.set_cons_zero, List.set_cons_succ, Option.some.injEq, B.val.injEq, D.int.injEq, D.bl.injEq, D.str.injEq, D.tup.injEq, D.lst.injEq, exists_eq_left', exists_eq_left, exists_and_left, ex_eq, true_and, and_true, List.cons.injEq, at0, at1, ndDD, fGet]
      obtain ⟨a, ha⟩ : ∃ a, (t.nodes.filter plainW).reverse.lookup n.1 = some a := by
        cases c : (t.nodes.filter plainW).reverse.lookup n.1 with
        | some a => exact ⟨a, rfl⟩
        | none =>
          rw [List.lookup_eq_none_iff] at c
          have := c n (List.mem_reverse.mpr hn)
          rw [show (n.1 != n.1) = false by simp] at this
          cases this
      refine ⟨_, _, rfl, _, rfl, .int (a : Int), ?_, ?_⟩
      · rw [val_merge n.1 _ _ _ rfl, ha]
      rw [ha] at r
      refine ⟨_, rfl, ?_⟩
      exact (show (!decide ((a : Int) = (n.2 : Int))) = decide (some a ≠ some n.2) by rw [Bool.eq_iff_iff]; simp; omega) ▸ r
    · simp only [fnS, Pu.startB, sSeq, sAsg, sIf, sRet, sNext, sNew, sApp, sPar, sDem, demB, fVar, fVarT, fC, fOp, fTst, fAnd, fOr, fNot, fNew, fLst, fTup, fNil, fCons, fSl, oAt, oNo, fCB, fCall, fIf, fChain, fRng1, fIt, fJoin, RLen, RI0, RAdd, RIx, RSl, RIsN, RTuple, RIn, gN, bD, List.map_cons, List.map_nil, List.cons_append, List.nil_append, List.length_cons, List.length_nil, List.replicate, Nat.reduceSub, Nat.reduceAdd, List.getElem?_cons_zero, List.getElem?_cons_succ, List.set_cons_zero, List.set_cons_succ, Option.some.injEq, B.val.injEq, D.int.injEq, D.bl.injEq, D.str.injEq, D.tup.injEq, D.lst.injEq, exists_eq_left', exists_eq_left, exists_and_left, ex_eq, true_and, and_true, List.cons.injEq]
      exact r
    refine ⟨Nat.zero_le _, eq_lnil (fun n hn => goodLab hg n (List.mem_filter.mp (List.mem_filter.mp hn).1).1) ⟨_, rfl, ?_⟩⟩
    have key := twice_iff hg
    by_cases c : (arF t.nodes []).isSome = true
    · rw [if_pos c] at q
      rw [if_pos]
      · exact q
      · rw [List.isEmpty_iff, List.filter_eq_nil_iff]
        intro n hn
        rw [key.mpr c n hn]
        simp
    · rw [if_neg c] at q
      rw [if_neg]
      · exact q
      · rw [List.isEmpty_iff, List.filter_eq_nil_iff]
        intro h
        refine c (key.mp fun n hn => ?_)
        have := h n hn
        simpa using this
end
end K6

set_option Elab.async false
set_option maxRecDepth 100000
set_option maxHeartbeats 1000000
set_option linter.all false
namespace K6
open PySem PySem.Spec PyProof.Rows L2 Ly Pu TM
section
variable {P : Program} {w : World} {K : PySem.W.Frag} {mg : Str → Option Value} {base : Heap} {CR : Addr}
theorem pe_mM {X : Cx} {CX : CXT} {C : Addr} {m : Str} {k : Nat} {ps : List Str} {sp : Sp} {E : XK} {o e : Expr} {es : List Expr} {ta : TE} {t : TA} {apos pos : Pos} {pl : Sem Bool} (M : CalM X.prog X.w X.K X.mg X.base CX C m k ps sp) (hr : Room k X.A) (c : Cls X.K C) (hx : Passes CX X E) (he : PE X o ta) (ha : PA X (e :: es) t)
    (hst : starEach (e :: es) X.env = (false, eval e X.env) :: starEach es X.env := by rfl) (hpl : (backTo pos (starEach es X.env)).any (·.1) = false := by rfl)
    (ht : eval (.Call (.Attribute o m apos) (e :: es) [] pos) X.env = (do
      let ov ← eval o X.env
      standAt apos.atName
      let (f, first) ← holding [ov] (getMethod ov m pl)
      callWith pos f first (backTo pos (starEach (e :: es) X.env)) (backToKw pos (keywordEach [] X.env))) := by rfl) :
    PE X (.Call (.Attribute o m apos) (e :: es) [] pos) (tMeth C m sp [] E ta t) := by
  obtain ⟨f, fd, hm, _, F, hb⟩ := M.ex
  exact pe_meth he c hm F hr hb .nil hx ha hst hpl ht
abbrev s_Reader_init : Stmt := inClass (top 28) 0
abbrev nm_Reader_init : List Str := ["self"]
abbrev ps_Reader_init : List Str := ["self"]
theorem sc_Reader_init : FnScope nm_Reader_init ps_Reader_init (defScope s_Reader_init) := ⟨rfl, rfl, rfl, by decide +kernel, rfl, by decide +kernel, by decide +kernel⟩
abbrev s_Reader_take_word : Stmt := inClass (top 28) 2
abbrev nm_Reader_take_word : List Str := ["self", "word"]
abbrev ps_Reader_take_word : List Str := ["self", "word"]
theorem sc_Reader_take_word : FnScope nm_Reader_take_word ps_Reader_take_word (defScope s_Reader_take_word) := ⟨rfl, rfl, rfl, by decide +kernel, rfl, by decide +kernel, by decide +kernel⟩
/-- the cells of a reader -/
def fsR (n o : Addr) (b : Bool) (z : Str) : List (Str × V) := [("of_nodes", .ref n), ("of_open", .ref o), ("of_wants", .bl b), ("of_last", .str z)]
structure RdK (K : PySem.W.Frag) (CR : Addr) : Prop where
  cl : Cls K CR
  n1 : NoAttr K CR "of_nodes"
  n2 : NoAttr K CR "of_open"
  n3 : NoAttr K CR "of_wants"
  n4 : NoAttr K CR "of_last"
def Keep (As : List Addr) (H H' : Hp) : Prop := ∀ p, p ∉ As → ∀ x, H p = some x → H' p = some x
def spRdInit (CR : Addr) : Sp := fun vs H Q _ => ∃ a dx, vs = [.ref a] ∧ H a = some (.ins CR dx []) ∧ ∀ n o H', Keep [a] H H' → H n = none → H o = none → n ≠ o → H' n = some (.lst []) → H' o = some (.lst []) → H' a = some (.ins CR dx (fsR n o true "")) → Q .non H'
theorem ok_Reader_init {f : Addr} {fd : FuncData} (F : Fun K "__init__" "Reader.__init__" s_Reader_init f fd) (RC : RdK K CR) : FnOk P w K mg base CX0 1 f fd ps_Reader_init (spRdInit CR) := by
  refine F.ok sc_Reader_init (fun vs H Q E h => ?_) (fun cdv A outer s H vs Q E hr h => ?_)
  · obtain ⟨_, _, rfl, _⟩ := h
    rfl
  · obtain ⟨a, dx, rfl, ha, k⟩ := h
    refine ⟨_, (pss_cons (kps_fld (K := K) (pv 0) (pe_lst pa_nil) rfl)
      (pss_cons (kps_fld (K := K) (pv 0) (pe_lst pa_nil) rfl)
      (pss_cons (kps_fld (K := K) (pv 0) pe_bl rfl)
      (pss_one (kps_fld (K := K) (pv 0) pe_str rfl))))), ?_⟩
    refine ⟨Nat.zero_le _, fun n hn => ⟨_, rfl, a, _, _, _, rfl, (upd_ne (by rintro rfl; rw [hn] at ha; cases ha)).trans ha, RC.cl, RC.n1, by decide, ?_⟩⟩
    have na : n ≠ a := by rintro rfl; rw [hn] at ha; cases ha
    refine ⟨Nat.zero_le _, fun o ho => ?_⟩
    have oa : o ≠ a := by rintro rfl; rw [upd_same] at ho; cases ho
    have on : o ≠ n := by rintro rfl; rw [upd_ne na, upd_same] at ho; cases ho
    have ho : H o = none := by rw [upd_ne oa, upd_ne on] at ho; exact ho
    refine ⟨_, rfl, a, _, _, _, rfl, (upd_ne (fun z => oa z.symm)).trans upd_same, RC.cl, RC.n2, (show 1 < 1000 by decide), ?_⟩
    refine ⟨_, rfl, a, _, _, _, rfl, upd_same, RC.cl, RC.n3, (show 2 < 1000 by decide), ?_⟩
    refine ⟨_, rfl, a, _, _, _, rfl, upd_same, RC.cl, RC.n4, (show 3 < 1000 by decide), ?_⟩
    refine k n o _ (fun p hp x hx => ?_) hn ho (fun z => on z.symm) ?_ ?_ upd_same
    · have pa : p ≠ a := fun z => hp (z ▸ List.mem_singleton.mpr rfl)
      have pn : p ≠ n := by rintro rfl; rw [hn] at hx; cases hx
      have po : p ≠ o := by rintro rfl; rw [ho] at hx; cases hx
      rw [upd_ne pa, upd_ne pa, upd_ne pa, upd_ne po, upd_ne pa, upd_ne pn]
      exact hx
    · rw [upd_ne na, upd_ne na, upd_ne na, upd_ne (fun z => on z.symm), upd_ne na, upd_same]
    · rw [upd_ne oa, upd_ne oa, upd_ne oa, upd_same]
/-- what the cells hold -/
structure RdAt (H : Hp) (CR a dx n o : Addr) (s : RS) (xs : List V) : Prop where
  ia : H a = some (.ins CR dx (fsR n o s.wants s.last))
  il : H n = some (.lst xs)
  io : H o = some (.lst (s.opn.map fun (i : Nat) => V.int (i : Int)))
  ne : n ≠ o
def spTakeWord (CR : Addr) : Sp := fun vs H Q _ => ∃ a dx n o s xs z, vs = [.ref a, .str z] ∧ RdAt H CR a dx n o s xs ∧ xs.length < 100000 ∧ (s.wants = false → Q (.bl false) H) ∧
  (s.wants = true → ∀ p H', Keep [a, n] H H' → H p = none → H' p = some (.tup [.str z, .int 0]) → RdAt H' CR a dx n o ⟨s.nodes, s.opn, false, s.last⟩ (xs ++ [.ref p]) → Q (.bl true) H')
theorem ok_take_word {f : Addr} {fd : FuncData} (F : Fun K "take_word" "Reader.take_word" s_Reader_take_word f fd) (RC : RdK K CR) : FnOk P w K mg base CX0 1 f fd ps_Reader_take_word (spTakeWord CR) := by
  have nd := sc_Reader_take_word.nd
  refine F.ok sc_Reader_take_word (fun vs H Q E h => ?_) (fun cdv A outer s H vs Q E hr h => ?_)
  · obtain ⟨_, _, _, _, _, _, _, rfl, _⟩ := h
    rfl
  · obtain ⟨a, dx, n, o, s, xs, z, rfl, R, hx, k1, k2⟩ := h
    refine ⟨_, (pss_cons (ps_if (pt_not (pt_val (kpe_fld (K := K) (pv 0) rfl))) (pss_one (ps_ret pe_bl)) pss_nil)
      (pss_cons (ps_expr (kpe_bm (K := K) PySem.F.plainAttrs_list PySem.F.slot_list_append PySem.F.type_list_append mt_append (kpe_fld (K := K) (pv 0) rfl) (pa_cons (pe_tup (pa_cons (pv 1) (pa_cons pe_int pa_nil))) pa_nil)))
      (pss_cons (kps_fld (K := K) (pv 0) pe_bl rfl)
      (pss_one (ps_ret pe_bl))))), ?_⟩
    refine ⟨_, rfl, a, _, _, _, _, rfl, R.ia, RC.cl, RC.n3, rfl, s.wants, rfl, ?_⟩
    by_cases hw : s.wants = false
    · show if (!s.wants) = true then _ else _
      rw [if_pos (by rw [hw]; rfl)]
      exact k1 hw
    have hw : s.wants = true := by cases c : s.wants with
      | true => rfl
      | false => exact absurd c hw
    show if (!s.wants) = true then _ else _
    rw [if_neg (by rw [hw]; simp)]
    refine ⟨_, rfl, a, _, _, _, _, rfl, R.ia, RC.cl, RC.n1, rfl, .inl ⟨rfl, xs, SqL.of R.il⟩, ?_⟩
    refine ⟨_, rfl, (show 2 ≤ sizeLine by decide), fun p hp => ?_⟩
    have pn : p ≠ n := by rintro rfl; rw [R.il] at hp; cases hp
    have pa : p ≠ a := by rintro rfl; rw [R.ia] at hp; cases hp
    have na : n ≠ a := by rintro rfl; have := R.il.symm.trans R.ia; cases this
    refine ⟨n, xs, _, rfl, rfl, (upd_ne (fun z => pn z.symm)).trans R.il, by rw [sizeLine_eq]; omega, ?_⟩
    refine ⟨_, rfl, a, _, _, _, rfl, (upd_ne (fun z => na z.symm)).trans ((upd_ne (fun z => pa z.symm)).trans R.ia), RC.cl, RC.n3, (show 4 < 1000 by decide), ?_⟩
    have oa : o ≠ a := by rintro rfl; have := R.io.symm.trans R.ia; cases this
    have po : p ≠ o := by rintro rfl; rw [R.io] at hp; cases hp
    refine k2 hw p _ (fun q hq x hx => ?_) hp ?_ ⟨upd_same, ?_, ?_, R.ne⟩
    · have qa : q ≠ a := fun z => hq (z ▸ List.mem_cons_self ..)
      have qn : q ≠ n := fun z => hq (z ▸ List.mem_cons_of_mem _ (List.mem_singleton.mpr rfl))
      have qp : q ≠ p := by rintro rfl; rw [hp] at hx; cases hx
      rw [upd_ne qa, upd_ne qn, upd_ne qp]
      exact hx
    · rw [upd_ne pa, upd_ne pn, upd_same]
    · rw [upd_ne na, upd_same]
    · rw [upd_ne oa, upd_ne (fun z => R.ne z.symm), upd_ne (fun z => po z.symm)]
      exact R.io
/-- a later heap, whose reader cells hold s -/
structure RdSt (H0 H : Hp) (CR a dx n o : Addr) (s : RS) (xs : List V) : Prop where
  kp : Keep [a, n, o] H0 H
  at_ : RdAt H CR a dx n o s xs
  row : RowL H xs s.nodes
theorem row_upd {H : Hp} {xs : List V} {nds : List Nd} {c : Addr} {x y : HO} (h : RowL H xs nds) (hc : H c = some y ∨ H c = none) (hy : ∀ vs, y ≠ .tup vs) : RowL (upd H c x) xs nds :=
  ⟨h.1, fun i m q => by
    obtain ⟨p, h1, h2⟩ := h.2 i m q
    refine ⟨p, h1, ?_⟩
    rw [upd_ne]
    · exact h2
    · rintro rfl
      rcases hc with hc | hc
      · rw [h2] at hc
        cases hc
        exact hy _ rfl
      · rw [h2] at hc
        cases hc⟩
section
variable {H0 H : Hp} {a dx n o : Addr} {s : RS} {xs : List V}
theorem RdSt.alloc (h : RdSt H0 H CR a dx n o s xs) {p : Addr} {x : HO} (hp : H p = none) : RdSt H0 (upd H p x) CR a dx n o s xs := by
  have pn : n ≠ p := by rintro rfl; rw [h.at_.il] at hp; cases hp
  have pa : a ≠ p := by rintro rfl; rw [h.at_.ia] at hp; cases hp
  have po : o ≠ p := by rintro rfl; rw [h.at_.io] at hp; cases hp
  refine ⟨fun q hq y hy => ?_, ⟨?_, ?_, ?_, h.at_.ne⟩, row_upd (y := .lst []) h.row (.inr hp) (fun _ z => by cases z)⟩
  · have := h.kp q hq y hy
    rw [upd_ne (by rintro rfl; rw [hp] at this; cases this)]
    exact this
  · rw [upd_ne pa]; exact h.at_.ia
  · rw [upd_ne pn]; exact h.at_.il
  · rw [upd_ne po]; exact h.at_.io
theorem RdSt.na (h : RdSt H0 H CR a dx n o s xs) : n ≠ a ∧ o ≠ a := by
  refine ⟨?_, ?_⟩
  · rintro rfl
    have := h.at_.il.symm.trans h.at_.ia
    cases this
  · rintro rfl
    have := h.at_.io.symm.trans h.at_.ia
    cases this
theorem RdSt.setA (h : RdSt H0 H CR a dx n o s xs) (b : Bool) (z : Str) : RdSt H0 (upd H a (.ins CR dx (fsR n o b z))) CR a dx n o ⟨s.nodes, s.opn, b, z⟩ xs := by
  obtain ⟨na, oa⟩ := h.na
  refine ⟨fun q hq y hy => ?_, ⟨upd_same, ?_, ?_, h.at_.ne⟩, row_upd h.row (.inl h.at_.ia) (fun _ z => by cases z)⟩
  · rw [upd_ne (fun z : q = a => hq (by rw [z]; simp))]
    exact h.kp q hq y hy
  · rw [upd_ne na]; exact h.at_.il
  · rw [upd_ne oa]; exact h.at_.io
theorem RdSt.setO (h : RdSt H0 H CR a dx n o s xs) (l : List Nat) : RdSt H0 (upd H o (.lst (l.map fun (i : Nat) => V.int (i : Int)))) CR a dx n o ⟨s.nodes, l, s.wants, s.last⟩ xs := by
  obtain ⟨na, oa⟩ := h.na
  refine ⟨fun q hq y hy => ?_, ⟨?_, ?_, upd_same, h.at_.ne⟩, row_upd h.row (.inl h.at_.io) (fun _ z => by cases z)⟩
  · rw [upd_ne (fun z : q = o => hq (by rw [z]; simp))]
    exact h.kp q hq y hy
  · rw [upd_ne (fun z => oa z.symm)]; exact h.at_.ia
  · rw [upd_ne h.at_.ne]; exact h.at_.il
theorem RdSt.setN (h : RdSt H0 H CR a dx n o s xs) {j : Nat} {p : Addr} {m : Nd} (hp : H p = some (.tup [.str m.1, .int (m.2 : Int)])) : RdSt H0 (upd H n (.lst (xs.set j (.ref p)))) CR a dx n o ⟨s.nodes.set j m, s.opn, s.wants, s.last⟩ (xs.set j (.ref p)) := by
  obtain ⟨na, oa⟩ := h.na
  refine ⟨fun q hq y hy => ?_, ⟨?_, upd_same, ?_, h.at_.ne⟩, row_upd (y := .lst xs) ⟨?_, fun i k hk => ?_⟩ (.inl h.at_.il) (fun _ z => by cases z)⟩
  · rw [upd_ne (fun z : q = n => hq (by rw [z]; simp))]
    exact h.kp q hq y hy
  · rw [upd_ne (fun z => na z.symm)]; exact h.at_.ia
  · rw [upd_ne (fun z => h.at_.ne z.symm)]; exact h.at_.io
  · rw [List.length_set, List.length_set]; exact h.row.1
  · have hk : (s.nodes.set j m)[i]? = some k := hk
    by_cases e : j = i
    · subst e
      have hl : j < s.nodes.length := by
        have := (List.getElem?_eq_some_iff.mp hk).1
        rw [List.length_set] at this
        exact this
      rw [List.getElem?_set_self hl] at hk
      cases hk
      exact ⟨p, by rw [List.getElem?_set_self (by rw [h.row.1]; exact hl)], hp⟩
    · rw [List.getElem?_set_ne e] at hk
      obtain ⟨p', h1, h2⟩ := h.row.2 i k hk
      exact ⟨p', by rw [List.getElem?_set_ne e]; exact h1, h2⟩
end
theorem row_keep {H H' : Hp} {As : List Addr} {xs : List V} {nds : List Nd} (h : RowL H xs nds) (k : Keep As H H') (ha : ∀ c ∈ As, ∀ vs, H c ≠ some (.tup vs)) : RowL H' xs nds :=
  ⟨h.1, fun i m q => by
    obtain ⟨p, h1, h2⟩ := h.2 i m q
    exact ⟨p, h1, k p (fun z => ha p z _ h2) _ h2⟩⟩
theorem row_app {H : Hp} {xs : List V} {nds : List Nd} (h : RowL H xs nds) {p : Addr} {m : Nd} (hp : H p = some (.tup [.str m.1, .int (m.2 : Int)])) : RowL H (xs ++ [.ref p]) (nds ++ [m]) := by
  refine ⟨by rw [List.length_append, List.length_append, h.1]; rfl, fun i k hk => ?_⟩
  by_cases e : i < nds.length
  · rw [List.getElem?_append_left e] at hk
    obtain ⟨p', h1, h2⟩ := h.2 i k hk
    exact ⟨p', by rw [List.getElem?_append_left (by rw [h.1]; exact e)]; exact h1, h2⟩
  · rw [List.getElem?_append_right (by omega)] at hk
    have e2 : i = nds.length := by
      have := (List.getElem?_eq_some_iff.mp hk).1
      rw [List.length_singleton] at this
      omega
    subst e2
    rw [Nat.sub_self] at hk
    cases hk
    refine ⟨p, ?_, hp⟩
    rw [List.getElem?_append_right (by rw [h.1]; exact Nat.le_refl _), h.1, Nat.sub_self]
    rfl
end
end K6

set_option Elab.async false
set_option maxRecDepth 100000
set_option maxHeartbeats 1000000
set_option linter.all false
namespace K6
open PySem PySem.Spec PyProof.Rows L2 Ly Pu TM
theorem q40 : mkS [40] = ("(" : Str) := by decide +kernel
theorem q41 : mkS [41] = (")" : Str) := by decide +kernel
theorem q44 : mkS [44, 32] = (", " : Str) := by decide +kernel
theorem inV_sign (z : Str) : inV (.str z) [.str "(", .str ")", .str ", "] = isSign z := by
  unfold isSign
  rw [q40, q41, q44, Bool.eq_iff_iff, decide_eq_true_iff]
  unfold inV
  simp only [List.any_cons, List.any_nil, eqV, Bool.or_false, Bool.or_eq_true, beq_iff_eq]
  constructor
  · rintro (h | h | h)
    · exact .inl h.symm
    · exact .inr (.inl h.symm)
    · exact .inr (.inr h.symm)
  · rintro (h | h | h)
    · exact .inl h.symm
    · exact .inr (.inl h.symm)
    · exact .inr (.inr h.symm)
theorem inV_sign2 (z : Str) : inV (.str z) [.str ")", .str "(", .str ", "] = isSign z := by
  rw [← inV_sign]
  unfold inV
  simp only [List.any_cons, List.any_nil, Bool.or_false]
  rw [← Bool.or_assoc, ← Bool.or_assoc, Bool.or_comm (eqV (.str ")") (.str z))]
section
variable {K : PySem.W.Frag} {CR : Addr} {H0 H : Hp} {a dx n o : Addr} {s : RS} {xs : List V} {σ : L2.St}
theorem rf {f : Str} {v : V} {Q : VK} (RC : RdK K CR) (h0 : σ[0]? = some (some (.ref a))) (S : RdAt H CR a dx n o s xs) (hn : NoAttr K CR f) (hl : (fsR n o s.wants s.last).lookup f = some v) (q : Q v H) : tFld K (tVar 0) f σ H Q :=
  ⟨_, h0, a, _, _, _, _, rfl, S.ia, RC.cl, hn, hl, q⟩
theorem kp_o (S : RdSt H0 H CR a dx n o s xs) (x : HO) : Keep [a, n, o] H0 (upd H o x) := fun q hq y hy => by
  rw [upd_ne (fun z : q = o => hq (by rw [z]; simp))]
  exact S.kp q hq y hy
theorem kp_a {H' : Hp} (k : Keep [a, n, o] H0 H') (x : HO) : Keep [a, n, o] H0 (upd H' a x) := fun q hq y hy => by
  rw [upd_ne (fun z : q = a => hq (by rw [z]; simp))]
  exact k q hq y hy
theorem tk_open (RC : RdK K CR) {D : Ends} {b : Bool} (h0 : σ[0]? = some (some (.ref a))) (h3 : σ[3]? = some (some (.bl b))) (S : RdSt H0 H CR a dx n o s xs) (hx : xs.length < 100000) (hol : s.opn.length < 100000)
    (k : ∀ H', Keep [a, n, o] H0 H' → (0 < s.nodes.length → RdSt H0 H' CR a dx n o ⟨s.nodes, s.opn ++ [s.nodes.length - 1], true, s.last⟩ xs) → D.rt (.bl b) H') :
    tSeq (tDrop (tBM K "list" rAppend (tFld K (tVar 0) "of_open") (tCons (tOp (rI0 fun i j => V.int (i - j)) (tCB (rLenK K) (tCons (tFld K (tVar 0) "of_nodes") tNil)) (tC (V.int 1))) tNil)))
      (tSeq (sFld K (tVar 0) (tC (V.bl true)) "of_wants") (tRet (tVar 3))) D σ H := by
  refine ⟨_, h0, a, _, _, _, _, rfl, S.at_.ia, RC.cl, RC.n2, rfl, ?_⟩
  refine ⟨.inl ⟨rfl, _, SqL.of S.at_.io⟩, ?_⟩
  refine ⟨_, h0, a, _, _, _, _, rfl, S.at_.ia, RC.cl, RC.n1, rfl, ?_⟩
  refine ⟨n, xs, rfl, .inl (SqL.of S.at_.il), ?_⟩
  refine ⟨_, _, rfl, rfl, ?_⟩
  refine ⟨o, _, _, rfl, rfl, S.at_.io, by rw [List.length_map, sizeLine_eq]; omega, ?_⟩
  refine ⟨_, h0, a, _, _, _, rfl, (upd_ne (fun z => S.na.2 z.symm)).trans S.at_.ia, RC.cl, RC.n3, (show 4 < 1000 by decide), ?_⟩
  refine ⟨_, h3, k _ (kp_a (kp_o S _) _) fun hp => ?_⟩
  have e : (s.opn.map fun (i : Nat) => V.int (i : Int)) ++ [V.int ((xs.length : Int) - 1)] = (s.opn ++ [s.nodes.length - 1]).map fun (i : Nat) => V.int (i : Int) := by
    rw [List.map_append, S.row.1]
    show _ ++ [V.int _] = _ ++ [V.int _]
    rw [show ((s.nodes.length : Int) - 1) = ((s.nodes.length - 1 : Nat) : Int) by omega]
  rw [e]
  exact (S.setO (s.opn ++ [s.nodes.length - 1])).setA true s.last
theorem RdSt.gx (h : RdSt H0 H CR a dx n o s xs) {H' : Hp} (e : Gx H H') : RdSt H0 H' CR a dx n o s xs :=
  ⟨fun q hq y hy => e _ _ (h.kp q hq y hy), ⟨e _ _ h.at_.ia, e _ _ h.at_.il, e _ _ h.at_.io, h.at_.ne⟩, h.row.gx e⟩
theorem free_upd {H : Hp} {a q : Addr} {x : HO} (h : upd H a x q = none) : H q = none := by
  by_cases e : q = a
  · subst e
    rw [upd_same] at h
    cases h
  · rw [upd_ne e] at h
    exact h
theorem dec_str (z y : Str) : decide (V.str z = V.str y) = decide (z = y) := by
  by_cases h : z = y
  · subst h; simp
  · simp [h]
theorem at_nat {α : Type} {l : List α} {i : Nat} {x : α} (h : l[i]? = some x) : atI l (i : Int) = some x := by
  have hi := (List.getElem?_eq_some_iff.mp h).1
  unfold atI ixN
  rw [if_pos (by omega), if_pos (by omega)]
  exact h
theorem ix_nat {m i : Nat} (h : i < m) : ixN m (i : Int) = some i := by
  unfold ixN
  rw [if_pos (by omega), if_pos (by omega)]
  rfl
theorem tk_rest (RC : RdK K CR) {D : Ends} {z : Str} {i : Nat} (h0 : σ[0]? = some (some (.ref a))) (h1 : σ[1]? = some (some (.str z))) (h4 : σ[4]? = some (some (.int (i : Int)))) (S : RdSt H0 H CR a dx n o s xs) (hi : i < s.nodes.length)
    (k : ∀ H' xs', RdSt H0 H' CR a dx n o ⟨TM.bump s.nodes i, s.opn, decide (z = ", "), s.last⟩ xs' → (∀ p, V.ref p ∈ xs' → V.ref p ∈ xs ∨ H p = none) → D.rt (.bl true) H') :
    tSeq (tAsg (tTup (tCons (tOp (rIxT K) (tOp (rIxL K) (tFld K (tVar 0) "of_nodes") (tVar 4)) (tC (V.int 0)))
        (tCons (tOp (rI0 fun i j => V.int (i + j)) (tOp (rIxT K) (tOp (rIxL K) (tFld K (tVar 0) "of_nodes") (tVar 4)) (tC (V.int 1))) (tC (V.int 1))) tNil))) (gSub (tFld K (tVar 0) "of_nodes") (tVar 4) rSetL))
      (tSeq (sFld K (tVar 0) (tOp rEq (tVar 1) (tC (V.str ", "))) "of_wants") (tRet (tC (V.bl true)))) D σ H := by
  obtain ⟨m, hm⟩ : ∃ m, s.nodes[i]? = some m := ⟨_, List.getElem?_eq_getElem hi⟩
  obtain ⟨p, hp1, hp2⟩ := S.row.2 i m hm
  refine ⟨_, h0, a, _, _, _, _, rfl, S.at_.ia, RC.cl, RC.n1, rfl, _, h4, n, xs, _, .ref p, rfl, rfl, SqL.of S.at_.il, at_nat hp1, p, _, 0, .str m.1, rfl, rfl, SqT.of hp2, rfl, ?_⟩
  refine ⟨_, h0, a, _, _, _, _, rfl, S.at_.ia, RC.cl, RC.n1, rfl, _, h4, n, xs, _, .ref p, rfl, rfl, SqL.of S.at_.il, at_nat hp1, p, _, 1, .int m.2, rfl, rfl, SqT.of hp2, rfl, _, _, rfl, rfl, (show 2 ≤ sizeLine by decide), fun q hq => ?_⟩
  have S2 := S.alloc (x := .tup [.str m.1, .int ((m.2 : Int) + 1)]) hq
  refine ⟨_, h0, a, _, _, _, _, rfl, S2.at_.ia, RC.cl, RC.n1, rfl, _, h4, n, xs, _, i, rfl, rfl, S2.at_.il, ix_nat (by rw [S.row.1]; exact hi), ?_⟩
  have S3 := S2.setN (j := i) (p := q) (m := (m.1, m.2 + 1)) (by rw [upd_same]; rfl)
  refine ⟨_, h1, rfl, _, h0, a, _, _, _, rfl, S3.at_.ia, RC.cl, RC.n3, (show 4 < 1000 by decide), ?_⟩
  have S4 := S3.setA (decide (z = ", ")) s.last
  refine k _ (xs.set i (.ref q)) ?_ (fun p hp => by
    rcases List.mem_or_eq_of_mem_set hp with h | h
    · exact .inl h
    · cases h
      exact .inr hq)
  have e : TM.bump s.nodes i = s.nodes.set i (m.1, m.2 + 1) := by
    unfold TM.bump
    rw [hm]
  rw [e]
  rw [show (V.bl (decide (V.str z = V.str ", "))) = V.bl (decide (z = ", ")) by rw [dec_str]]
  exact S4
theorem tk_shut (RC : RdK K CR) {D : Ends} {z : Str} (h0 : σ[0]? = some (some (.ref a))) (h1 : σ[1]? = some (some (.str z))) (hl : 4 < σ.length) (S : RdSt H0 H CR a dx n o s xs) (hop : ∀ i ∈ s.opn, i < s.nodes.length) (hol : s.opn.length < 100000)
    (k1 : (s.wants = true ∨ s.opn = []) → ∀ H', Keep [a, n, o] H0 H' → D.rt (.bl false) H')
    (k2 : ∀ O i, s.wants = false → s.opn = O ++ [i] → ∀ H' xs', RdSt H0 H' CR a dx n o ⟨TM.bump s.nodes i, if z = ", " then s.opn else O, decide (z = ", "), s.last⟩ xs' → (∀ p, V.ref p ∈ xs' → V.ref p ∈ xs ∨ H p = none) → D.rt (.bl true) H') :
    tSeq (tIfS (tOr (tB (tFld K (tVar 0) "of_wants")) (tTest (tOp (rEqA K) (tFld K (tVar 0) "of_open") (tLst tNil)))) (tRet (tC (V.bl false))) tNext)
      (tSeq (tAsg (tIf (tTest (tOp rEq (tVar 1) (tC (V.str ", ")))) (tOp (rIxL K) (tFld K (tVar 0) "of_open") (tUn (rU fun i => V.int (-i)) (tC (V.int 1)))) (tBM0 K "list" rPop (tFld K (tVar 0) "of_open"))) (gName 4))
      (tSeq (tAsg (tTup (tCons (tOp (rIxT K) (tOp (rIxL K) (tFld K (tVar 0) "of_nodes") (tVar 4)) (tC (V.int 0)))
        (tCons (tOp (rI0 fun i j => V.int (i + j)) (tOp (rIxT K) (tOp (rIxL K) (tFld K (tVar 0) "of_nodes") (tVar 4)) (tC (V.int 1))) (tC (V.int 1))) tNil))) (gSub (tFld K (tVar 0) "of_nodes") (tVar 4) rSetL))
      (tSeq (sFld K (tVar 0) (tOp rEq (tVar 1) (tC (V.str ", "))) "of_wants") (tRet (tC (V.bl true)))))) D σ H := by
  refine ⟨_, h0, a, _, _, _, _, rfl, S.at_.ia, RC.cl, RC.n3, rfl, _, rfl, ?_⟩
  show if s.wants = true then _ else _
  cases hw : s.wants with
  | true =>
    rw [if_pos rfl]
    exact k1 (.inl hw) H S.kp
  | false =>
    rw [if_neg (by decide)]
    refine ⟨_, h0, a, _, _, _, _, rfl, S.at_.ia, RC.cl, RC.n2, rfl, Nat.zero_le _, fun p hp => ?_⟩
    have S2 := S.alloc (x := .lst []) hp
    refine s_eq (upd H p (.lst [])) _ _ _ (.lst (iD s.opn)) (.lst (iD [])) (fun d => d = .bl (decide (s.opn = []))) _ (Gx.refl _) (.val (.lst S2.at_.io (RepAll.map (fun (i : Nat) => .int (i : Int)) s.opn) (by rw [List.length_map, sizeLine_eq]; omega))) (.val (.lst upd_same .nil (by decide))) (eq_ints rfl) ?_
    rintro v W' H' d e r rfl
    cases r
    have S3 := S2.gx e.h
    refine ⟨_, rfl, ?_⟩
    show if decide (s.opn = []) = true then _ else _
    by_cases ho : s.opn = []
    · rw [if_pos (decide_eq_true ho)]
      exact k1 (.inr ho) H' S3.kp
    rw [if_neg (by rw [decide_eq_false ho]; decide)]
    obtain ⟨O, i, hO⟩ : ∃ O i, s.opn = O ++ [i] := ⟨_, _, (List.dropLast_concat_getLast ho).symm⟩
    have hi : i < s.nodes.length := hop i (by rw [hO]; simp)
    have h04 : (σ.set 4 (some (V.int (i : Int))))[0]? = some (some (.ref a)) := by rw [List.getElem?_set_ne (by decide)]; exact h0
    have h14 : (σ.set 4 (some (V.int (i : Int))))[1]? = some (some (.str z)) := by rw [List.getElem?_set_ne (by decide)]; exact h1
    have h44 : (σ.set 4 (some (V.int (i : Int))))[4]? = some (some (.int (i : Int))) := by rw [List.getElem?_set_self hl]
    refine ⟨_, h1, rfl, _, rfl, ?_⟩
    show if decide (V.str z = V.str ", ") = true then _ else _
    rw [dec_str]
    have hlast : (s.opn.map fun (i : Nat) => V.int (i : Int))[(s.opn.map fun (i : Nat) => V.int (i : Int)).length - 1]? = some (.int (i : Int)) := by
      rw [hO, List.map_append, List.length_append, List.length_map]
      show (_ ++ [V.int (i : Int)])[O.length + 1 - 1]? = _
      rw [List.getElem?_append_right (by rw [List.length_map]; omega), List.length_map]
      simp
    by_cases hz : z = ", "
    · rw [if_pos (decide_eq_true hz)]
      refine ⟨_, h0, a, _, _, _, _, rfl, S3.at_.ia, RC.cl, RC.n2, rfl, 1, rfl, o, _, _, .int (i : Int), rfl, rfl, SqL.of S3.at_.io, ?_, ?_⟩
      · have hlen : 0 < (s.opn.map fun (i : Nat) => V.int (i : Int)).length := by rw [List.length_map]; exact List.length_pos_iff.mpr ho
        unfold atI ixN
        rw [if_neg (by omega), if_pos (by omega)]
        show (s.opn.map fun (i : Nat) => V.int (i : Int))[(-1 + ((s.opn.map fun (i : Nat) => V.int (i : Int)).length : Int)).toNat]? = _
        rw [show (-1 + ((s.opn.map fun (i : Nat) => V.int (i : Int)).length : Int)).toNat = (s.opn.map fun (i : Nat) => V.int (i : Int)).length - 1 by omega]
        exact hlast
      · refine tk_rest RC h04 h14 h44 S3 hi fun H4 xs4 S4 fr => k2 O i hw hO H4 xs4 ?_ (fun p hp => (fr p hp).imp id fun h => free_upd (e.h.free h))
        rw [if_pos hz]
        exact S4
    · rw [if_neg (by rw [decide_eq_false hz]; decide)]
      refine ⟨_, h0, a, _, _, _, _, rfl, S3.at_.ia, RC.cl, RC.n2, rfl, .inl ⟨rfl, _, SqL.of S3.at_.io⟩, o, _, .int (i : Int), rfl, rfl, S3.at_.io, hlast, ?_⟩
      have S5 := S3.setO O
      have e' : (s.opn.map fun (i : Nat) => V.int (i : Int)).dropLast = O.map fun (i : Nat) => V.int (i : Int) := by
        rw [hO, List.map_append]
        exact List.dropLast_concat
      rw [e']
      refine tk_rest RC h04 h14 h44 S5 hi fun H4 xs4 S4 fr => k2 O i hw hO H4 xs4 ?_ (fun p hp => (fr p hp).imp id fun h => free_upd (e.h.free (free_upd h)))
      rw [if_neg hz]
      exact S4
end
section
variable {P : Program} {w : World} {K : PySem.W.Frag} {mg : Str → Option Value} {base : Heap} {CR : Addr}
abbrev s_Reader_take : Stmt := inClass (top 28) 1
abbrev nm_Reader_take : List Str := ["self", "token", "last", "can_open", "index"]
abbrev ps_Reader_take : List Str := ["self", "token"]
theorem sc_Reader_take : FnScope nm_Reader_take ps_Reader_take (defScope s_Reader_take) := ⟨rfl, rfl, rfl, by decide +kernel, rfl, by decide +kernel, by decide +kernel⟩
def spTake (CR : Addr) : Sp := fun vs H Q _ => ∃ a dx n o s xs z, vs = [.ref a, .str z] ∧ RdAt H CR a dx n o s xs ∧ RowL H xs s.nodes ∧ (∀ i ∈ s.opn, i < s.nodes.length) ∧ (s.wants = false → 0 < s.nodes.length) ∧ xs.length < 100000 ∧ s.opn.length < 100000 ∧
  (takeF s z = none → ∀ H', Keep [a, n, o] H H' → Q (.bl false) H') ∧ ∀ s', takeF s z = some s' → ∀ H' xs', RdSt H H' CR a dx n o s' xs' → (∀ p, V.ref p ∈ xs' → V.ref p ∈ xs ∨ H p = none) → Q (.bl true) H'
theorem ok_take {f : Addr} {fd : FuncData} (F : Fun K "take" "Reader.take" s_Reader_take f fd) (T : Txt K mg) (RC : RdK K CR) (M_take_word : CalM P w K mg base CX0 CR "take_word" 1 ps_Reader_take_word (spTakeWord CR)) : FnOk P w K mg base CX0 2 f fd ps_Reader_take (spTake CR) := by
  have nd := sc_Reader_take.nd
  refine F.ok sc_Reader_take (fun vs H Q E h => ?_) (fun cdv A outer s H vs Q E hr h => ?_)
  · obtain ⟨_, _, _, _, _, _, _, rfl, _⟩ := h
    rfl
  · obtain ⟨a, dx, n, o, s, xs, z, rfl, R, hrow, hop, hwn, hx, hol, k1, k2⟩ := h
    have S0 : RdSt H H CR a dx n o s xs := ⟨fun _ _ _ h => h, R, hrow⟩
    refine ⟨_, (pss_cons (ps_set (i := 2) nd rfl (Or.inl rfl) (kpe_fld (K := K) (pv 0) rfl))
      (pss_cons (kps_fld (K := K) (pv 0) (pv 1) rfl)
      (pss_cons (ps_if (pt_cmpR (kop_notIn_seq (K := K)) (pv 1) (pe_tup (pa_cons pe_str (pa_cons pe_str (pa_cons pe_str pa_nil)))) rfl) (pss_one (ps_ret (pe_mM M_take_word (hr.mono (by first | decide | omega)) RC.cl pass0 (pv 0) (pa_cons (pv 1) pa_nil)))) pss_nil)
      (pss_cons (ps_if (pt_cmpR op_eq (pv 1) pe_str (nomark _)) (pss_cons (ps_set (i := 3) nd rfl (Or.inl rfl) (pe_and (pe_not (kpe_fld (K := K) (pv 0) rfl)) (pe_one (pe_cmpR (kop_notIn_seq (K := K)) (pv 2) (pe_tup (pa_cons pe_str (pa_cons pe_str (pa_cons pe_str pa_nil)))) rfl))))
      (pss_cons (ps_expr (kpe_bm (K := K) PySem.F.plainAttrs_list PySem.F.slot_list_append PySem.F.type_list_append mt_append (kpe_fld (K := K) (pv 0) rfl) (pa_cons (pe_op op_sub (pe_callB (kcall_len (K := K)) (by rfl) T.z_len (by decide +kernel) (pa_cons (kpe_fld (K := K) (pv 0) rfl) pa_nil)) pe_int) pa_nil)))
      (pss_cons (kps_fld (K := K) (pv 0) pe_bl rfl)
      (pss_one (ps_ret (pv 3)))))) pss_nil)
      (pss_cons (ps_if (PW.pt (pw_or (pt_val (kpe_fld (K := K) (pv 0) rfl)) (pw_or1 (pt_cmpR (op_eqA (K := K) hr.units) (kpe_fld (K := K) (pv 0) rfl) (pe_lst pa_nil) (nomark _))))) (pss_one (ps_ret pe_bl)) pss_nil)
      (pss_cons (ps_set (i := 4) nd rfl (Or.inl rfl) (pe_ifExp (pt_cmpR op_eq (pv 1) pe_str (nomark _)) (pe_ix (kix_list (K := K)) (kpe_fld (K := K) (pv 0) rfl) (pe_un un_neg pe_int) (fun _ _ => rfl)) (kpe_bm0 (K := K) PySem.F.plainAttrs_list PySem.F.slot_list_pop PySem.F.type_list_pop mt_pop (kpe_fld (K := K) (pv 0) rfl))))
      (pss_cons (ps_asg (pe_tup (pa_cons (pe_ix (kix_tup (K := K)) (pe_ix (kix_list (K := K)) (kpe_fld (K := K) (pv 0) rfl) (pv 4) (fun _ _ => rfl)) pe_int (fun _ _ => rfl)) (pa_cons (pe_op op_add (pe_ix (kix_tup (K := K)) (pe_ix (kix_list (K := K)) (kpe_fld (K := K) (pv 0) rfl) (pv 4) (fun _ _ => rfl)) pe_int (fun _ _ => rfl)) pe_int) pa_nil))) (pg_sub (kpe_fld (K := K) (pv 0) rfl) (pv 4) set_list))
      (pss_cons (kps_fld (K := K) (pv 0) (pe_cmpR op_eq (pv 1) pe_str (nomark _)) rfl)
      (pss_one (ps_ret pe_bl)))))))))), ?_⟩
    refine ⟨_, rfl, a, _, _, _, _, rfl, R.ia, RC.cl, RC.n4, rfl, ?_⟩
    refine ⟨_, rfl, _, rfl, a, _, _, _, rfl, R.ia, RC.cl, RC.n4, (show 4 < 1000 by decide), ?_⟩
    have S1 := S0.setA s.wants z
    refine ⟨_, rfl, (show 3 ≤ sizeLine by decide), fun p hp => ⟨p, _, rfl, .inr (SqT.of upd_same), rfl, rfl, _, rfl, ?_⟩⟩
    have S2 := S1.alloc (x := .tup [.str "(", .str ")", .str ", "]) hp
    show if (if true = true then !inV (.str z) [.str "(", .str ")", .str ", "] else inV (.str z) [.str "(", .str ")", .str ", "]) = true then _ else _
    rw [if_pos (rfl : true = true), inV_sign]
    by_cases hz : isSign z = false
    · rw [hz, if_pos (show (!false) = true from rfl)]
      refine ⟨_, rfl, a, _, _, rfl, S2.at_.ia, rfl, _, rfl, ?_⟩
      refine ⟨a, dx, n, o, _, _, z, rfl, S2.at_, hx, fun hw => ?_, fun hw p2 H' kp hp2 ht R' => ?_⟩
      · have hw : s.wants = false := hw
        exact k1 (by unfold takeF; rw [if_pos hz, if_neg (by rw [hw]; simp)]) _ S2.kp
      · refine k2 ⟨s.nodes ++ [(z, 0)], s.opn, false, z⟩ (TM.take_word hz hw) H' _ ⟨fun q hq y hy => kp q (fun m => hq ?_) y (S2.kp q hq y hy), ⟨R'.ia, R'.il, R'.io, R'.ne⟩, row_app (row_keep S2.row kp fun c hc vs e => ?_) ht⟩ (fun c hc => ?_)
        · rcases List.mem_cons.mp m with rfl | m
          · simp
          · rw [List.mem_singleton.mp m]; simp
        · rcases List.mem_cons.mp hc with rfl | hc
          · have := S2.at_.ia.symm.trans e
            cases this
          · rw [List.mem_singleton.mp hc] at e
            have := S2.at_.il.symm.trans e
            cases this
        · rcases List.mem_append.mp hc with hc | hc
          · exact .inl hc
          · cases List.mem_singleton.mp hc
            exact .inr (free_upd (free_upd hp2))
    have hz : isSign z = true := by cases c : isSign z with
      | true => rfl
      | false => exact absurd c hz
    rw [hz, if_neg (by simp)]
    refine ⟨_, rfl, rfl, _, rfl, ?_⟩
    show if decide (V.str z = V.str "(") = true then _ else _
    rw [dec_str]
    by_cases h40 : z = "("
    · rw [if_pos (decide_eq_true h40)]
      have hz40 : z = mkS [40] := by rw [q40]; exact h40
      refine ⟨_, rfl, a, _, _, _, _, rfl, S2.at_.ia, RC.cl, RC.n3, rfl, _, rfl, _, rfl, ?_⟩
      show if (!s.wants) = true then _ else _
      by_cases hw : s.wants = true
      · rw [if_neg (by rw [hw]; decide)]
        refine tk_open RC rfl rfl S2 hx hol fun H' kp _ => ?_
        refine k1 ?_ H' kp
        unfold takeF
        rw [if_neg (by rw [hz]; simp), if_pos hz40, if_neg (fun z => by rw [hw] at z; cases z.1)]
      · have hw : s.wants = false := by simpa using hw
        rw [if_pos (by rw [hw]; decide)]
        refine ⟨_, rfl, (show 3 ≤ sizeLine by decide), fun p2 hp2 => ⟨p2, _, rfl, .inr (SqT.of upd_same), rfl, rfl, ?_⟩⟩
        have S3 := S2.alloc (x := .tup [.str ")", .str "(", .str ", "]) hp2
        rw [if_pos (rfl : true = true), inV_sign2]
        by_cases hsl : isSign s.last = true
        · rw [hsl]
          refine tk_open RC rfl rfl S3 hx hol fun H' kp _ => ?_
          refine k1 ?_ H' kp
          unfold takeF
          rw [if_neg (by rw [hz]; simp), if_pos hz40, if_neg (fun z => by rw [hsl] at z; cases z.2)]
        · have hsl : isSign s.last = false := by simpa using hsl
          rw [hsl]
          refine tk_open RC rfl rfl S3 hx hol fun H' kp R' => ?_
          refine k2 _ ?_ H' xs (R' (hwn hw)) (fun p hp => .inl hp)
          unfold takeF
          rw [if_neg (by rw [hz]; simp), if_pos hz40, if_pos ⟨hw, hsl⟩]
    · rw [if_neg (by rw [decide_eq_false h40]; decide)]
      have hz40 : z ≠ mkS [40] := by rw [q40]; exact h40
      refine tk_shut RC rfl rfl (show 4 < 5 by decide) S2 hop hol (fun hh H' kp => ?_) (fun O i hw hO H' xs' R' fr => ?_)
      · refine k1 ?_ H' kp
        unfold takeF
        rw [if_neg (by rw [hz]; simp), if_neg hz40]
        rcases hh with hh | hh
        · have hh : s.wants = true := hh
          cases s.opn.getLast? with
          | none => rfl
          | some i => exact if_pos hh
        · have hh : s.opn = [] := hh
          rw [hh]
          rfl
      · refine k2 _ ?_ H' xs' R' (fun p hp => (fr p hp).imp id fun h => free_upd (free_upd h))
        unfold takeF
        have hO : s.opn = O ++ [i] := hO
        have hw : s.wants = false := hw
        rw [if_neg (by rw [hz]; simp), if_neg hz40, hO, List.getLast?_concat]
        show (if s.wants = true then none else some _) = _
        rw [if_neg (by rw [hw]; decide), List.dropLast_concat, q44]
end
end K6

set_option Elab.async false
set_option maxRecDepth 100000
set_option maxHeartbeats 1000000
set_option linter.all false
namespace K6
open PySem PySem.Spec PyProof.Rows L2 Ly Pu TM
/-! plain: what the reader keeps -/
structure RInv (s : RS) : Prop where
  op : ∀ i ∈ s.opn, i < s.nodes.length
  wn : s.wants = false → 0 < s.nodes.length
theorem bump_len (l : List Nd) (i : Nat) : (TM.bump l i).length = l.length := by
  unfold TM.bump
  split
  · rw [List.length_set]
  · rfl
theorem take_inv {s s' : RS} {z : Str} (h : RInv s) (e : takeF s z = some s') : RInv s' ∧ s'.nodes.length ≤ s.nodes.length + 1 ∧ s'.opn.length ≤ s.opn.length + 1 := by
  unfold takeF at e
  by_cases h1 : isSign z = false
  · rw [if_pos h1] at e
    by_cases h2 : s.wants = true
    · rw [if_pos h2] at e
      cases e
      refine ⟨⟨fun i hi => ?_, fun _ => ?_⟩, ?_, Nat.le_succ _⟩
      · have := h.op i hi
        show i < (s.nodes ++ [(z, 0)]).length
        rw [List.length_append]
        exact Nat.lt_of_lt_of_le this (Nat.le_add_right _ _)
      · show 0 < (s.nodes ++ [(z, 0)]).length
        rw [List.length_append]
        exact Nat.succ_pos _
      · show (s.nodes ++ [(z, 0)]).length ≤ _
        rw [List.length_append]
        exact Nat.le_refl _
    · rw [if_neg h2] at e
      cases e
  · rw [if_neg h1] at e
    by_cases h2 : z = mkS [40]
    · rw [if_pos h2] at e
      by_cases h3 : s.wants = false ∧ isSign s.last = false
      · rw [if_pos h3] at e
        cases e
        have hp := h.wn h3.1
        refine ⟨⟨fun i hi => ?_, fun z => by cases z⟩, Nat.le_succ _, ?_⟩
        · rcases List.mem_append.mp hi with hi | hi
          · exact h.op i hi
          · rw [List.mem_singleton.mp hi]
            show s.nodes.length - 1 < s.nodes.length
            omega
        · show (s.opn ++ [s.nodes.length - 1]).length ≤ _
          rw [List.length_append]
          exact Nat.le_refl _
      · rw [if_neg h3] at e
        cases e
    · rw [if_neg h2] at e
      cases hg : s.opn.getLast? with
      | none => rw [hg] at e; cases e
      | some i =>
        rw [hg] at e
        have e : (if s.wants = true then none else some (⟨TM.bump s.nodes i, if z = mkS [44, 32] then s.opn else s.opn.dropLast, decide (z = mkS [44, 32]), z⟩ : RS)) = some s' := e
        by_cases h3 : s.wants = true
        · rw [if_pos h3] at e
          cases e
        · rw [if_neg h3] at e
          cases e
          have hi := h.op i (List.mem_of_getLast? hg)
          refine ⟨⟨fun j hj => ?_, fun _ => ?_⟩, ?_, ?_⟩
          · show j < (TM.bump s.nodes i).length
            rw [bump_len]
            have hj : j ∈ (if z = mkS [44, 32] then s.opn else s.opn.dropLast) := hj
            by_cases h4 : z = mkS [44, 32]
            · rw [if_pos h4] at hj
              exact h.op j hj
            · rw [if_neg h4] at hj
              exact h.op j ((List.dropLast_sublist _).subset hj)
          · show 0 < (TM.bump s.nodes i).length
            rw [bump_len]
            omega
          · show (TM.bump s.nodes i).length ≤ _
            rw [bump_len]
            omega
          · show (if z = mkS [44, 32] then s.opn else s.opn.dropLast).length ≤ _
            split
            · omega
            · rw [List.length_dropLast]
              omega
theorem run_snoc (s : RS) (zs : List Str) (z : Str) : runF s (zs ++ [z]) = (runF s zs).bind fun s' => takeF s' z := by
  rw [run_app]
  cases runF s zs with
  | none => rfl
  | some s' =>
    show (takeF s' z).bind (fun s'' => some s'') = takeF s' z
    cases takeF s' z <;> rfl
/-! a slot of which nothing is known -/
section
variable {K : PySem.W.Frag} {W0 H0 W H W' H' : Hp} {ρ : Pu.Env} {σ : L2.St} {i : Nat}
theorem sat_any (h : Sat K W0 H0 W ρ σ H) (s : Option V) : Sat K W0 H0 W (ρ.set i .un) (σ.set i s) H := by
  obtain ⟨oa, h1, h2⟩ := h.rep
  exact sat_set (o := none) h.ex h.len h1 (fun _ _ z => by cases z) (fun j b _ hb => h2 j b hb) rfl
theorem row_rep : ∀ {xs : List V} {nds : List Nd}, xs.length = nds.length → (∀ (i : Nat) (m : Nd), nds[i]? = some m → ∃ p, xs[i]? = some (.ref p) ∧ W p = some (.tup [.str m.1, .int (m.2 : Int)])) → RepAll K W xs (nds.map ndDD)
  | [], [], _, _ => .nil
  | x :: xs, m :: nds, hl, h => by
    obtain ⟨p, h1, h2⟩ := h 0 m rfl
    cases h1
    refine .cons (.tup (SqT.of h2) (.cons (.str _) (.cons (.int _) .nil)) (show 2 ≤ sizeLine by decide)) (row_rep (by simpa using hl) fun i k hk => ?_)
    exact h (i + 1) k (by simpa using hk)
  | [], _ :: _, hl, _ => by simp at hl
  | _ :: _, [], hl, _ => by simp at hl
end
theorem ne_ints {w v : List Nat} {Q : D → Prop} (q : Q (.bl (!decide (w = v)))) : RNe (.lst (iD w)) (.lst (iD v)) Q := by
  have h : REq (.lst (iD w)) (.lst (iD v)) fun d => d = .bl (decide (w = v)) := eq_ints rfl
  obtain ⟨h1, h2, h3⟩ := h
  refine ⟨h1, h2, ?_⟩
  have h3 := D.bl.inj h3
  rw [h3]
  exact q
def sRead (S : FS) : FS := fun ρ De => ∃ zs : List Str, ρ[1]? = some (.val (.lst (zs.map .str))) ∧ zs.length < 10000 ∧ ρ.length = 6 ∧ match runF rs0 zs with
  | none => De.rt .non
  | some s => if s.wants = true ∨ s.opn ≠ [] ∨ 40 < s.nodes.length then De.rt .non else S (((ρ.set 2 .un).set 3 .un).set 4 (.val (ndsDD s.nodes))) De
section
variable {K : PySem.W.Frag} {CR : Addr} {E : XK} {W0 H0 : Hp} {S : FS} {Ex0 : XK}
theorem gx_keep {H H1 H' : Hp} {a n o : Addr} (e : Gx H H1) (k : Keep [a, n, o] H1 H') (ha : H a = none) (hn : H n = none) (ho : H o = none) : Gx H H' := fun p x hp => by
  refine k p (fun z => ?_) x (e p x hp)
  simp only [List.mem_cons, List.not_mem_nil, or_false] at z
  rcases z with rfl | rfl | rfl
  · rw [ha] at hp; cases hp
  · rw [hn] at hp; cases hp
  · rw [ho] at hp; cases hp
/-- the state of the loop -/
structure RdLp (H : Hp) (CR a dx n o : Addr) (σ : L2.St) (zs : List Str) (i : Nat) (σ' : L2.St) (H' : Hp) : Prop where
  ex : ∃ s xs u, runF rs0 (zs.take i) = some s ∧ RInv s ∧ Gx H H' ∧ RdAt H' CR a dx n o s xs ∧ RowL H' xs s.nodes ∧ (∀ p, V.ref p ∈ xs → H p = none) ∧ s.nodes.length ≤ i ∧ s.opn.length ≤ i ∧ σ' = (σ.set 2 (some (.ref a))).set 3 u
theorem reader_to (RC : RdK K CR) {D : Ends} {σ : L2.St} {H : Hp} (h : tDS K W0 H0 E (sRead S) D σ H) :
    tSeq (tAsg (tMake CR (spRdInit CR) [] Ex0 tNil) (gName 2))
      (tSeq (tFor (iList K (tVar 1)) (gName 3) (tIfS (tNot (tB (tMeth CR "take" (spTake CR) [] Ex0 (tVar 2) (tCons (tVar 3) tNil)))) (tRet (tC .non)) tNext))
      (tSeq (tIfS (tOr (tB (tFld K (tVar 2) "of_wants")) (tOr (tTest (tOp (rNeA K) (tFld K (tVar 2) "of_open") (tLst tNil))) (tTest (tOp (rI0 fun i j => .bl (decide (j < i))) (tCB (rLenK K) (tCons (tFld K (tVar 2) "of_nodes") tNil)) (tC (.int 40)))))) (tRet (tC .non)) tNext)
      (tSeq (tAsg (tCB (rTupK K) (tCons (tFld K (tVar 2) "of_nodes") tNil)) (gName 4)) (tDS K W0 H0 E S)))) D σ H := by
  obtain ⟨W, ρ, De, st, ⟨zs, hz, hzl, hρ, q⟩, ok⟩ := h
  obtain ⟨v1, hv1, r1⟩ := st.val hz
  have hσl : σ.length = 6 := by rw [st.len, hρ]
  cases r1 with
  | @lst pt vs _ hpt rvs hvl =>
  have hvs := strs_w rvs
  subst hvs
  intro a dx ha hdx hne
  refine ⟨a, dx, rfl, upd_same, fun n o H1 kp hn ho hno hn1 ho1 ha1 => ⟨rfl, ?_⟩⟩
  have hn := free_upd (free_upd hn)
  have ho := free_upd (free_upd ho)
  have hpa : pt ≠ a := by rintro rfl; rw [st.see _ _ hpt] at ha; cases ha
  have g1 : Gx H H1 := fun p x hp => by
    have pa : p ≠ a := by rintro rfl; rw [ha] at hp; cases hp
    refine kp p (fun z => pa (List.mem_singleton.mp z)) x ?_
    have pd : p ≠ dx := by rintro rfl; rw [hdx] at hp; cases hp
    rw [upd_ne pa, upd_ne pd]
    exact hp
  have hv2 : (σ.set 2 (some (V.ref a)))[1]? = some (some (.ref pt)) := by rw [List.getElem?_set_ne (by decide)]; exact hv1
  have back : ∀ H', Gx H H' → De.rt .non → D.rt .non H' := fun H' g z => ok.rt _ W H' _ (st.ex.trans ⟨g, Gx.refl _, st.see.trans g, fun _ _ h => .inl h⟩) .non z
  refine ⟨_, hv2, pt, rfl, ⟨_, SqL.of (g1 _ _ (st.see _ _ hpt))⟩, ?_⟩
  refine for_list (K := K) (a := pt) (xs := zs.map V.str) (RdLp H CR a dx n o σ zs) ⟨rs0, [], (σ.set 2 (some (V.ref a)))[3]'(by rw [List.length_set]; omega), rfl, ⟨(fun i hi => nomatch hi), (fun z => nomatch z)⟩, g1, ⟨ha1, hn1, ho1, hno⟩, RowL.nil, (fun p hp => nomatch hp), Nat.le_refl _, Nat.le_refl _, (by rw [List.set_getElem_self])⟩ ?_ ?_ ?_
  · rintro i σ' H' hi ⟨s, xs, u, _, _, g, _⟩
    exact SqL.of (g _ _ (st.see _ _ hpt))
  · rintro i x σ' H' hx ⟨s, xs, u, hr, iv, g, at_, row, fr, hl1, hl2, rfl⟩
    rw [List.getElem?_map] at hx
    cases hzi : zs[i]? with
    | none => rw [hzi] at hx; cases hx
    | some z =>
      rw [hzi] at hx
      cases hx
      have hi := (List.getElem?_eq_some_iff.mp hzi).1
      have htk : zs.take (i + 1) = zs.take i ++ [z] := by
        rw [List.take_add_one, hzi]
        rfl
      have e2 : (((σ.set 2 (some (V.ref a))).set 3 u).set 3 (some (V.str z)))[2]? = some (some (.ref a)) := by
        rw [List.getElem?_set_ne (by decide), List.getElem?_set_ne (by decide), List.getElem?_set_self (by omega)]
      have e3 : (((σ.set 2 (some (V.ref a))).set 3 u).set 3 (some (V.str z)))[3]? = some (some (.str z)) := by
        rw [List.getElem?_set_self (by rw [List.length_set, List.length_set]; omega)]
      refine ⟨_, e2, a, _, _, rfl, at_.ia, rfl, _, e3, ?_⟩
      refine ⟨a, dx, n, o, s, xs, z, rfl, at_, row, iv.op, iv.wn, by rw [row.1]; omega, by omega, fun hno H2 kp2 => ⟨_, rfl, ?_⟩, fun s' hs' H2 xs2 R2 fr2 => ⟨_, rfl, ?_⟩⟩
      · show if (!false) = true then _ else _
        rw [if_pos (by decide)]
        refine back H2 (gx_keep g kp2 ha hn ho) ?_
        have : runF rs0 zs = none := by
          rw [← List.take_append_drop (i + 1) zs, run_app, htk, run_snoc, hr]
          show (takeF s z).bind _ = none
          rw [hno]
          rfl
        rw [this] at q
        exact q
      · show if (!true) = true then _ else _
        rw [if_neg (by decide)]
        obtain ⟨iv2, l1, l2⟩ := take_inv iv hs'
        refine ⟨s', xs2, some (V.str z), ?_, iv2, gx_keep g R2.kp ha hn ho, R2.at_, R2.row, fun p hp => ?_, by omega, by omega, by rw [List.set_set]⟩
        · rw [htk, run_snoc, hr]
          exact hs'
        · rcases fr2 p hp with h | h
          · exact fr p h
          · exact g.free h
  · rintro σ' H' ⟨s, xs, u, hr, iv, g, at_, row, fr, hl1, hl2, rfl⟩
    rw [List.length_map, List.take_length] at hr
    rw [List.length_map] at hl1 hl2
    rw [hr] at q
    have q : if s.wants = true ∨ s.opn ≠ [] ∨ 40 < s.nodes.length then De.rt .non else S (((ρ.set 2 .un).set 3 .un).set 4 (.val (ndsDD s.nodes))) De := q
    have e2 : ((σ.set 2 (some (V.ref a))).set 3 u)[2]? = some (some (.ref a)) := by
      rw [List.getElem?_set_ne (by decide), List.getElem?_set_self (by omega)]
    refine ⟨_, e2, a, _, _, _, _, rfl, at_.ia, RC.cl, RC.n3, rfl, _, rfl, ?_⟩
    show if s.wants = true then _ else _
    by_cases hw : s.wants = true
    · rw [if_pos hw]
      rw [if_pos (.inl hw)] at q
      exact back H' g q
    rw [if_neg hw]
    refine ⟨_, e2, a, _, _, _, _, rfl, at_.ia, RC.cl, RC.n2, rfl, Nat.zero_le _, fun p hp => ?_⟩
    have S2 : RdSt H' (upd H' p (.lst [])) CR a dx n o s xs := RdSt.alloc ⟨fun _ _ _ h => h, at_, row⟩ hp
    refine s_ne (upd H' p (.lst [])) _ _ _ (.lst (iD s.opn)) (.lst (iD [])) (fun d => d = .bl (!decide (s.opn = []))) _ (Gx.refl _) (.val (.lst S2.at_.io (RepAll.map (fun (i : Nat) => .int (i : Int)) s.opn) (by rw [List.length_map, sizeLine_eq]; omega))) (.val (.lst upd_same .nil (by decide))) (ne_ints rfl) ?_
    rintro v W' H3 d e r rfl
    cases r
    have g3 : Gx H' H3 := (Gx.new hp).trans e.h
    have S3 := S2.gx e.h
    refine ⟨_, rfl, ?_⟩
    show if (!decide (s.opn = [])) = true then _ else _
    by_cases ho : s.opn = []
    · rw [if_neg (by rw [decide_eq_true ho]; decide)]
      refine ⟨_, e2, a, _, _, _, _, rfl, S3.at_.ia, RC.cl, RC.n1, rfl, n, xs, rfl, .inl (SqL.of S3.at_.il), _, _, rfl, rfl, _, rfl, ?_⟩
      show if decide ((40 : Int) < (xs.length : Int)) = true then _ else _
      rw [row.1]
      by_cases h40 : 40 < s.nodes.length
      · rw [if_pos (decide_eq_true (by omega))]
        rw [if_pos (.inr (.inr h40))] at q
        exact back H3 (g.trans g3) q
      rw [if_neg (by rw [decide_eq_false (by omega)]; decide)]
      rw [if_neg (fun z => by rcases z with z | z | z; exact hw z; exact z ho; exact h40 z)] at q
      refine ⟨_, e2, a, _, _, _, _, rfl, S3.at_.ia, RC.cl, RC.n1, rfl, n, xs, rfl, .inl ⟨SqL.of S3.at_.il, fun l hl => ?_⟩⟩
      have g4 : Gx H H3 := g.trans g3
      let W2 : Hp := fun c => open Classical in if c = l ∨ V.ref c ∈ xs then (upd H3 l (.tup xs)) c else W c
      have wl : W2 l = some (.tup xs) := by
        show (if l = l ∨ V.ref l ∈ xs then (upd H3 l (.tup xs)) l else W l) = _
        rw [if_pos (.inl rfl), upd_same]
      have gw : Gx W W2 := fun c x hc => by
        show (if c = l ∨ V.ref c ∈ xs then (upd H3 l (.tup xs)) c else W c) = _
        rw [if_neg]
        · exact hc
        · rintro (rfl | h)
          · rw [g4 _ _ (st.see _ _ hc)] at hl
            cases hl
          · have := fr c h
            rw [st.see _ _ hc] at this
            cases this
      have gs : Gx W2 (upd H3 l (.tup xs)) := fun c x hc => by
        have hc : (if c = l ∨ V.ref c ∈ xs then (upd H3 l (.tup xs)) c else W c) = some x := hc
        by_cases z : c = l ∨ V.ref c ∈ xs
        · rw [if_pos z] at hc
          exact hc
        · rw [if_neg z] at hc
          rw [upd_ne (fun y => z (.inl y))]
          exact g4 _ _ (st.see _ _ hc)
      have ex : Pu.Ex W H W2 (upd H3 l (.tup xs)) := ⟨g4.trans (Gx.new hl), gw, gs, fun c x hc => by
        have hc : (if c = l ∨ V.ref c ∈ xs then (upd H3 l (.tup xs)) c else W c) = some x := hc
        by_cases z : c = l ∨ V.ref c ∈ xs
        · rcases z with rfl | z
          · exact .inr (g4.free hl)
          · exact .inr (fr c z)
        · rw [if_neg z] at hc
          exact .inl hc⟩
      have rep : Rep K W2 (.ref l) (ndsDD s.nodes) := .tup (SqT.of wl) (row_rep row.1 fun i m hm => by
        obtain ⟨c, h1, h2⟩ := S3.row.2 i m hm
        refine ⟨c, h1, ?_⟩
        show (if c = l ∨ V.ref c ∈ xs then (upd H3 l (.tup xs)) c else W c) = _
        rw [if_pos (.inr (List.mem_of_getElem? h1)), upd_ne (by rintro rfl; rw [h2] at hl; cases hl)]
        exact h2) (by rw [row.1, sizeLine_eq]; omega)
      exact ⟨W2, _, De, (sat_any (sat_any (st.ext ex) (some (.ref a))) u).set rep, q, ok.up gw⟩
    · rw [if_pos (by rw [decide_eq_false ho]; decide)]
      rw [if_pos (.inr (.inl ho))] at q
      exact back H3 (g.trans g3) q
end
end K6

set_option Elab.async false
set_option maxRecDepth 100000
set_option maxHeartbeats 1000000
set_option linter.all false
namespace K6
open PySem PySem.Spec PyProof.Rows L2 Ly Pu
section
variable {P : Program} {w : World} {K : PySem.W.Frag} {mg : Str → Option Value} {base : Heap} {A : Adr}
theorem pe_mkc0 {X : Cx} {CX : CXT} {C : Addr} {x : Str} {k : Nat} {ps : List Str} {sp : Sp} {E : XK} {p pos : Pos} (M : CalC X.prog X.w X.K X.mg X.base CX x C k ps sp) (hr : Room (k + 1) X.A) (hg : Gl X x) (hx : Passes CX X E) (hdb : (x == ("__debug__" : Str)) = false := by decide) :
    PE X (.Call (.Name x p) [] [] pos) (tMake C sp [] E tNil) := by
  obtain ⟨f, fd, m, F, hm, hb⟩ := M.ex
  exact pe_make0 m F hr hg hm hb .nil hx hdb
def G_dice (K : PySem.W.Frag) (A : Adr) : Fn := FDice
abbrev s_nodes_of : Stmt := top 29
abbrev nm_nodes_of : List Str := ["text", "tokens", "reader", "token", "nodes", "node"]
abbrev ps_nodes_of : List Str := ["text"]
theorem sc_nodes_of : FnScope nm_nodes_of ps_nodes_of (defScope s_nodes_of) := ⟨rfl, rfl, rfl, by decide +kernel, rfl, by decide +kernel, by decide +kernel⟩
def S_nodes_of (K : PySem.W.Frag) (A : Adr) : FS :=
  (sSeq (sAsg 1 (fIf (fTst (fIsi K "str" (fVarT 0))) (fCall (G_tokens_of K A) 1 (fCons (fVar 0) fNil)) (fC .non)))
      (sSeq (sIf (fTst (fOp RIsN (fVarT 1) (fC .non))) (sRet (fC .non)) sNext)
      (sRead (sRet (fIf (fAnd (fTst (fCB RAll (fCons (fNew (fLc (fIt (fVarT 4)) (gN 5) fYes (fCall (G_is_node K A) 1 (fCons (fVar 5) fNil)) [5])) fNil))) (fTst (fOp RNotN (fCall (G_children_of K A) 1 (fCons (fVar 4) fNil)) (fC .non)))) (fVar 4) (fC .non))))))
def G_nodes_of (K : PySem.W.Frag) (A : Adr) : Fn := fnS 6 (S_nodes_of K A)
theorem ok_nodes_of {f : Addr} {fd : FuncData} (F : Fun K "nodes_of" "nodes_of" s_nodes_of f fd) (T : Txt K mg) {t_MAX_NODES : Tok} (g_MAX_NODES : mg "MAX_NODES" = some (.int (40) t_MAX_NODES))
    (C_tokens_of : CalF P w K mg base "tokens_of" 1 1 (G_tokens_of K A))
    (C_children_of : CalF P w K mg base "children_of" 1 1 (G_children_of K A))
    (C_is_node : CalF P w K mg base "is_node" 3 1 (G_is_node K A))
    (RC : RdK K A.cReader)
    (M_Reader : CalC P w K mg base CX0 "Reader" A.cReader 1 ps_Reader_init (spRdInit A.cReader))
    (M_take : CalM P w K mg base CX0 A.cReader "take" 2 ps_Reader_take (spTake A.cReader)) : FnOk P w K mg base (L2.CX P w) 4 f fd ps_nodes_of (spD K 1 (G_nodes_of K A)) := by
  have nd := sc_nodes_of.nd
  exact fn_d (k := 3) F sc_nodes_of rfl (fun cdv Ar outer s H E W0 hr => (d_seq (d_asg (d_if (d_test (d_isi (K := K) (by decide) rfl T.z_isinstance (d_varT (pv 0)) (pe_ty "str" (by rfl) T.z_str (by decide +kernel)))) (d_call C_tokens_of (hr.mono (by first | decide | omega)) rfl (passes_call (takes_of rfl rfl rfl rfl) fun _ _ _ _ h => h) (d_cons (d_var (pv 0)) d_nil)) (d_non pe_non)) (pg_name (i := 1) nd rfl (Or.inl rfl)))
      (d_seq (d_ifs (d_tcmp op_isN s_isN (d_varT (pv 1)) (d_t (d_non pe_non)) (nomark _)) (d_sone (d_ret (d_non pe_non))) d_snil)
      (_root_.L2.PSs.mono (pss_cons (ps_set (i := 2) nd rfl (Or.inl rfl) (pe_mkc0 M_Reader (hr.mono (by first | decide | omega)) rfl pass0))
      (pss_cons (ps_for (passes_of rfl) rfl (kpi_list (K := K) (pv 1)) (pg_name (i := 3) nd rfl (Or.inl rfl)) (pss_one (ps_if (pt_not (pt_val (pe_mM M_take (hr.mono (by first | decide | omega)) RC.cl pass0 (pv 2) (pa_cons (pv 3) pa_nil)))) (pss_one (ps_ret pe_non)) pss_nil)))
      (pss_cons (ps_if (PW.pt (pw_or (pt_val (kpe_fld (K := K) (pv 2) rfl)) (pw_or (pt_cmpR (op_neA (K := K) hr.units) (kpe_fld (K := K) (pv 2) rfl) (pe_lst pa_nil) (nomark _)) (pw_or1 (pt_cmpR op_gt (pe_callB (kcall_len (K := K)) (by rfl) T.z_len (by decide +kernel) (pa_cons (kpe_fld (K := K) (pv 2) rfl) pa_nil)) (pe_gint rfl g_MAX_NODES) (nomark _)))))) (pss_one (ps_ret pe_non)) pss_nil)
      (pss_cons (ps_set (i := 4) nd rfl (Or.inl rfl) (pe_callTy (kcall_tuple (K := K)) (by rfl) T.z_tuple (by decide +kernel) (pa_cons (kpe_fld (K := K) (pv 2) rfl) pa_nil)))
      (d_sone (d_ret (d_if (PW.pt (d_and (d_test (d_cb (kcr_all (K := K) rfl) s_all (by rfl) T.z_all (by decide +kernel) (d_consT (d_nt (d_lc (own := [("node", 5)]) (by rfl) nd (d_itC (K := K) (d_varT (pv 4))) (blkOk_by (own := [("node", 5)]) (N := nm_nodes_of) (sc := defScope s_nodes_of) (by decide +kernel)) (g_name (by decide)) (fun _ _ _ _ _ => (pg_name (i := 5) nd rfl (Or.inl rfl))) (fun _ _ _ _ _ => d_pts0) (fun _ _ _ _ _ => (d_call C_is_node (hr.mono (by first | decide | omega)) rfl passL (d_cons (d_var (pv 5)) d_nil))))) d_nilT))) (d_and1 (d_tcmp op_notN s_notN (d_t (d_call C_children_of (hr.mono (by first | decide | omega)) rfl (passes_call (takes_of rfl rfl rfl rfl) fun _ _ _ _ h => h) (d_cons (d_var (pv 4)) d_nil))) (d_t (d_non pe_non)) (nomark _))))) (d_var (pv 4)) (d_non pe_non)))))))) fun _ _ _ q => reader_to RC q)))) fun _ _ _ _ h => h
abbrev s_Term_read : Stmt := inClass (top 33) 2
abbrev nm_Term_read : List Str := ["cls", "text", "nodes"]
abbrev ps_Term_read : List Str := ["cls", "text"]
theorem sc_Term_read : FnScope nm_Term_read ps_Term_read (defScope s_Term_read) := ⟨rfl, rfl, rfl, by decide +kernel, rfl, by decide +kernel, by decide +kernel⟩
def S_Term_read (K : PySem.W.Frag) (A : Adr) : FS :=
  (sSeq (sAsg 2 (fCall (G_nodes_of K A) 1 (fCons (fVar 1) fNil)))
      (sSeq (sIf (fTst (fOp RIsN (fVarT 2) (fC .non))) (sRaiseK A.cParseError "line" (fC .non)) sNext)
      (sRet (fMkL 0 A.cTerm (G_Term_init K A) 1 (fCons (fVar 2) fNil)))))
def G_Term_read (K : PySem.W.Frag) (A : Adr) : Fn := fnS 3 (S_Term_read K A)
theorem ok_Term_read {f : Addr} {fd : FuncData} (F : Fun K "read" "Term.read" s_Term_read f fd) (T : Txt K mg) (C_nodes_of : CalF P w K mg base "nodes_of" 4 1 (G_nodes_of K A))
    (M_Term : CalI P w K mg base "Term" A.cTerm 5 1 (G_Term_init K A))
    (Z_ParseError : CalX P w K mg base "ParseError" A.cParseError 1 "line") : FnOk P w K mg base (L2.CX P w) 7 f fd ps_Term_read (spD K 2 (G_Term_read K A)) := by
  have nd := sc_Term_read.nd
  exact fn_d (k := 6) F sc_Term_read rfl (fun cdv Ar outer s H E W0 hr => (d_seq (d_asg (d_call C_nodes_of (hr.mono (by first | decide | omega)) rfl (passes_call (takes_of rfl rfl rfl rfl) fun _ _ _ _ h => h) (d_cons (d_var (pv 1)) d_nil)) (pg_name (i := 2) nd rfl (Or.inl rfl)))
      (d_seq (d_ifs (d_tcmp op_isN s_isN (d_varT (pv 2)) (d_t (d_non pe_non)) (nomark _)) (d_sone (d_raiseK Z_ParseError rfl (takes_of rfl rfl rfl rfl) (hr.mono (by first | decide | omega)) rfl (d_non pe_non))) d_snil)
      (d_sone (d_ret (d_mkL (i := 0) M_Term (hr.mono (by first | decide | omega)) rfl (Or.inl rfl) (passes_call (takes_of rfl rfl rfl rfl) fun _ _ _ _ h => h) (d_cons (d_var (pv 2)) d_nil))))))) fun _ _ _ _ h => h
abbrev s_told : Stmt := top 53
abbrev nm_told : List Str := ["_law_text_here", "error"]
abbrev ps_told : List Str := ["_law_text_here"]
theorem sc_told : FnScope nm_told ps_told (defScope s_told) := ⟨rfl, rfl, rfl, by decide +kernel, rfl, by decide +kernel, by decide +kernel⟩
def S_told (K : PySem.W.Frag) (A : Adr) : FS :=
  (sTry K (sRet (fCmeth A.cTerm (G_Term_read K A) 2 (fCons (fVar 0) fNil))) [⟨A.cParseError, some 1, fun x a cls d => (sRet (fOp RAdd (fC (.str "parse ")) (fCB RRepr (fCons (fXf cls d A.cParseError a "line" (fVar 1)) fNil))))⟩, ⟨A.cInvalidTerm, none, fun x a cls d => (sRet (fC (.str "term")))⟩])
def G_told (K : PySem.W.Frag) (A : Adr) : Fn := fnS 2 (S_told K A)
theorem ok_told {f : Addr} {fd : FuncData} (F : Fun K "_law_told" "_law_told" s_told f fd) (T : Txt K mg) (K_Term_read : CalCm P w K mg base A.cTerm "read" 7 2 (G_Term_read K A))
    (X_ParseError_line : ErF K A.cParseError "line")
    (g_Term : mg "Term" = some (.ref A.cTerm))
    (g_InvalidTerm : mg "InvalidTerm" = some (.ref A.cInvalidTerm))
    (g_ParseError : mg "ParseError" = some (.ref A.cParseError)) : FnOk P w K mg base (L2.CX P w) 8 f fd ps_told (spD K 1 (G_told K A)) := by
  have nd := sc_told.nd
  exact fn_d (k := 7) F sc_told rfl (fun cdv Ar outer s H E W0 hr => (d_sone (d_try rfl rfl nd (takes_of rfl rfl rfl rfl) (fun E' pn xe tk po => (d_sone (d_ret (d_cmeth K_Term_read (hr.mono (by first | decide | omega)) (passes_call tk fun _ _ _ _ h => h) (pe_gref rfl g_Term) (d_cons (d_var (pv 0)) d_nil))))) (.cons (q := ⟨A.cParseError, some 1, fun x a cls d => (sRet (fOp RAdd (fC (.str "parse ")) (fCB RRepr (fCons (fXf cls d A.cParseError a "line" (fVar 1)) fNil))))⟩) ⟨rfl, rfl, Or.inl g_ParseError⟩ ⟨rfl, rfl⟩ (fun a ob cls d pn hz hf x => (d_sone (d_ret (d_op (op_addA (K := K)) s_add (d_t (d_str pe_str)) (d_t (d_cb c_repr s_repr (by rfl) T.z_repr (by decide +kernel) (d_consT (d_t (d_xf (K := K) X_ParseError_line.xf X_ParseError_line.no hz hf (d_var (pv 1)))) d_nilT))))))) (.cons (q := ⟨A.cInvalidTerm, none, fun x a cls d => (sRet (fC (.str "term")))⟩) ⟨rfl, rfl, Or.inl g_InvalidTerm⟩ trivial (fun a ob cls d pn hz hf x => (d_sone (d_ret (d_str pe_str)))) .nil))))) fun _ _ _ _ h => h
abbrev s_right : Stmt := top 55
abbrev nm_right : List Str := ["_law_dice_here", "_law_term_here", "_law_text_here", "_law_turn", "_law_near", "_law_due_here", "_law_told_here"]
abbrev ps_right : List Str := ["_law_dice_here"]
theorem sc_right : FnScope nm_right ps_right (defScope s_right) := ⟨rfl, rfl, rfl, by decide +kernel, rfl, by decide +kernel, by decide +kernel⟩
def S_right (K : PySem.W.Frag) (A : Adr) : FS :=
  (sSeq (sAsg 1 (fCall (G_drawn_term K A) 2 (fCons (fVar 0) (fCons (fC (.int 3)) fNil))))
      (sSeq (sAsg 2 (fCall (G_text K A 8) 1 (fCons (fVar 1) fNil)))
      (sSeq (sIf (fOr (fTst (fOp RNe (fProp A.cTerm (G_Term_text K A) (fCall (G_made_term K A) 1 (fCons (fVar 1) fNil))) (fVarT 2))) (fTst (fOp (RMetO A.cTerm (G_Term_eq K A) true) (fCall (G_told K A) 1 (fCons (fVar 2) fNil)) (fCall (G_made_term K A) 1 (fCons (fVar 1) fNil))))) (sRet (fC (.bl false))) sNext)
      (sSeq (sFor (fRng1 (fCons (fC (.int 8)) fNil)) (gN 3) (sSeq (sAsg 4 (fCall (G_bent K A) 2 (fCons (fVar 0) (fCons (fIf (fTst (fOp RGt (fCall (G_roll K A) 2 (fCons (fVar 0) (fCons (fC (.int 3)) fNil))) (fC (.int 0)))) (fVar 2) (fCall (G_bent K A) 2 (fCons (fVar 0) (fCons (fVar 2) fNil)))) fNil))))
      (sSeq (sPar 5 6 (fCons (fCall (G_due K A) 1 (fCons (fVar 4) fNil)) (fCons (fCall (G_told K A) 1 (fCons (fVar 4) fNil)) fNil)))
      (sSeq (sIf (fAnd (fTst (fIsi K "str" (fVarT 5))) (fTst (fOp RNe (fVarT 6) (fVarT 5)))) (sRet (fC (.bl false))) sNext)
      (sIf (fAnd (fTst (fIsi K "tuple" (fVarT 5))) (fOr (fTst (fOp (RMetO A.cTerm (G_Term_eq K A) true) (fVarT 6) (fCall (G_made_term K A) 1 (fCons (fVar 5) fNil)))) (fTst (fOp RNe (fProp A.cTerm (G_Term_text K A) (fVar 6)) (fVarT 4))))) (sRet (fC (.bl false))) sNext)))))
      (sRet (fC (.bl true)))))))
def G_right (K : PySem.W.Frag) (A : Adr) : Fn := fnS 7 (S_right K A)
theorem ok_right {f : Addr} {fd : FuncData} (F : Fun K "_law_right" "_law_right" s_right f fd) (T : Txt K mg) (C_drawn_term : CalF P w K mg base "_law_drawn_term" 63 2 (G_drawn_term K A))
    (C_text : CalF P w K mg base "_law_text" 8 1 (G_text K A 8))
    (C_told : CalF P w K mg base "_law_told" 8 1 (G_told K A))
    (C_made_term : CalF P w K mg base "_law_made_term" 62 1 (G_made_term K A))
    (C_bent : CalF P w K mg base "_law_bent" 3 2 (G_bent K A))
    (C_roll : CalF P w K mg base "_law_roll" 1 2 (G_roll K A))
    (C_due : CalF P w K mg base "_law_due" 62 1 (G_due K A))
    (P_Term_text : CalP P w K mg base A.cTerm "text" 42 (G_Term_text K A))
    (Q_Term : CalE P w K mg base A.cTerm 1 (G_Term_eq K A)) : FnOk P w K mg base (L2.CX P w) 64 f fd ps_right (spD K 1 (G_right K A)) := by
  have nd := sc_right.nd
  exact fn_d (k := 63) F sc_right rfl (fun cdv Ar outer s H E W0 hr => (d_seq (d_asg (d_call C_drawn_term (hr.mono (by first | decide | omega)) rfl (passes_call (takes_of rfl rfl rfl rfl) fun _ _ _ _ h => h) (d_cons (d_var (pv 0)) (d_cons (d_int pe_int) d_nil))) (pg_name (i := 1) nd rfl (Or.inl rfl)))
      (d_seq (d_asg (d_call C_text (hr.mono (by first | decide | omega)) rfl (passes_call (takes_of rfl rfl rfl rfl) fun _ _ _ _ h => h) (d_cons (d_var (pv 1)) d_nil)) (pg_name (i := 2) nd rfl (Or.inl rfl)))
      (d_seq (d_ifs (PW.pt (d_or (d_tcmp (op_neA (K := K) hr.units) s_ne (d_t (d_prop P_Term_text (hr.mono (by first | decide | omega)) (d_call C_made_term (hr.mono (by first | decide | omega)) rfl (passes_call (takes_of rfl rfl rfl rfl) fun _ _ _ _ h => h) (d_cons (d_var (pv 1)) d_nil)) rfl)) (d_varT (pv 2)) (nomark _)) (d_or1 (d_tcmp (op_neM (K := K) Q_Term (hr.mono (by first | decide | omega))) s_met (d_t (d_call C_told (hr.mono (by first | decide | omega)) rfl (passes_call (takes_of rfl rfl rfl rfl) fun _ _ _ _ h => h) (d_cons (d_var (pv 2)) d_nil))) (d_t (d_call C_made_term (hr.mono (by first | decide | omega)) rfl (passes_call (takes_of rfl rfl rfl rfl) fun _ _ _ _ h => h) (d_cons (d_var (pv 1)) d_nil))) (nomark _))))) (d_sone (d_ret (d_bl pe_bl))) d_snil)
      (d_seq (d_for (vs := [3]) (passes_of rfl) rfl (d_rng1 rfl T.z_range (d_cons (d_int pe_int) d_nil)) (pg_name (i := 3) nd rfl (Or.inl rfl)) (g_name (by decide)) (d_seq (d_asg (d_call C_bent (hr.mono (by first | decide | omega)) rfl (passes_call (takes_of rfl rfl rfl rfl) fun _ _ _ _ h => h) (d_cons (d_var (pv 0)) (d_cons (d_if (d_tcmp op_gt s_gt (d_t (d_call C_roll (hr.mono (by first | decide | omega)) rfl (passes_call (takes_of rfl rfl rfl rfl) fun _ _ _ _ h => h) (d_cons (d_var (pv 0)) (d_cons (d_int pe_int) d_nil)))) (d_t (d_int pe_int)) (nomark _)) (d_var (pv 2)) (d_call C_bent (hr.mono (by first | decide | omega)) rfl (passes_call (takes_of rfl rfl rfl rfl) fun _ _ _ _ h => h) (d_cons (d_var (pv 0)) (d_cons (d_var (pv 2)) d_nil)))) d_nil))) (pg_name (i := 4) nd rfl (Or.inl rfl)))
      (d_seq (d_par (ps_par (i := 5) (j := 6) (by rfl) nd rfl rfl (by decide) rfl rfl (d_cons (d_call C_due (hr.mono (by first | decide | omega)) rfl (passes_call (takes_of rfl rfl rfl rfl) fun _ _ _ _ h => h) (d_cons (d_var (pv 4)) d_nil)) (d_cons (d_call C_told (hr.mono (by first | decide | omega)) rfl (passes_call (takes_of rfl rfl rfl rfl) fun _ _ _ _ h => h) (d_cons (d_var (pv 4)) d_nil)) d_nil)) (by rfl)))
      (d_seq (d_ifs (PW.pt (d_and (d_test (d_isi (K := K) (by decide) rfl T.z_isinstance (d_varT (pv 5)) (pe_ty "str" (by rfl) T.z_str (by decide +kernel)))) (d_and1 (d_tcmp (op_neA (K := K) hr.units) s_ne (d_varT (pv 6)) (d_varT (pv 5)) (nomark _))))) (d_sone (d_ret (d_bl pe_bl))) d_snil)
      (d_sone (d_ifs (PW.pt (d_and (d_test (d_isi (K := K) (by decide) rfl T.z_isinstance (d_varT (pv 5)) (pe_ty "tuple" (by rfl) T.z_tuple (by decide +kernel)))) (d_and1 (PW.pt (d_or (d_tcmp (op_neM (K := K) Q_Term (hr.mono (by first | decide | omega))) s_met (d_varT (pv 6)) (d_t (d_call C_made_term (hr.mono (by first | decide | omega)) rfl (passes_call (takes_of rfl rfl rfl rfl) fun _ _ _ _ h => h) (d_cons (d_var (pv 5)) d_nil))) (nomark _)) (d_or1 (d_tcmp (op_neA (K := K) hr.units) s_ne (d_t (d_prop P_Term_text (hr.mono (by first | decide | omega)) (d_var (pv 6)) rfl)) (d_varT (pv 4)) (nomark _)))))))) (d_sone (d_ret (d_bl pe_bl))) d_snil))))))
      (d_sone (d_ret (d_bl pe_bl)))))))) fun _ _ _ _ h => h
abbrev s_law : Stmt := top 56
abbrev nm_law : List Str := ["_law_script", "_law_spot", "_law_dice_here", "_law_turn", "_law_some", "_law_told_here", "_law_text_here"]
abbrev ps_law : List Str := ["_law_script"]
theorem sc_law : FnScope nm_law ps_law (defScope s_law) := ⟨rfl, rfl, rfl, by decide +kernel, rfl, by decide +kernel, by decide +kernel⟩
def S_law (K : PySem.W.Frag) (A : Adr) : FS :=
  (sSeq (sFor (fRng1 (fCons (fCB RMax2 (fCons (fC (.int 1)) (fCons (fCB RMin2 (fCons (fC (.int 6)) (fCons (fCB RLen (fCons (fVarT 0) fNil)) fNil))) fNil))) fNil)) (gN 1) (sSeq (sAsg 2 (fCall (G_dice K A) 2 (fCons (fVar 0) (fCons (fVar 1) fNil))))
      (sFor (fRng1 (fCons (fC (.int 5)) fNil)) (gN 3) (sIf (fNot (fTst (fCall (G_right K A) 1 (fCons (fVar 2) fNil)))) (sRet (fC (.bl false))) sNext))))
      (sSeq (sAsg 4 (fNew (fLst (fCons (fC (.str "f(a, f)")) (fCons (fC (.str "f()")) (fCons (fC (.str "_(a)")) (fCons (fC (.str "f(a,b)")) (fCons (fC (.str "f(a, b, c, d)")) (fCons (fC (.str "")) (fCons (fC (.str " a")) (fCons (fC (.str "f(a")) (fCons (fC (.str "a)")) (fCons (fC (.str "f((a))")) (fCons (fC (.str "#")) (fCons (fC (.str "f(_, #)")) fNil)))))))))))))))
      (sSeq (sAsg 5 (fNew (fLc (fIt (fVarT 4)) (gN 6) fYes (fIsi K "str" (fCall (G_told K A) 1 (fCons (fVar 6) fNil))) [6])))
      (sRet (fAndV (fOp REq (fVarT 5) (fOp RAdd (fOp RRep (fNew (fLst (fCons (fC (.bl true)) fNil))) (fC (.int 10))) (fNew (fLst (fCons (fC (.bl false)) (fCons (fC (.bl false)) fNil)))))) (fOp REq (fNew (fLst (fCons (fCall (G_told K A) 1 (fCons (fC (.str "f(a, f)")) fNil)) (fCons (fCall (G_told K A) 1 (fCons (fC (.str "f()")) fNil)) fNil)))) (fNew (fLst (fCons (fC (.str "term")) (fCons (fC (.str "parse None")) fNil))))))))))
def G_law (K : PySem.W.Frag) (A : Adr) : Fn := fnS 7 (S_law K A)
theorem ok_law {f : Addr} {fd : FuncData} (F : Fun K "law" "law" s_law f fd) (T : Txt K mg) (C_dice : CalF P w K mg base "_law_dice" 1 2 (G_dice K A))
    (C_right : CalF P w K mg base "_law_right" 64 1 (G_right K A))
    (C_told : CalF P w K mg base "_law_told" 8 1 (G_told K A)) : FnOk P w K mg base (L2.CX P w) 65 f fd ps_law (spD K 1 (G_law K A)) := by
  have nd := sc_law.nd
  exact fn_d (k := 64) F sc_law rfl (fun cdv Ar outer s H E W0 hr => (d_seq (d_for (vs := [1]) (passes_of rfl) rfl (d_rng1 rfl T.z_range (d_cons (d_cb (call_max2 rfl) s_max2 (by rfl) T.z_max (by decide +kernel) (d_consT (d_t (d_int pe_int)) (d_consT (d_t (d_cb (call_min2 rfl) s_min2 (by rfl) T.z_min (by decide +kernel) (d_consT (d_t (d_int pe_int)) (d_consT (d_t (d_cb (c_len (K := K)) s_len (by rfl) T.z_len (by decide +kernel) (d_consT (d_varT (pv 0)) d_nilT))) d_nilT)))) d_nilT))) d_nil)) (pg_name (i := 1) nd rfl (Or.inl rfl)) (g_name (by decide)) (d_seq (d_asg (d_call C_dice (hr.mono (by first | decide | omega)) rfl (passes_call (takes_of rfl rfl rfl rfl) fun _ _ _ _ h => h) (d_cons (d_var (pv 0)) (d_cons (d_var (pv 1)) d_nil))) (pg_name (i := 2) nd rfl (Or.inl rfl)))
      (d_sone (d_for (vs := [3]) (passes_of rfl) rfl (d_rng1 rfl T.z_range (d_cons (d_int pe_int) d_nil)) (pg_name (i := 3) nd rfl (Or.inl rfl)) (g_name (by decide)) (d_sone (d_ifs (d_not (d_test (d_call C_right (hr.mono (by first | decide | omega)) rfl (passes_call (takes_of rfl rfl rfl rfl) fun _ _ _ _ h => h) (d_cons (d_var (pv 2)) d_nil)))) (d_sone (d_ret (d_bl pe_bl))) d_snil))))))
      (d_seq (d_asg (d_n (d_lst (d_cons (d_str pe_str) (d_cons (d_str pe_str) (d_cons (d_str pe_str) (d_cons (d_str pe_str) (d_cons (d_str pe_str) (d_cons (d_str pe_str) (d_cons (d_str pe_str) (d_cons (d_str pe_str) (d_cons (d_str pe_str) (d_cons (d_str pe_str) (d_cons (d_str pe_str) (d_cons (d_str pe_str) d_nil)))))))))))))) (pg_name (i := 4) nd rfl (Or.inl rfl)))
      (d_seq (d_setLcV (g_name (by decide)) (ps_setLc (i := 5) (own := [("_law_text_here", 6)]) (by rfl) nd rfl rfl (sw_true rfl rfl rfl (by decide +kernel)) (d_itC (K := K) (d_varT (pv 4))) (blkOk_by (own := [("_law_text_here", 6)]) (N := nm_law) (sc := defScope s_law) (by decide +kernel)) (fun _ _ _ _ _ => (pg_name (i := 6) nd rfl (Or.inl rfl))) (fun _ _ _ _ _ => d_pts0) (fun _ _ _ _ _ => (d_isi (K := K) (by decide) rfl T.z_isinstance (d_t (d_call C_told (hr.mono (by first | decide | omega)) rfl passL (d_cons (d_var (pv 6)) d_nil))) (pe_ty "str" (by rfl) T.z_str (by decide +kernel))))))
      (d_sone (d_ret (d_andV (d_cmp (op_eqA (K := K) hr.units) s_eq (d_varT (pv 5)) (d_t (d_op (op_addA (K := K)) s_add (d_t (d_op op_rep s_rep (d_nt (d_lst (d_cons (d_bl pe_bl) d_nil))) (d_t (d_int pe_int)))) (d_nt (d_lst (d_cons (d_bl pe_bl) (d_cons (d_bl pe_bl) d_nil)))))) (nomark _)) (d_one (d_cmp (op_eqA (K := K) hr.units) s_eq (d_nt (d_lst (d_cons (d_call C_told (hr.mono (by first | decide | omega)) rfl (passes_call (takes_of rfl rfl rfl rfl) fun _ _ _ _ h => h) (d_cons (d_str pe_str) d_nil)) (d_cons (d_call C_told (hr.mono (by first | decide | omega)) rfl (passes_call (takes_of rfl rfl rfl rfl) fun _ _ _ _ h => h) (d_cons (d_str pe_str) d_nil)) d_nil)))) (d_nt (d_lst (d_cons (d_str pe_str) (d_cons (d_str pe_str) d_nil)))) (nomark _)))))))))) fun _ _ _ _ h => h
end
end K6

set_option Elab.async false
set_option maxRecDepth 100000
set_option maxHeartbeats 1000000
set_option linter.all false
namespace K6
open PySem PySem.Spec PyProof.Rows L2 Ly Pu TM
theorem lab_in (t : Tr) : ∀ n ∈ t.nodes, (lab n.1).length ≤ t.tx.length ∧ n.2 + 1 ≤ t.size :=
  Tr.rec (motive_1 := fun t => ∀ n ∈ t.nodes, (lab n.1).length ≤ t.tx.length ∧ n.2 + 1 ≤ t.size)
    (motive_2 := fun ts => ∀ n ∈ nodesL ts, (lab n.1).length + 2 ≤ (txR ts).length ∧ n.2 + 1 ≤ (nodesL ts).length)
    (fun w ts ih n hn => by
      have hsz : Tr.size (.nd w ts) = (nodesL ts).length + 1 := rfl
      have hl := lenL ts
      rcases List.mem_cons.mp hn with rfl | hn
      · refine ⟨?_, by rw [hsz]; show ts.length + 1 ≤ _; omega⟩
        cases ts with
        | nil => exact Nat.le_refl _
        | cons t us =>
          show (lab w).length ≤ (lab w ++ 40 :: (t.tx ++ txR us)).length
          rw [List.length_append]
          omega
      · obtain ⟨h1, h2⟩ := ih n hn
        refine ⟨?_, by rw [hsz]; omega⟩
        cases ts with
        | nil => cases hn
        | cons t us =>
          have h1 : (lab n.1).length + 2 ≤ (44 :: 32 :: (t.tx ++ txR us)).length := h1
          show _ ≤ (lab w ++ 40 :: (t.tx ++ txR us)).length
          rw [List.length_cons, List.length_cons] at h1
          rw [List.length_append, List.length_cons]
          omega)
    (fun n hn => by cases hn)
    (fun t ts i1 i2 n hn => by
      have hl : (nodesL (t :: ts)).length = t.nodes.length + (nodesL ts).length := by
        show (t.nodes ++ nodesL ts).length = _
        rw [List.length_append]
      have hx : (txR (t :: ts)).length = t.tx.length + (txR ts).length + 2 := by
        show (44 :: 32 :: (t.tx ++ txR ts)).length = _
        rw [List.length_cons, List.length_cons, List.length_append]
      have hs : t.size = t.nodes.length := rfl
      rcases List.mem_append.mp (show n ∈ t.nodes ++ nodesL ts from hn) with q | q
      · have := i1 n q
        omega
      · have := i2 n q
        omega) t
theorem tok_len (l : List Nat) : ∀ zs : List Str, tokF l = some zs → zs.length ≤ l.length := by
  induction l using tokF.induct with
  | case1 =>
    intro zs e
    rw [tokF] at e
    cases e
    exact Nat.le_refl _
  | case2 c cs h ih =>
    intro zs e
    rw [tokF, if_pos h] at e
    obtain ⟨r, hr, rfl⟩ := Option.map_eq_some_iff.mp e
    have := ih r hr
    have hd := drop_len isL cs
    simp only [List.length_cons]
    omega
  | case3 c cs h h2 ih =>
    intro zs e
    rw [tokF, if_neg h, if_pos h2] at e
    obtain ⟨r, hr, rfl⟩ := Option.map_eq_some_iff.mp e
    have := ih r hr
    rw [List.length_drop] at this
    simp only [List.length_cons]
    omega
  | case4 c cs h h2 h3 ih =>
    intro zs e
    rw [tokF, if_neg h, if_neg h2, if_pos h3] at e
    obtain ⟨r, hr, rfl⟩ := Option.map_eq_some_iff.mp e
    have := ih r hr
    simp only [List.length_cons]
    omega
  | case5 c cs h h2 h3 =>
    intro zs e
    rw [tokF, if_neg h, if_neg h2, if_neg h3] at e
    cases e
theorem all_map {α : Type} (p : α → Bool) : ∀ l : List α, (l.map p).all id = true ↔ ∀ m ∈ l, p m = true
  | [] => ⟨fun _ m hm => (nomatch hm), fun _ => rfl⟩
  | a :: l => by
    rw [List.map_cons, List.all_cons, Bool.and_eq_true, all_map p l]
    constructor
    · rintro ⟨h1, h2⟩ m hm
      rcases List.mem_cons.mp hm with rfl | hm
      · exact h1
      · exact h2 m hm
    · intro h
      exact ⟨h a (List.mem_cons_self ..), fun m hm => h m (List.mem_cons_of_mem _ hm)⟩
def isNd (n : Nd) : Bool := isNode2 (.str n.1) (.int (n.2 : Int))
theorem good_nd {n : Nd} (h1 : isNd n = true) (h2 : n.1.length ≤ 1000) : GoodNd n := ⟨h1, h2⟩
theorem nd_good {n : Nd} (h : GoodNd n) : isNd n = true := h.1
theorem is_nodeB {K : PySem.W.Frag} {A : Adr} {n : Nd} (h : n.1.length ≤ 100000 ∧ n.2 < 1000) {Q : D → Prop} {Z : ZX} (q : Q (.bl (isNd n))) : G_is_node K A [ndDD n] Q Z := is_node h q
/-- the nodes that a text tells -/
def NodOk (Q : D → Prop) : Option (Tr × List Nat) → Prop
  | none => Q .non
  | some (t, r) => if r ≠ [] ∨ 40 < t.size then Q .non else Q (ndsDD t.nodes)
section
variable {K : PySem.W.Frag} {A : Adr}
theorem nodes_of {z : Str} (hz : z.length ≤ 1000) {Q : D → Prop} {Z : ZX} (q : NodOk Q (rd 60 (lab z))) : G_nodes_of K A [.str z] Q Z := by
  unfold G_nodes_of S_nodes_of
  simp only [fnS, Pu.startB, sSeq, sAsg, sIf, sRet, sNext, sNew, sApp, sPar, sDem, demB, fVar, fVarT, fC, fOp, fTst, fAnd, fOr, fNot, fNew, fLst, fTup, fNil, fCons, fSl, oAt, oNo, fCB, fCall, fIf, fChain, fRng1, fIt, fJoin, RLen, RI0, RAdd, RIx, RSl, RIsN, RTuple, RIn, gN, bD, List.map_cons, List.map_nil, List.cons_append, List.nil_append, List.length_cons, List.length_nil, List.replicate, Nat.reduceSub, Nat.reduceAdd, List.getElem?_cons_zero, List.getElem?_cons_succ, List.set_cons_zero, List.set_cons_succ, Option.some.injEq, B.val.injEq, D.int.injEq, D.bl.injEq, D.str.injEq, D.tup.injEq, D.lst.injEq, exists_eq_left', exists_eq_left, exists_and_left, ex_eq, true_and, and_true, List.cons.injEq, fIsi, okI, kdD, kdIs]
  rw [if_pos (by decide)]
  have hzl : (lab z).length ≤ 1000 := by rw [← len_lab]; exact hz
  -- what the reader's nodes come to
  have bad2 : (∀ t, rd 60 (lab z) = some (t, []) → ¬ t.size ≤ 40) → Q .non := fun h => by
    cases e : rd 60 (lab z) with
    | none => rw [e] at q; exact q
    | some p =>
      obtain ⟨t, r⟩ := p
      rw [e] at q
      have q : if r ≠ [] ∨ 40 < t.size then Q .non else Q (ndsDD t.nodes) := q
      by_cases c : r ≠ [] ∨ 40 < t.size
      · rw [if_pos c] at q
        exact q
      · have hr : r = [] := Classical.byContradiction fun z => c (.inl z)
        subst hr
        exact absurd (by omega) (h t e)
  have bad : rawOf (lab z) = none → Q .non := fun h => bad2 fun t e hs => by
    have := (raw_rd e hs).1
    rw [h] at this
    cases this
  refine tokens (z := z) (by omega) ?_
  cases ht : tokF (lab z) with
  | none =>
    simp only [fnS, Pu.startB, sSeq, sAsg, sIf, sRet, sNext, sNew, sApp, sPar, sDem, demB, fVar, fVarT, fC, fOp, fTst, fAnd, fOr, fNot, fNew, fLst, fTup, fNil, fCons, fSl, oAt, oNo, fCB, fCall, fIf, fChain, fRng1, fIt, fJoin, RLen, RI0, RAdd, RIx, RSl, RIsN, RTuple, RIn, gN, bD, List.map_cons, List.map_nil, List.cons_append, List.nil_append, List.length_cons, List.length_nil, List.replicate, Nat.reduceSub, Nat.reduceAdd, List.getElem?_cons_zero, List.getElem?_cons_succ, List.set_cons_zero, List.set_cons_succ, Option.some.injEq, B.val.injEq, D.int.injEq, D.bl.injEq, D.str.injEq, D.tup.injEq, D.lst.injEq, exists_eq_left', exists_eq_left, exists_and_left, ex_eq, true_and, and_true, List.cons.injEq]
    rw [if_pos (by rfl)]
    exact bad (by unfold rawOf; rw [ht]; rfl)
  | some zs =>
    have hl := tok_len _ _ ht
    simp only [fnS, Pu.startB, sSeq, sAsg, sIf, sRet, sNext, sNew, sApp, sPar, sDem, demB, fVar, fVarT, fC, fOp, fTst, fAnd, fOr, fNot, fNew, fLst, fTup, fNil, fCons, fSl, oAt, oNo, fCB, fCall, fIf, fChain, fRng1, fIt, fJoin, RLen, RI0, RAdd, RIx, RSl, RIsN, RTuple, RIn, gN, bD, List.map_cons, List.map_nil, List.cons_append, List.nil_append, List.length_cons, List.length_nil, List.replicate, Nat.reduceSub, Nat.reduceAdd, List.getElem?_cons_zero, List.getElem?_cons_succ, List.set_cons_zero, List.set_cons_succ, Option.some.injEq, B.val.injEq, D.int.injEq, D.bl.injEq, D.str.injEq, D.tup.injEq, D.lst.injEq, exists_eq_left', exists_eq_left, exists_and_left, ex_eq, true_and, and_true, List.cons.injEq]
    rw [if_neg (fun h => by cases h)]
    refine ⟨zs, rfl, by omega, rfl, ?_⟩
    cases hr : runF rs0 zs with
    | none => exact bad (by unfold rawOf; rw [ht]; show (runF rs0 zs).bind _ = none; rw [hr]; rfl)
    | some s =>
      have hraw : rawOf (lab z) = if s.wants = true ∨ s.opn ≠ [] ∨ 40 < s.nodes.length then none else some s.nodes := by
        unfold rawOf
        rw [ht]
        show (runF rs0 zs).bind _ = _
        rw [hr]
        rfl
      show if s.wants = true ∨ s.opn ≠ [] ∨ 40 < s.nodes.length then Q .non else _
      by_cases c : s.wants = true ∨ s.opn ≠ [] ∨ 40 < s.nodes.length
      · rw [if_pos c]
        rw [if_pos c] at hraw
        exact bad hraw
      · rw [if_neg c]
        rw [if_neg c] at hraw
        obtain ⟨t, h1, h2, h3⟩ := raw_sound hraw
        rw [h2] at hraw ⊢
        have hsz : t.nodes.length ≤ 40 := h3
        have hin := lab_in t
        rw [← h1] at hin
        unfold ndsDD
        simp only [fnS, Pu.startB, sSeq, sAsg, sIf, sRet, sNext, sNew, sApp, sPar, sDem, demB, fVar, fVarT, fC, fOp, fTst, fAnd, fOr, fNot, fNew, fLst, fTup, fNil, fCons, fSl, oAt, oNo, fCB, fCall, fIf, fChain, fRng1, fIt, fJoin, RLen, RI0, RAdd, RIx, RSl, RIsN, RTuple, RIn, gN, bD, List.map_cons, List.map_nil, List.cons_append, List.nil_append, List.length_cons, List.length_nil, List.replicate, Nat.reduceSub, Nat.reduceAdd, List.getElem?_cons_zero, List.getElem?_cons_succ, List.set_cons_zero, List.set_cons_succ, Option.some.injEq, B.val.injEq, D.int.injEq, D.bl.injEq, D.str.injEq, D.tup.injEq, D.lst.injEq, exists_eq_left', exists_eq_left, exists_and_left, ex_eq, true_and, and_true, List.cons.injEq, fLc, itD, RAll, wipeB, RNotN]
        refine ⟨by rw [List.length_map, sizeLine_eq]; omega, ?_⟩
        refine lc_map (f := fun n => D.bl (isNd n)) t.nodes (fun n hn R r => ?_) ?_
        · simp only [fnS, Pu.startB, sSeq, sAsg, sIf, sRet, sNext, sNew, sApp, sPar, sDem, demB, fVar, fVarT, fC, fOp, fTst, fAnd, fOr, fNot, fNew, fLst, fTup, fNil, fCons, fSl, oAt, oNo, fCB, fCall, fIf, fChain, fRng1, fIt, fJoin, RLen, RI0, RAdd, RIx, RSl, RIsN, RTuple, RIn, gN, bD, List.map_cons, List.map_nil, List.cons_append, List.nil_append, List.length_cons, List.length_nil, List.replicate, Nat.reduceSub, Nat.reduceAdd, List.getElem?_cons_zero, List.getElem?_cons_succ, List.set_cons_zero, List.set_cons_succ, Option.some.injEq, B.val.injEq, D.int.injEq, D.bl.injEq, D.str.injEq, D.tup.injEq, D.lst.injEq, exists_eq_left', exists_eq_left, exists_and_left, ex_eq, true_and, and_true, List.cons.injEq, wipeB]
          have := hin n hn
          exact is_nodeB ⟨by rw [len_lab]; omega, by omega⟩ r
        · refine ⟨_, bls_map isNd t.nodes, ?_⟩
          by_cases hall : (t.nodes.map isNd).all id = true
          · rw [if_pos hall]
            have hg : ∀ m ∈ t.nodes, GoodNd m := fun m hm => good_nd ((all_map isNd t.nodes).mp hall m hm) (by have := hin m hm; rw [len_lab]; omega)
            obtain ⟨t', e, hn, hs, _, _⟩ := rd_raw hraw hg
            rw [e] at q
            have q : if ([] : List Nat) ≠ [] ∨ 40 < t'.size then Q .non else Q (ndsDD t'.nodes) := q
            rw [if_neg (fun h => Or.elim h (fun h => h rfl) (fun h => by omega)), ← hn] at q
            refine children_of (nds := t.nodes) (by omega) ?_
            rw [t.chOf]
            show if (!isN (D.lst _)) = true then _ else _
            rw [if_pos (by rfl)]
            exact q
          · rw [if_neg hall]
            refine bad2 fun t' e hs => hall ((all_map isNd t.nodes).mpr fun m hm => ?_)
            obtain ⟨e1, hg, _⟩ := raw_rd e hs
            rw [hraw] at e1
            have e1 := Option.some.inj e1
            rw [e1] at hm
            exact nd_good (hg m hm)
def ReadOk (A : Adr) (Q : D → Prop) (Z : ZX) : Option (Tr × List Nat) → Prop
  | none => Z (.kept A.cParseError ["line"] [.non])
  | some (t, r) => if r ≠ [] ∨ 40 < t.size then Z (.kept A.cParseError ["line"] [.non]) else match arF t.nodes [] with | none => Z (.bare A.cInvalidTerm) | some _ => ∀ l, Q (tmD A t l)
theorem read_term (TC : TK K A) {z : Str} (hz : z.length ≤ 1000) {Q : D → Prop} {Z : ZX} (q : ReadOk A Q Z (rd 60 (lab z))) : G_Term_read K A [.cls A.cTerm, .str z] Q Z := by
  unfold G_Term_read S_Term_read
  simp only [fnS, Pu.startB, sSeq, sAsg, sIf, sRet, sNext, sNew, sApp, sPar, sDem, demB, fVar, fVarT, fC, fOp, fTst, fAnd, fOr, fNot, fNew, fLst, fTup, fNil, fCons, fSl, oAt, oNo, fCB, fCall, fIf, fChain, fRng1, fIt, fJoin, RLen, RI0, RAdd, RIx, RSl, RIsN, RTuple, RIn, gN, bD, List.map_cons, List.map_nil, List.cons_append, List.nil_append, List.length_cons, List.length_nil, List.replicate, Nat.reduceSub, Nat.reduceAdd, List.getElem?_cons_zero, List.getElem?_cons_succ, List.set_cons_zero, List.set_cons_succ, Option.some.injEq, B.val.injEq, D.int.injEq, D.bl.injEq, D.str.injEq, D.tup.injEq, D.lst.injEq, exists_eq_left', exists_eq_left, exists_and_left, ex_eq, true_and, and_true, List.cons.injEq, sRaiseK, fMkL]
  refine nodes_of hz ?_
  cases e : rd 60 (lab z) with
  | none =>
    rw [e] at q
    show _
    unfold NodOk
    simp only [fnS, Pu.startB, sSeq, sAsg, sIf, sRet, sNext, sNew, sApp, sPar, sDem, demB, fVar, fVarT, fC, fOp, fTst, fAnd, fOr, fNot, fNew, fLst, fTup, fNil, fCons, fSl, oAt, oNo, fCB, fCall, fIf, fChain, fRng1, fIt, fJoin, RLen, RI0, RAdd, RIx, RSl, RIsN, RTuple, RIn, gN, bD, List.map_cons, List.map_nil, List.cons_append, List.nil_append, List.length_cons, List.length_nil, List.replicate, Nat.reduceSub, Nat.reduceAdd, List.getElem?_cons_zero, List.getElem?_cons_succ, List.set_cons_zero, List.set_cons_succ, Option.some.injEq, B.val.injEq, D.int.injEq, D.bl.injEq, D.str.injEq, D.tup.injEq, D.lst.injEq, exists_eq_left', exists_eq_left, exists_and_left, ex_eq, true_and, and_true, List.cons.injEq]
    rw [if_pos (by rfl)]
    exact q
  | some p =>
    obtain ⟨t, r⟩ := p
    rw [e] at q
    have q : if r ≠ [] ∨ 40 < t.size then Z (.kept A.cParseError ["line"] [.non]) else match arF t.nodes [] with | none => Z (.bare A.cInvalidTerm) | some _ => ∀ l, Q (tmD A t l) := q
    unfold NodOk
    by_cases c : r ≠ [] ∨ 40 < t.size
    · rw [if_pos c] at q
      show if r ≠ [] ∨ 40 < t.size then _ else _
      rw [if_pos c]
      simp only [fnS, Pu.startB, sSeq, sAsg, sIf, sRet, sNext, sNew, sApp, sPar, sDem, demB, fVar, fVarT, fC, fOp, fTst, fAnd, fOr, fNot, fNew, fLst, fTup, fNil, fCons, fSl, oAt, oNo, fCB, fCall, fIf, fChain, fRng1, fIt, fJoin, RLen, RI0, RAdd, RIx, RSl, RIsN, RTuple, RIn, gN, bD, List.map_cons, List.map_nil, List.cons_append, List.nil_append, List.length_cons, List.length_nil, List.replicate, Nat.reduceSub, Nat.reduceAdd, List.getElem?_cons_zero, List.getElem?_cons_succ, List.set_cons_zero, List.set_cons_succ, Option.some.injEq, B.val.injEq, D.int.injEq, D.bl.injEq, D.str.injEq, D.tup.injEq, D.lst.injEq, exists_eq_left', exists_eq_left, exists_and_left, ex_eq, true_and, and_true, List.cons.injEq]
      rw [if_pos (by rfl)]
      exact q
    · rw [if_neg c] at q
      show if r ≠ [] ∨ 40 < t.size then _ else _
      rw [if_neg c]
      simp only [fnS, Pu.startB, sSeq, sAsg, sIf, sRet, sNext, sNew, sApp, sPar, sDem, demB, fVar, fVarT, fC, fOp, fTst, fAnd, fOr, fNot, fNew, fLst, fTup, fNil, fCons, fSl, oAt, oNo, fCB, fCall, fIf, fChain, fRng1, fIt, fJoin, RLen, RI0, RAdd, RIx, RSl, RIsN, RTuple, RIn, gN, bD, List.map_cons, List.map_nil, List.cons_append, List.nil_append, List.length_cons, List.length_nil, List.replicate, Nat.reduceSub, Nat.reduceAdd, List.getElem?_cons_zero, List.getElem?_cons_succ, List.set_cons_zero, List.set_cons_succ, Option.some.injEq, B.val.injEq, D.int.injEq, D.bl.injEq, D.str.injEq, D.tup.injEq, D.lst.injEq, exists_eq_left', exists_eq_left, exists_and_left, ex_eq, true_and, and_true, List.cons.injEq]
      rw [if_neg (fun h => by cases h)]
      exact term_init TC (rd_sound 60 _ _ _ e).2 (by omega) q
structure EK (K : PySem.W.Frag) (A : Adr) : Prop where
  pp : PySem.W.exmOne K (.ref A.cParseError) (.ref A.cParseError) = some true
  ip : PySem.W.exmOne K (.ref A.cInvalidTerm) (.ref A.cParseError) = some false
  ii : PySem.W.exmOne K (.ref A.cInvalidTerm) (.ref A.cInvalidTerm) = some true
def TolOk (A : Adr) (Q : D → Prop) : Option (Tr × List Nat) → Prop
  | none => Q (.str "parse None")
  | some (t, r) => if r ≠ [] ∨ 40 < t.size then Q (.str "parse None") else if (arF t.nodes []).isSome = true then ∀ l, Q (tmD A t l) else Q (.str "term")
theorem told (TC : TK K A) (EC : EK K A) {z : Str} (hz : z.length ≤ 1000) {Q : D → Prop} {Z : ZX} (q : TolOk A Q (rd 60 (lab z))) : G_told K A [.str z] Q Z := by
  unfold G_told S_told
  simp only [fnS, Pu.startB, sSeq, sAsg, sIf, sRet, sNext, sNew, sApp, sPar, sDem, demB, fVar, fVarT, fC, fOp, fTst, fAnd, fOr, fNot, fNew, fLst, fTup, fNil, fCons, fSl, oAt, oNo, fCB, fCall, fIf, fChain, fRng1, fIt, fJoin, RLen, RI0, RAdd, RIx, RSl, RIsN, RTuple, RIn, gN, bD, List.map_cons, List.map_nil, List.cons_append, List.nil_append, List.length_cons, List.length_nil, List.replicate, Nat.reduceSub, Nat.reduceAdd, List.getElem?_cons_zero, List.getElem?_cons_succ, List.set_cons_zero, List.set_cons_succ, Option.some.injEq, B.val.injEq, D.int.injEq, D.bl.injEq, D.str.injEq, D.tup.injEq, D.lst.injEq, exists_eq_left', exists_eq_left, exists_and_left, ex_eq, true_and, and_true, List.cons.injEq, sTry, fCmeth]
  refine read_term TC hz ?_
  have hp : ∀ {X : ZX}, Q (.str "parse None") → hchain K 2 { nx := fun _ => Q .non, rt := Q, ex := Z } [⟨A.cParseError, some 1, fun x a cls d => (sRet (fOp RAdd (fC (.str "parse ")) (fCB RRepr (fCons (fXf cls d A.cParseError a "line" (fVar 1)) fNil))))⟩, ⟨A.cInvalidTerm, none, fun x a cls d => (sRet (fC (.str "term")))⟩] (.kept A.cParseError ["line"] [.non]) := fun q => by
    refine ⟨true, EC.pp, ?_⟩
    rw [if_pos rfl]
    rintro a cls d ⟨hc, dd, rfl⟩
    subst hc
    refine ⟨_, rfl, dd, _, _, .non, rfl, rfl, rfl, rfl, ?_⟩
    exact .inl ⟨rfl, by decide, q⟩
  have hi : Q (.str "term") → hchain K 2 { nx := fun _ => Q .non, rt := Q, ex := Z } [⟨A.cParseError, some 1, fun x a cls d => (sRet (fOp RAdd (fC (.str "parse ")) (fCB RRepr (fCons (fXf cls d A.cParseError a "line" (fVar 1)) fNil))))⟩, ⟨A.cInvalidTerm, none, fun x a cls d => (sRet (fC (.str "term")))⟩] (.bare A.cInvalidTerm) := fun q => by
    refine ⟨false, EC.ip, ?_⟩
    rw [if_neg (by decide)]
    refine ⟨true, EC.ii, ?_⟩
    rw [if_pos rfl]
    exact fun a cls d _ => q
  cases e : rd 60 (lab z) with
  | none =>
    rw [e] at q
    exact hp (X := Z) q
  | some p =>
    obtain ⟨t, r⟩ := p
    rw [e] at q
    have q : if r ≠ [] ∨ 40 < t.size then Q (.str "parse None") else if (arF t.nodes []).isSome = true then ∀ l, Q (tmD A t l) else Q (.str "term") := q
    show if r ≠ [] ∨ 40 < t.size then _ else _
    by_cases c : r ≠ [] ∨ 40 < t.size
    · rw [if_pos c] at q ⊢
      exact hp (X := Z) q
    · rw [if_neg c] at q ⊢
      cases ha : arF t.nodes [] with
      | none =>
        rw [ha] at q
        exact hi q
      | some l' =>
        rw [ha] at q
        exact q
end
end K6

set_option Elab.async false
set_option maxRecDepth 100000
set_option maxHeartbeats 1000000
set_option linter.all false
namespace K6
open PySem PySem.Spec PyProof.Rows L2 Ly Pu TM
theorem for_keep {j : Nat} {S : FS} {De : EndsD} (I : Pu.Env → Prop) (hs : ∀ (d : D) (ρ : Pu.Env) (D' : EndsD), I ρ → (∀ ρ', I ρ' → D'.nx ρ') → D'.rt = De.rt → D'.ex = De.ex → S (ρ.set j (.val d)) D') (hd : ∀ ρ, I ρ → De.nx ρ) : ∀ (ds : List D) (ρ : Pu.Env), I ρ → forD (gN j) S ds ρ De
  | [], ρ, h => hd ρ h
  | d :: ds, ρ, h => hs d ρ _ h (fun ρ' h' => for_keep I hs hd ds ρ' h') rfl rfl
theorem ne_str {x y : Str} {Q : D → Prop} (q : Q (.bl (!decide (x = y)))) : RNe (.str x) (.str y) Q := q
theorem rd_text {t : Tr} (h : GoodT t) (hs : t.size ≤ 40) : rd 60 (lab t.text) = some (t, []) := by
  rw [tx_text]
  have q := t.rd_tx 60 [] h (Nat.lt_of_lt_of_le (ht_lt t) (by omega)) (fun c hc => by cases hc)
  rw [List.append_nil] at q
  exact q
theorem text_len {t : Tr} (h : GoodT t) (hs : t.size ≤ 40) : t.text.length ≤ 518 ∧ cnt (lab t.text) ≤ 39 := by
  rw [len_lab, tx_text]
  have h8 : t.All (fun w => w.length ≤ 8) := labs100.all_of_nodes (fun n hn => by
    rcases ((good_iff n.1 n.2).mp (h n hn)).2 with q | ⟨q | q, _⟩
    · rw [len_lab]; have := q.2.1; omega
    · rw [len_lab, q]; decide
    · rw [len_lab, q]; decide)
  have h1 := len_tx t h8
  have h2 := cnt_tx t (labAll t h)
  omega
section
variable {K : PySem.W.Frag} {A : Adr}
def I6 (t : Tr) (ρ : Pu.Env) : Prop := ∃ o3 o4 o5 o6, ρ = [.val .dice, .val (trD t), .val (.str t.text), o3, o4, o5, o6]
def tailB (K : PySem.W.Frag) (A : Adr) : FS := (sSeq (sIf (fAnd (fTst (fIsi K "str" (fVarT 5))) (fTst (fOp RNe (fVarT 6) (fVarT 5)))) (sRet (fC (.bl false))) sNext)
      (sIf (fAnd (fTst (fIsi K "tuple" (fVarT 5))) (fOr (fTst (fOp (RMetO A.cTerm (G_Term_eq K A) true) (fVarT 6) (fCall (G_made_term K A) 1 (fCons (fVar 5) fNil)))) (fTst (fOp RNe (fProp A.cTerm (G_Term_text K A) (fVar 6)) (fVarT 4))))) (sRet (fC (.bl false))) sNext))
theorem turn (TC : TK K A) (EC : EK K A) {t : Tr} (hg : GoodT t) (hs : t.size ≤ 40) {z : Str} (hz : z.length ≤ 1000) (hc : cnt (lab z) < 60) {De : EndsD} {o3 o5 o6 : B} (k : ∀ ρ, I6 t ρ → De.nx ρ) :
    (sSeq (sPar 5 6 (fCons (fCall (G_due K A) 1 (fCons (fVar 4) fNil)) (fCons (fCall (G_told K A) 1 (fCons (fVar 4) fNil)) fNil)))
      (tailB K A))
      [.val .dice, .val (trD t), .val (.str t.text), o3, .val (.str z), o5, o6] De := by
  have hstr : ∀ y : Str, (tailB K A)
      [.val .dice, .val (trD t), .val (.str t.text), o3, .val (.str z), .val (.str y), .val (.str y)] De := fun y => by
    unfold tailB
    simp only [fnS, Pu.startB, sSeq, sAsg, sIf, sRet, sNext, sNew, sApp, sPar, sDem, demB, fVar, fVarT, fC, fOp, fTst, fAnd, fOr, fNot, fNew, fLst, fTup, fNil, fCons, fSl, oAt, oNo, fCB, fCall, fIf, fChain, fRng1, fIt, fJoin, RLen, RI0, RAdd, RIx, RSl, RIsN, RTuple, RIn, gN, bD, List.map_cons, List.map_nil, List.cons_append, List.nil_append, List.length_cons, List.length_nil, List.replicate, Nat.reduceSub, Nat.reduceAdd, List.getElem?_cons_zero, List.getElem?_cons_succ, List.set_cons_zero, List.set_cons_succ, Option.some.injEq, B.val.injEq, D.int.injEq, D.bl.injEq, D.str.injEq, D.tup.injEq, D.lst.injEq, exists_eq_left', exists_eq_left, exists_and_left, ex_eq, true_and, and_true, List.cons.injEq, fIsi, okI, kdD, kdIs]
    rw [if_pos (by decide)]
    refine ne_str ⟨_, rfl, ?_⟩
    rw [if_neg (by simp), if_neg (by decide)]
    exact k _ ⟨_, _, _, _, rfl⟩
  have hterm : ∀ (u : Tr) (l : List Nd), GoodT u → u.size ≤ 40 → (arF u.nodes []).isSome = true → u.text = z → (tailB K A)
      [.val .dice, .val (trD t), .val (.str t.text), o3, .val (.str z), .val (trD u), .val (tmD A u l)] De := fun u l hu hus har hut => by
    obtain ⟨r, hr⟩ := Option.isSome_iff_exists.mp har
    have e1 : okI K (trD u) := by cases u; trivial
    have e2 : ∀ n, kdIs (kdD (trD u)) n = kdIs .tup n := fun n => by cases u; rfl
    unfold tailB
    simp only [fnS, Pu.startB, sSeq, sAsg, sIf, sRet, sNext, sNew, sApp, sPar, sDem, demB, fVar, fVarT, fC, fOp, fTst, fAnd, fOr, fNot, fNew, fLst, fTup, fNil, fCons, fSl, oAt, oNo, fCB, fCall, fIf, fChain, fRng1, fIt, fJoin, RLen, RI0, RAdd, RIx, RSl, RIsN, RTuple, RIn, gN, bD, List.map_cons, List.map_nil, List.cons_append, List.nil_append, List.length_cons, List.length_nil, List.replicate, Nat.reduceSub, Nat.reduceAdd, List.getElem?_cons_zero, List.getElem?_cons_succ, List.set_cons_zero, List.set_cons_succ, Option.some.injEq, B.val.injEq, D.int.injEq, D.bl.injEq, D.str.injEq, D.tup.injEq, D.lst.injEq, exists_eq_left', exists_eq_left, exists_and_left, ex_eq, true_and, and_true, List.cons.injEq, fIsi, fProp]
    refine ⟨e1, ?_⟩
    rw [e2, if_neg (by decide), if_neg (by decide)]
    refine ⟨e1, ?_⟩
    rw [e2, if_pos (by decide)]
    refine made_term TC hu hus (Nat.lt_of_lt_of_le (ht_lt u) (by omega)) hr fun l2 => ?_
    refine ⟨⟨_, _, rfl⟩, .inr ⟨_, _, rfl⟩, term_eq TC hu hu ⟨_, rfl, _, rfl, ?_⟩⟩
    rw [decide_eq_true rfl, if_neg (by decide)]
    refine ⟨_, _, rfl, term_text TC hu hus ?_⟩
    refine ne_str ⟨_, rfl, ?_⟩
    rw [hut, if_neg (by simp)]
    exact k _ ⟨_, _, _, _, rfl⟩
  show sPar 5 6 _ _ _
  simp only [fnS, Pu.startB, sSeq, sAsg, sIf, sRet, sNext, sNew, sApp, sPar, sDem, demB, fVar, fVarT, fC, fOp, fTst, fAnd, fOr, fNot, fNew, fLst, fTup, fNil, fCons, fSl, oAt, oNo, fCB, fCall, fIf, fChain, fRng1, fIt, fJoin, RLen, RI0, RAdd, RIx, RSl, RIsN, RTuple, RIn, gN, bD, List.map_cons, List.map_nil, List.cons_append, List.nil_append, List.length_cons, List.length_nil, List.replicate, Nat.reduceSub, Nat.reduceAdd, List.getElem?_cons_zero, List.getElem?_cons_succ, List.set_cons_zero, List.set_cons_succ, Option.some.injEq, B.val.injEq, D.int.injEq, D.bl.injEq, D.str.injEq, D.tup.injEq, D.lst.injEq, exists_eq_left', exists_eq_left, exists_and_left, ex_eq, true_and, and_true, List.cons.injEq]
  refine due hz hc ?_
  cases e : rd 60 (lab z) with
  | none =>
    refine told TC EC hz ?_
    rw [e]
    exact ⟨_, _, ⟨rfl, rfl⟩, hstr _⟩
  | some p =>
    obtain ⟨u, r⟩ := p
    obtain ⟨hl, hu⟩ := rd_sound 60 _ _ _ e
    show if r ≠ [] ∨ 40 < u.size then _ else if (arF u.nodes []).isSome = true then _ else _
    by_cases c : r ≠ [] ∨ 40 < u.size
    · rw [if_pos c]
      refine told TC EC hz ?_
      rw [e]
      show if r ≠ [] ∨ 40 < u.size then _ else _
      rw [if_pos c]
      exact ⟨_, _, ⟨rfl, rfl⟩, hstr _⟩
    · rw [if_neg c]
      have hr : r = [] := Classical.byContradiction fun z => c (.inl z)
      subst hr
      by_cases ha : (arF u.nodes []).isSome = true
      · rw [if_pos ha]
        refine told TC EC hz ?_
        rw [e]
        show if ([] : List Nat) ≠ [] ∨ 40 < u.size then _ else if (arF u.nodes []).isSome = true then _ else _
        rw [if_neg c, if_pos ha]
        intro l
        refine ⟨_, _, ⟨rfl, rfl⟩, hterm u l hu (by omega) ha ?_⟩
        rw [List.append_nil] at hl
        have h1 : lab u.text = lab z := by rw [tx_text, hl]
        rw [← mk_lab u.text, h1, mk_lab]
      · rw [if_neg ha]
        refine told TC EC hz ?_
        rw [e]
        show if ([] : List Nat) ≠ [] ∨ 40 < u.size then _ else if (arF u.nodes []).isSome = true then _ else _
        rw [if_neg c, if_neg ha]
        exact ⟨_, _, ⟨rfl, rfl⟩, hstr _⟩
theorem right (TC : TK K A) (EC : EK K A) {Q : D → Prop} {Z : ZX} (q : Q (.bl true)) : G_right K A [.dice] Q Z := by
  unfold G_right S_right
  simp only [fnS, Pu.startB, sSeq, sAsg, sIf, sRet, sNext, sNew, sApp, sPar, sDem, demB, fVar, fVarT, fC, fOp, fTst, fAnd, fOr, fNot, fNew, fLst, fTup, fNil, fCons, fSl, oAt, oNo, fCB, fCall, fIf, fChain, fRng1, fIt, fJoin, RLen, RI0, RAdd, RIx, RSl, RIsN, RTuple, RIn, gN, bD, List.map_cons, List.map_nil, List.cons_append, List.nil_append, List.length_cons, List.length_nil, List.replicate, Nat.reduceSub, Nat.reduceAdd, List.getElem?_cons_zero, List.getElem?_cons_succ, List.set_cons_zero, List.set_cons_succ, Option.some.injEq, B.val.injEq, D.int.injEq, D.bl.injEq, D.str.injEq, D.tup.injEq, D.lst.injEq, exists_eq_left', exists_eq_left, exists_and_left, ex_eq, true_and, and_true, List.cons.injEq, fProp, sFor]
  refine drawn_term (deep := 3) (by decide) fun t hf hs hh => ?_
  have G := Good.fit hf hs
  have hg : GoodT t := G.1
  obtain ⟨r, hr⟩ := G.ar
  have hlt : t.ht < 61 := by omega
  obtain ⟨tl, tc⟩ := text_len hg hs
  refine ltext 8 t _ _ (by omega) (by decide) (labAll t hg) (labs100 t hg) (by omega) ?_
  refine made_term TC hg hs hlt hr fun l0 => ?_
  refine ⟨_, _, rfl, term_text TC hg hs ?_⟩
  refine ne_str ⟨_, rfl, ?_⟩
  rw [if_neg (by simp)]
  refine told TC EC (by omega) ?_
  rw [rd_text hg hs]
  show if ([] : List Nat) ≠ [] ∨ 40 < t.size then _ else if (arF t.nodes []).isSome = true then _ else _
  rw [if_neg (fun h => Or.elim h (fun h => h rfl) (fun h => by omega)), if_pos (by rw [hr]; rfl)]
  intro l1
  refine made_term TC hg hs hlt hr fun l2 => ?_
  refine ⟨⟨_, _, rfl⟩, .inr ⟨_, _, rfl⟩, term_eq TC hg hg ⟨_, rfl, _, rfl, ?_⟩⟩
  rw [decide_eq_true rfl, if_neg (by decide)]
  refine ⟨by decide, ?_⟩
  refine for_keep (I6 t) (fun d ρ D' hρ hn hrt hex => ?_) (fun ρ hρ => ?_) _ _ ⟨_, _, _, _, rfl⟩
  · obtain ⟨o3, o4, o5, o6, rfl⟩ := hρ
    have ln : ∀ m : List Nat, (mkS m).length = m.length := fun m => by rw [len_lab, lab_mk]
    rw [len_lab] at tl
    have key : ∀ m : List Nat, m.length ≤ 1000 → cnt m < 60 → (sSeq (sPar 5 6 (fCons (fCall (G_due K A) 1 (fCons (fVar 4) fNil)) (fCons (fCall (G_told K A) 1 (fCons (fVar 4) fNil)) fNil))) (tailB K A)) [.val .dice, .val (trD t), .val (.str t.text), .val d, .val (.str (mkS m)), o5, o6] D' := fun m h1 h2 => turn TC EC hg hs (by rw [ln]; exact h1) (by rw [lab_mk]; exact h2) hn
    refine ⟨.dice, rfl, .dice, rfl, rfl, 3, rfl, by decide, by decide, fun r h0 h1 => ⟨_, rfl, ?_⟩⟩
    show if decide ((0 : Int) < r) = true then _ else _
    by_cases hp : (0 : Int) < r
    · rw [if_pos (decide_eq_true hp)]
      refine ⟨_, rfl, rfl, bent (by rw [len_lab]; omega) fun m hm => ?_⟩
      have l1 := hm.len
      have c1 := hm.cnt
      exact key m (by omega) (by omega)
    · rw [if_neg (by rw [decide_eq_false hp]; decide)]
      refine ⟨_, rfl, _, rfl, rfl, bent (by rw [len_lab]; omega) fun m hm => ?_⟩
      have l1 := hm.len
      have c1 := hm.cnt
      refine ⟨rfl, bent (by rw [ln]; omega) fun m2 hm2 => ?_⟩
      rw [lab_mk] at hm2
      have l2 := hm2.len
      have c2 := hm2.cnt
      exact key m2 (by omega) (by omega)
  · obtain ⟨o3, o4, o5, o6, rfl⟩ := hρ
    exact q
end
end K6

set_option Elab.async false
set_option maxRecDepth 100000
set_option maxHeartbeats 1000000
set_option linter.all false
namespace K6Di
open PySem L2 Ly
open K6 (top Txt)
section
variable {P : Program} {w : World} {K : PySem.W.Frag} {mg : Str → Option Value} {base : Heap}
abbrev s_dice : Stmt := top 41
abbrev nm_dice : List Str := ["_law_script", "_law_spot", "_law_cell", "_law_great", "_law_blend"]
abbrev ps_dice : List Str := ["_law_script", "_law_spot"]
theorem sc_dice : FnScope nm_dice ps_dice (defScope s_dice) := ⟨rfl, rfl, rfl, by decide +kernel, rfl, by decide +kernel, by decide +kernel⟩
theorem ok_dice0 {f : Addr} {fd : FuncData} (F : Fun K "_law_dice" "_law_dice" s_dice f fd) (T : Txt K mg) : FnOk P w K mg base CX0 1 f fd ["_law_script", "_law_spot"] (spDice0 K) := by
  have nd := sc_dice.nd
  refine F.ok sc_dice (fun vs H Q E h => ?_) (fun cdv A outer s H vs Q E hr h => ?_)
  · obtain ⟨_, _, _, rfl, _⟩ := h
    rfl
  · obtain ⟨a, ns, n, rfl, hS, k⟩ := h
    refine ⟨_, (pss_cons (ps_set (i := 2) nd rfl (Or.inl rfl) (pe_op op_add (pe_op op_mul pe_int (pv 1)) pe_int))
      (Evl.pss_cut (ps_if (pt_cmpR op_lt (pv 1) (pe_callB (kcall_len (K := K)) (by rfl) T.z_len (by decide +kernel) (pa_cons (pv 0) pa_nil)) (nomark _)) (pss_one (ps_set (i := 2) nd rfl (Or.inl rfl) (pe_ix (kix_list (K := K)) (pv 0) (pv 1) (fun _ _ => rfl)))) pss_nil)
      (pss_cons (ps_set (i := 3) nd rfl (Or.inl rfl) (pe_op op_mod (pe_callTy call_int1 (by rfl) T.z_int (by decide +kernel) (pa_cons (pe_callB call_abs (by rfl) T.z_abs (by decide +kernel) (pa_cons (pv 2) pa_nil)) pa_nil)) (pe_op op_powW (pe_op op_powW pe_int pe_int) pe_int)))
      (pss_cons (ps_set (i := 4) nd rfl (Or.inl rfl) (pe_op op_add (pe_op op_add (pe_op op_add (pe_op op_mul (pe_op op_mod (pe_callTy call_int1 (by rfl) T.z_int (by decide +kernel) (pa_cons (pv 3) pa_nil)) pe_int) pe_int) (pe_op op_mul pe_int (pv 1))) (pe_op op_mul pe_int (pe_callTy call_int1 (by rfl) T.z_int (by decide +kernel) (pa_cons (pe_cmpR op_lt (pv 2) pe_int (nomark _)) pa_nil)))) pe_int))
      (pss_one (ps_ret (pe_lst (pa_cons (pe_callB (call_max2 rfl) (by rfl) T.z_max (by decide +kernel) (pa_cons pe_int (pa_cons (pe_op op_sub (pv 3) (pe_op op_powW pe_int pe_int)) pa_nil))) (pa_cons (pe_op op_mod (pe_callTy call_int1 (by rfl) T.z_int (by decide +kernel) (pa_cons (pv 4) pa_nil)) pe_int) (pa_cons pe_int pa_nil)))))))))), ?_⟩
    -- cell = 53 * spot + 29
    refine ⟨_, rfl, _, _, rfl, rfl, Or.inl ⟨by decide, by decide⟩, _, _, rfl, rfl, ?_⟩
    -- if spot < len(script)
    refine ⟨fun σ H' => ∃ cell : Int, σ = [some (.ref a), some (.int n), some (.int cell), none, none] ∧ H' = H, ?_, ?_⟩
    · refine ⟨_, rfl, _, rfl, a, _, rfl, Or.inl hS, _, _, rfl, rfl, _, rfl, ite2 (fun hc => ?_) (fun hc => ?_)⟩
      · have hc : (n : Int) < ((ns.map V.int).length : Int) := of_decide_eq_true hc
        have hl : n < ns.length := by
          rw [List.length_map] at hc
          omega
        exact ⟨_, rfl, _, rfl, a, _, _, _, rfl, rfl, hS, atI_nat (v := .int ns[n]) (by simp [hl]), ns[n], rfl, rfl⟩
      · exact ⟨_, rfl, rfl⟩
    · rintro σ H' ⟨cell, rfl, rfl⟩
      -- great
      refine ⟨_, rfl, _, rfl, Or.inl ⟨_, rfl, _, _, rfl, rfl, ⟨by decide, by decide +kernel⟩, _, _, rfl, rfl, ⟨by decide, by decide +kernel⟩, _, _, rfl, rfl, by show (0 : Int) < _; decide +kernel, ?_⟩⟩
      -- blend
      refine ⟨_, rfl, Or.inl ⟨_, rfl, _, _, rfl, rfl, by show (0 : Int) < 2305843009213693723; decide, _, _, rfl, rfl, Or.inr ⟨by decide, by decide⟩, _, rfl, _, _, rfl, rfl, Or.inl ⟨by decide, by decide⟩, _, _, rfl, rfl, _, rfl, _, _, rfl, rfl, Or.inr ⟨_, rfl, _, _, rfl, rfl, Or.inl ⟨by decide, by decide⟩, _, _, rfl, rfl, _, _, rfl, rfl, ?_⟩⟩⟩
      -- return
      refine ⟨_, rfl, _, _, rfl, rfl, ⟨by decide, by decide +kernel⟩, _, _, rfl, rfl, _, _, rfl, _, rfl, Or.inl ⟨_, rfl, _, _, rfl, rfl, by show (0 : Int) < 2305843009213693723; decide, by show 3 ≤ sizeLine; decide, fun p hp => ?_⟩⟩
      exact k p _ _ _ hp
theorem ok_dice {f : Addr} {fd : FuncData} (F : Fun K "_law_dice" "_law_dice" s_dice f fd) (T : Txt K mg) : FnOk P w K mg base CX0 1 f fd ["_law_script", "_law_spot"] (spDice K) := by
  refine (fn_mkdice (ok_dice0 F T)).imp fun vs H Q E h => ?_
  obtain ⟨a, ns, n, rfl, hS, k⟩ := h
  refine ⟨a, ns, n, rfl, hS, fun p x y z hp => ⟨p, x, y, z, rfl, upd_same, ?_⟩⟩
  rw [upd_upd]
  exact k p hp

abbrev s_roll : Stmt := top 42
abbrev nm_roll : List Str := ["_law_dice_here", "_law_total", "_law_found", "_law_one", "_law_two"]
abbrev ps_roll : List Str := ["_law_dice_here", "_law_total"]
theorem sc_roll : FnScope nm_roll ps_roll (defScope s_roll) := ⟨rfl, rfl, rfl, by decide +kernel, rfl, by decide +kernel, by decide +kernel⟩
theorem ok_roll0 {f : Addr} {fd : FuncData} (F : Fun K "_law_roll" "_law_roll" s_roll f fd) (T : Txt K mg) : FnOk P w K mg base CX0 1 f fd ["_law_dice_here", "_law_total"] spRoll0 := by
  have nd := sc_roll.nd
  refine F.ok sc_roll (fun vs H Q E h => ?_) (fun cdv A outer s H vs Q E hr h => ?_)
  · obtain ⟨_, _, _, _, _, rfl, _⟩ := h
    rfl
  · obtain ⟨p, t, a, b, c, rfl, ht, ht2, hp, k⟩ := h
    refine ⟨_, (pss_cons (ps_if (pt_cmpR op_gt (pe_ix (kix_list (K := K)) (pv 0) pe_int (fun _ _ => rfl)) pe_int (nomark _)) (pss_cons (ps_set (i := 2) nd rfl (Or.inl rfl) (pe_op op_mod (pe_callTy call_int1 (by rfl) T.z_int (by decide +kernel) (pa_cons (pe_ix (kix_list (K := K)) (pv 0) pe_int (fun _ _ => rfl)) pa_nil)) (pv 1)))
      (pss_cons (ps_asg (pe_op op_fdiv (pe_ix (kix_list (K := K)) (pv 0) pe_int (fun _ _ => rfl)) (pv 1)) (pg_sub (pv 0) pe_int set_list))
      (pss_one (ps_ret (pv 2))))) pss_nil)
      (pss_cons (ps_asg (pe_op op_add (pe_ix (kix_list (K := K)) (pv 0) pe_int (fun _ _ => rfl)) pe_int) (pg_sub (pv 0) pe_int set_list))
      (pss_cons (ps_set (i := 3) nd rfl (Or.inl rfl) (pe_op op_mod (pe_callTy call_int1 (by rfl) T.z_int (by decide +kernel) (pa_cons (pe_op op_add (pe_ix (kix_list (K := K)) (pv 0) pe_int (fun _ _ => rfl)) (pe_op op_mul pe_int (pe_ix (kix_list (K := K)) (pv 0) pe_int (fun _ _ => rfl)))) pa_nil)) pe_int))
      (pss_cons (ps_set (i := 4) nd rfl (Or.inl rfl) (pe_op op_add (pe_op op_mul (pe_op op_mod (pe_callTy call_int1 (by rfl) T.z_int (by decide +kernel) (pa_cons (pe_op op_mul (pv 3) (pv 3)) pa_nil)) pe_int) (pv 3)) (pe_op op_mul pe_int (pe_ix (kix_list (K := K)) (pv 0) pe_int (fun _ _ => rfl)))))
      (pss_cons (ps_set (i := 4) nd rfl (Or.inl rfl) (pe_op op_mod (pe_callTy call_int1 (by rfl) T.z_int (by decide +kernel) (pa_cons (pv 4) pa_nil)) pe_int))
      (pss_one (ps_ret (pe_op op_mod (pe_callTy call_int1 (by rfl) T.z_int (by decide +kernel) (pa_cons (pe_op op_fdiv (pv 4) pe_int) pa_nil)) (pv 1))))))))), ?_⟩
    have hL : SqL K H p [.int a, .int b, .int c] := SqL.of hp
    have h0 : (0 : Int) < 2305843009213693951 := by decide
    have h1 : (0 : Int) < 2305843009213693921 := by decide
    have h2 : (0 : Int) < 2305843009213693723 := by decide
    have hnn : ∀ x : Int, 0 ≤ x % t := fun x => Int.emod_nonneg _ (by omega)
    have hlt : ∀ x : Int, x % t < t := fun x => Int.emod_lt_of_pos _ ht
    refine ⟨_, rfl, p, _, _, _, rfl, rfl, hL, rfl, _, _, rfl, rfl, _, rfl, ite2 (fun _ => ?_) (fun _ => ?_)⟩
    · refine ⟨_, rfl, p, _, _, _, rfl, rfl, hL, rfl, Or.inl ⟨_, rfl, _, rfl, _, _, rfl, rfl, ht, ?_⟩⟩
      refine ⟨_, rfl, p, _, _, _, rfl, rfl, hL, rfl, _, rfl, _, _, rfl, rfl, ⟨ht, ht2⟩, _, rfl, p, _, _, _, rfl, rfl, hp, rfl, ?_⟩
      exact ⟨_, rfl, k _ _ _ _ (hnn _) (hlt _)⟩
    · refine ⟨_, rfl, p, _, _, _, rfl, rfl, hL, rfl, _, _, rfl, rfl, _, rfl, p, _, _, _, rfl, rfl, hp, rfl, ?_⟩
      have hL2 : SqL K (upd H p (.lst ([.int a, .int b, .int c].set 2 (.int (c + 1))))) p [.int a, .int b, .int (c + 1)] := SqL.of upd_same
      refine ⟨_, rfl, p, _, _, _, rfl, rfl, hL2, rfl, _, rfl, p, _, _, _, rfl, rfl, hL2, rfl, _, _, rfl, rfl, Or.inl ⟨by decide, by decide⟩, _, _, rfl, rfl, Or.inl ⟨_, rfl, _, _, rfl, rfl, h0, ?_⟩⟩
      have hone : ∀ x : Int, -(2 ^ 64) < x % 2305843009213693951 ∧ x % 2305843009213693951 < 2 ^ 64 := fun x => ⟨by have := Int.emod_nonneg x (b := 2305843009213693951) (by decide); omega, by have := Int.emod_lt_of_pos x h0; omega⟩
      refine ⟨_, rfl, _, rfl, _, _, rfl, rfl, Or.inl (hone _), Or.inl ⟨_, rfl, _, _, rfl, rfl, h1, _, rfl, _, _, rfl, rfl, Or.inr (hone _), _, rfl, p, _, _, _, rfl, rfl, hL2, rfl, _, _, rfl, rfl, Or.inl ⟨by decide, by decide⟩, _, _, rfl, rfl, ?_⟩⟩
      refine ⟨_, rfl, Or.inl ⟨_, rfl, _, _, rfl, rfl, h2, ?_⟩⟩
      refine ⟨_, rfl, _, _, rfl, rfl, ⟨by decide, by decide⟩, Or.inl ⟨_, rfl, _, rfl, _, _, rfl, rfl, ht, ?_⟩⟩
      exact k _ _ _ _ (hnn _) (hlt _)
theorem ok_roll {f : Addr} {fd : FuncData} (F : Fun K "_law_roll" "_law_roll" s_roll f fd) (T : Txt K mg) : FnOk P w K mg base CX0 1 f fd ["_law_dice_here", "_law_total"] spRoll := by
  refine (fn_dice (ok_roll0 F T)).imp fun vs H Q E h => ?_
  obtain ⟨p, t, rfl, h1, h2, hp, k⟩ := h
  refine ⟨rfl, p, hp, fun a b c => ⟨p, t, a, b, c, rfl, h1, h2, upd_same, fun r a' b' c' h3 h4 => ⟨⟨a', b', c', upd_same⟩, ?_⟩⟩⟩
  rw [upd_upd, upd_upd, upd_id hp]
  exact k r h3 h4

abbrev s_pick : Stmt := top 43
abbrev nm_pick : List Str := ["_law_dice_here", "_law_items"]
abbrev ps_pick : List Str := ["_law_dice_here", "_law_items"]
theorem sc_pick : FnScope nm_pick ps_pick (defScope s_pick) := ⟨rfl, rfl, rfl, by decide +kernel, rfl, by decide +kernel, by decide +kernel⟩
theorem ok_pick {f : Addr} {fd : FuncData} (F : Fun K "_law_pick" "_law_pick" s_pick f fd) (T : Txt K mg) (C_roll : Cal P w K mg base "_law_roll" 1 ["_law_dice_here", "_law_total"] spRoll) : FnOk P w K mg base CX0 2 f fd ["_law_dice_here", "_law_items"] (spPick K) := by
  refine F.ok sc_pick (fun vs H Q E h => ?_) (fun cdv A outer s H vs Q E hr h => ?_)
  · obtain ⟨_, _, _, rfl, _⟩ := h
    rfl
  · obtain ⟨p, l, xs, rfl, hp, hl, h1, h2, k⟩ := h
    refine ⟨_, (pss_one (ps_ret (pe_ix (kix_list (K := K)) (pv 1) (pe_cal C_roll (hr.mono (by first | decide | omega)) rfl (pa_cons (pv 0) (pa_cons (pe_callB (kcall_len (K := K)) (by rfl) T.z_len (by decide +kernel) (pa_cons (pv 1) pa_nil)) pa_nil))) (fun _ _ => rfl)))), ?_⟩
    refine ⟨_, rfl, _, rfl, _, rfl, l, _, rfl, Or.inl hl, p, _, rfl, by omega, by omega, hp, fun r h3 h4 => ?_⟩
    have e : r = (r.toNat : Int) := by omega
    have hx : xs[r.toNat]? = some (xs[r.toNat]'(by omega)) := by simp
    exact ⟨l, _, _, _, rfl, rfl, hl, at_of e hx, k _ _ hx⟩
end
end K6Di
namespace K6
open PySem PySem.Spec PyProof.Rows L2 Ly Pu TM
section
variable {P : Program} {w : World} {K : PySem.W.Frag} {mg : Str → Option Value} {base : Heap} {A : Adr}
abbrev s_ParseError_init : Stmt := inClass (top 17) 0
abbrev nm_ParseError_init : List Str := ["self", "line"]
abbrev ps_ParseError_init : List Str := ["self", "line"]
theorem sc_ParseError_init : FnScope nm_ParseError_init ps_ParseError_init (defScope s_ParseError_init) := ⟨rfl, rfl, rfl, by decide +kernel, rfl, by decide +kernel, by decide +kernel⟩
theorem ok_xinit {f CP : Addr} {fd : FuncData} (F : Fun K "__init__" "ParseError.__init__" s_ParseError_init f fd) (O : OexC K CP) (no : PySem.W.findIn K (.ref CP) "line" = some none) : FnOk P w K mg base CX0 1 f fd ps_ParseError_init (spXi CP "line") := by
  have nd := sc_ParseError_init.nd
  refine F.ok sc_ParseError_init (fun vs H Q E h => ?_) (fun cdv A outer s H vs Q E hr h => ?_)
  · obtain ⟨_, _, rfl, _⟩ := h
    rfl
  · obtain ⟨a, v, rfl, ha, k⟩ := h
    exact ⟨_, pss_one (ps_ost (pv 0) (pv 1)), _, rfl, _, rfl, a, CP, rfl, O, no, .inl ⟨ha, fun dx h1 h2 => k dx h1 h2⟩⟩
def tolS (z : Str) : Option Str := match rd 60 (lab z) with
  | none => some "parse None"
  | some (t, r) => if r ≠ [] ∨ 40 < t.size then some "parse None" else if (arF t.nodes []).isSome = true then none else some "term"
theorem told_s (TC : TK K A) (EC : EK K A) {z s : Str} (hz : z.length ≤ 1000) (h : tolS z = some s) {Q : D → Prop} {Z : ZX} (q : Q (.str s)) : G_told K A [.str z] Q Z := by
  refine told TC EC hz ?_
  unfold tolS at h
  cases e : rd 60 (lab z) with
  | none =>
    rw [e] at h
    cases h
    exact q
  | some p =>
    obtain ⟨t, r⟩ := p
    rw [e] at h
    have h : (if r ≠ [] ∨ 40 < t.size then some ("parse None" : Str) else if (arF t.nodes []).isSome = true then none else some "term") = some s := h
    show if r ≠ [] ∨ 40 < t.size then _ else if (arF t.nodes []).isSome = true then _ else _
    by_cases c : r ≠ [] ∨ 40 < t.size
    · rw [if_pos c] at h ⊢
      cases h
      exact q
    · rw [if_neg c] at h ⊢
      by_cases c2 : (arF t.nodes []).isSome = true
      · rw [if_pos c2] at h
        cases h
      · rw [if_neg c2] at h ⊢
        cases h
        exact q
theorem told_i (TC : TK K A) (EC : EK K A) {z : Str} (hz : z.length ≤ 1000) {Q : D → Prop} {Z : ZX} (q : Q (.bl (tolS z).isSome)) : G_told K A [.str z] (fun d => okI K d ∧ Q (.bl (kdIs (kdD d) "str"))) Z := by
  cases hh : tolS z with
  | some s =>
    rw [hh] at q
    exact told_s TC EC hz hh ⟨trivial, q⟩
  | none =>
    rw [hh] at q
    refine told TC EC hz ?_
    unfold tolS at hh
    cases e : rd 60 (lab z) with
    | none =>
      rw [e] at hh
      cases hh
    | some p =>
      obtain ⟨t, r⟩ := p
      rw [e] at hh
      have hh : (if r ≠ [] ∨ 40 < t.size then some ("parse None" : Str) else if (arF t.nodes []).isSome = true then none else some "term") = none := hh
      show if r ≠ [] ∨ 40 < t.size then _ else if (arF t.nodes []).isSome = true then _ else _
      by_cases c : r ≠ [] ∨ 40 < t.size
      · rw [if_pos c] at hh
        cases hh
      · rw [if_neg c] at hh ⊢
        by_cases c2 : (arF t.nodes []).isSome = true
        · rw [if_pos c2]
          exact fun l => ⟨TC.own, q⟩
        · rw [if_neg c2] at hh
          cases hh
theorem for_keepM {j : Nat} {S : FS} {De : EndsD} (I : Pu.Env → Prop) (ds : List D) (hs : ∀ (d : D) (ρ : Pu.Env) (D' : EndsD), d ∈ ds → I ρ → (∀ ρ', I ρ' → D'.nx ρ') → D'.rt = De.rt → D'.ex = De.ex → S (ρ.set j (.val d)) D') (hd : ∀ ρ, I ρ → De.nx ρ) : ∀ (es : List D) (ρ : Pu.Env), (∀ d ∈ es, d ∈ ds) → I ρ → forD (gN j) S es ρ De
  | [], ρ, _, h => hd ρ h
  | d :: es, ρ, m, h => hs d ρ _ (m d (List.mem_cons_self ..)) h (fun ρ' h' => for_keepM I ds hs hd es ρ' (fun x hx => m x (List.mem_cons_of_mem _ hx)) h') rfl rfl
def some12 : List Str := ["f(a, f)", "f()", "_(a)", "f(a,b)", "f(a, b, c, d)", "", " a", "f(a", "a)", "f((a))", "#", "f(_, #)"]
theorem some12_ok : (some12.map fun z => (tolS z).isSome) = [true, true, true, true, true, true, true, true, true, true, false, false] ∧ tolS "f(a, f)" = some ("term" : Str) ∧ tolS "f()" = some ("parse None" : Str) ∧ ∀ z ∈ some12, z.length ≤ 1000 := by decide +kernel
def Il (ns : List Int) (ρ : Pu.Env) : Prop := ∃ o1 o2 o3 o4 o5 o6, ρ = [.val (.lsk (ns.map .int)), o1, o2, o3, o4, o5, o6]
def Id (ns : List Int) (ρ : Pu.Env) : Prop := ∃ o1 o3 o4 o5 o6, ρ = [.val (.lsk (ns.map .int)), o1, .val .dice, o3, o4, o5, o6]
theorem law_ok (TC : TK K A) (EC : EK K A) {ns : List Int} (hl : ns.length ≤ 63) {Q : D → Prop} {Z : ZX} (q : Q (.bl true)) : G_law K A [.lsk (ns.map .int)] Q Z := by
  obtain ⟨k1, k2, k3, k4⟩ := some12_ok
  unfold G_law S_law
  simp only [fnS, Pu.startB, sSeq, sAsg, sIf, sRet, sNext, sNew, sApp, sPar, sDem, demB, fVar, fVarT, fC, fOp, fTst, fAnd, fOr, fNot, fNew, fLst, fTup, fNil, fCons, fSl, oAt, oNo, fCB, fCall, fIf, fChain, fRng1, fIt, fJoin, RLen, RI0, RAdd, RIx, RSl, RIsN, RTuple, RIn, gN, bD, List.map_cons, List.map_nil, List.cons_append, List.nil_append, List.length_cons, List.length_nil, List.replicate, Nat.reduceSub, Nat.reduceAdd, List.getElem?_cons_zero, List.getElem?_cons_succ, List.set_cons_zero, List.set_cons_succ, Option.some.injEq, B.val.injEq, D.int.injEq, D.bl.injEq, D.str.injEq, D.tup.injEq, D.lst.injEq, exists_eq_left', exists_eq_left, exists_and_left, ex_eq, true_and, and_true, List.cons.injEq, lenD, sFor, RMax2, RMin2]
  refine ⟨_, _, ⟨rfl, rfl⟩, ?_⟩
  refine ⟨_, _, ⟨rfl, rfl⟩, ⟨by rw [List.length_map]; split <;> split <;> omega, by rw [List.length_map]; split <;> split <;> omega⟩, ?_⟩
  refine for_keepM (Il ns) _ (fun d ρ D' hd hρ hn hrt hex => ?_) (fun ρ hρ => ?_) _ _ (fun d hd => hd) ⟨_, _, _, _, _, _, rfl⟩
  · obtain ⟨o1, o2, o3, o4, o5, o6, rfl⟩ := hρ
    obtain ⟨k, _, rfl⟩ := List.mem_map.mp hd
    have e : ((0 : Int) + (k : Nat) * 1) = (k : Int) := by omega
    refine ⟨_, rfl, _, rfl, rfl, ns, k, by rw [e], ?_⟩
    refine ⟨5, rfl, by decide, ?_⟩
    refine for_keep (Id ns) (fun d2 ρ2 D2 h2 hn2 hrt2 hex2 => ?_) (fun ρ2 h2 => ?_) _ _ ⟨_, _, _, _, _, rfl⟩
    · obtain ⟨p1, p3, p4, p5, p6, rfl⟩ := h2
      refine ⟨_, rfl, rfl, right TC EC ⟨_, rfl, ?_⟩⟩
      show if (!true) = true then _ else _
      rw [if_neg (by decide)]
      exact hn2 _ ⟨_, _, _, _, _, rfl⟩
    · obtain ⟨p1, p3, p4, p5, p6, rfl⟩ := h2
      exact hn _ ⟨_, _, _, _, _, _, rfl⟩
  · obtain ⟨o1, o2, o3, o4, o5, o6, rfl⟩ := hρ
    refine ⟨by decide, ?_⟩
    simp only [fnS, Pu.startB, sSeq, sAsg, sIf, sRet, sNext, sNew, sApp, sPar, sDem, demB, fVar, fVarT, fC, fOp, fTst, fAnd, fOr, fNot, fNew, fLst, fTup, fNil, fCons, fSl, oAt, oNo, fCB, fCall, fIf, fChain, fRng1, fIt, fJoin, RLen, RI0, RAdd, RIx, RSl, RIsN, RTuple, RIn, gN, bD, List.map_cons, List.map_nil, List.cons_append, List.nil_append, List.length_cons, List.length_nil, List.replicate, Nat.reduceSub, Nat.reduceAdd, List.getElem?_cons_zero, List.getElem?_cons_succ, List.set_cons_zero, List.set_cons_succ, Option.some.injEq, B.val.injEq, D.int.injEq, D.bl.injEq, D.str.injEq, D.tup.injEq, D.lst.injEq, exists_eq_left', exists_eq_left, exists_and_left, ex_eq, true_and, and_true, List.cons.injEq, fLc, itD, wipeB, fIsi]
    refine ⟨by decide, ?_⟩
    refine lc_map (h := D.str) (f := fun z => D.bl (tolS z).isSome) some12 (fun z hz R r => ?_) ?_
    · simp only [fnS, Pu.startB, sSeq, sAsg, sIf, sRet, sNext, sNew, sApp, sPar, sDem, demB, fVar, fVarT, fC, fOp, fTst, fAnd, fOr, fNot, fNew, fLst, fTup, fNil, fCons, fSl, oAt, oNo, fCB, fCall, fIf, fChain, fRng1, fIt, fJoin, RLen, RI0, RAdd, RIx, RSl, RIsN, RTuple, RIn, gN, bD, List.map_cons, List.map_nil, List.cons_append, List.nil_append, List.length_cons, List.length_nil, List.replicate, Nat.reduceSub, Nat.reduceAdd, List.getElem?_cons_zero, List.getElem?_cons_succ, List.set_cons_zero, List.set_cons_succ, Option.some.injEq, B.val.injEq, D.int.injEq, D.bl.injEq, D.str.injEq, D.tup.injEq, D.lst.injEq, exists_eq_left', exists_eq_left, exists_and_left, ex_eq, true_and, and_true, List.cons.injEq, fIsi, wipeB]
      exact told_i TC EC (k4 z hz) r
    · have e13 : some12.map (fun z => D.bl (tolS z).isSome) = [.bl true, .bl true, .bl true, .bl true, .bl true, .bl true, .bl true, .bl true, .bl true, .bl true, .bl false, .bl false] := by
        have := congrArg (List.map D.bl) k1
        rw [List.map_map] at this
        exact this
      rw [e13]
      simp only [fnS, Pu.startB, sSeq, sAsg, sIf, sRet, sNext, sNew, sApp, sPar, sDem, demB, fVar, fVarT, fC, fOp, fTst, fAnd, fOr, fNot, fNew, fLst, fTup, fNil, fCons, fSl, oAt, oNo, fCB, fCall, fIf, fChain, fRng1, fIt, fJoin, RLen, RI0, RAdd, RIx, RSl, RIsN, RTuple, RIn, gN, bD, List.map_cons, List.map_nil, List.cons_append, List.nil_append, List.length_cons, List.length_nil, List.replicate, Nat.reduceSub, Nat.reduceAdd, List.getElem?_cons_zero, List.getElem?_cons_succ, List.set_cons_zero, List.set_cons_succ, Option.some.injEq, B.val.injEq, D.int.injEq, D.bl.injEq, D.str.injEq, D.tup.injEq, D.lst.injEq, exists_eq_left', exists_eq_left, exists_and_left, ex_eq, true_and, and_true, List.cons.injEq, fAndV, RRep]
      refine ⟨by decide, by decide, by decide, by decide, by decide, by decide, ?_⟩
      refine ⟨(show SeqAt.shaped _ = true by decide +kernel), (show SeqAt.shaped _ = true by decide +kernel), _, rfl, ?_⟩
      rw [if_pos (by decide +kernel)]
      refine told_s TC EC (by decide) k2 (told_s TC EC (by decide) k3 ⟨by decide, by decide, ?_⟩)
      refine ⟨(show SeqAt.shaped _ = true by decide +kernel), (show SeqAt.shaped _ = true by decide +kernel), ?_⟩
      have h : PyData.eqv (toP (D.lst [D.str "term", D.str "parse None"])) (toP (D.lst [D.str "term", D.str "parse None"])) = true := by decide +kernel
      show Q (D.bl (PyData.eqv (toP (D.lst [D.str "term", D.str "parse None"])) (toP (D.lst [D.str "term", D.str "parse None"]))))
      rw [h]
      exact q
def spLaw (K : PySem.W.Frag) : Sp := fun vs H Q _ => ∃ (a : Addr) (ns : List Int), vs = [.ref a] ∧ SqL K H a (ns.map V.int) ∧ ns.length ≤ 63 ∧ ∀ H', Q (.bl true) H'
theorem law_top (TC : TK K A) (EC : EK K A) {k : Nat} {f : Addr} {fd : FuncData} {ps : List Str} (F : FnOk P w K mg base (L2.CX P w) k f fd ps (spD K 1 (G_law K A))) : FnOk P w K mg base CX0 k f fd ps (spLaw K) :=
  fn_cx0 F fun vs H Q E ⟨a, ns, hv, hS, hl, kk⟩ => ⟨H, [.lsk (ns.map .int)], fun d => d = .bl true, fun _ => False, Gx.refl _, by
    subst hv
    exact .cons (.lsk hS (v_ints ns) (by rw [List.length_map, sizeLine_eq]; omega)) .nil, rfl, law_ok TC EC hl rfl, fun v W' H' d e r z => (by subst z; cases r; exact kk H'), fun _ _ _ _ _ _ _ z => z.elim⟩
theorem exm_is {S S' : Addr} {b : Bool} (g1 : PySem.W.subIn K (.ref S) (.type "BaseException") = some true) (g2 : PySem.W.isClsIn K S = true) (g3 : PySem.W.typeIn K (.ref S) = some (.type "type"))
    (h1 : PySem.W.subIn K (.ref S') (.type "BaseException") = some true) (h2 : PySem.W.isClsIn K S' = true) (h3 : PySem.W.typeIn K (.ref S') = some (.type "type")) (h4 : PySem.W.subIn K (.ref S) (.ref S') = some b) : PySem.W.exmOne K (.ref S) (.ref S') = some b := by
  have e1 : (PySem.W.subIn K (.ref S') (.type "BaseException") == some true) = true := by rw [h1] <;> rfl
  have e2 : ((PySem.W.clsIn K S').isSome && PySem.W.typeIn K (.ref S') == some (.type "type")) = true := by
    rw [show (PySem.W.clsIn K S').isSome = true from h2, h3] <;> rfl
  have f1 : (PySem.W.subIn K (.ref S) (.type "BaseException") == some true) = true := by rw [g1] <;> rfl
  have f2 : ((PySem.W.clsIn K S).isSome && PySem.W.typeIn K (.ref S) == some (.type "type")) = true := by
    rw [show (PySem.W.clsIn K S).isSome = true from g2, g3] <;> rfl
  unfold PySem.W.exmOne PySem.W.kitCls
  simp only [e1, e2, f1, f2, if_true, h4]
end
end K6

set_option Elab.async false
set_option maxRecDepth 100000
set_option maxHeartbeats 1000000
set_option linter.all false
namespace K6
open PySem PySem.Spec PyProof.Rows L2 Ly Pu TM K6Di
theorem all_mk {l : PySem.W.OpenLaw} {w : World} {K : PySem.W.Frag} {h : Heap} {mg : Str → Option Value} {fa C CN CR CI CP f_Term_init f_Term_eq f_Reader_init f_Reader_take f_Reader_take_word f_ParseError_init f_Term_read p_Term_read f_Term_text p_Term_text f_dice f_roll f_pick f_is_integer f_is_within f_is_word f_is_node f_ascending_rows f_children_of f_ends_of f_arities_in f_is_term_row f_text_of f_places_with f_tokens_of f_nodes' f_text f_made_term f_term' f_small_term f_drawn_term f_word_end f_read f_due f_bent f_nodes_of f_told f_right f_law : Addr} (X : K.In h) (G : h.Ns mainGlobals mg) (hfa : mg "law" = some (.ref fa))
    {od_Term_init an_Term_init : Option Addr} {sl_Term_init : Array (Option Value)} {oc_Term_init kV_Term_init dc_Term_init pm_Term_init cd_Term_init ct_Term_init : Value}
    {od_Term_eq an_Term_eq : Option Addr} {sl_Term_eq : Array (Option Value)} {oc_Term_eq kV_Term_eq dc_Term_eq pm_Term_eq cd_Term_eq ct_Term_eq : Value}
    {od_Reader_init an_Reader_init : Option Addr} {sl_Reader_init : Array (Option Value)} {oc_Reader_init kV_Reader_init dc_Reader_init pm_Reader_init cd_Reader_init ct_Reader_init : Value}
    {od_Reader_take an_Reader_take : Option Addr} {sl_Reader_take : Array (Option Value)} {oc_Reader_take kV_Reader_take dc_Reader_take pm_Reader_take cd_Reader_take ct_Reader_take : Value}
    {od_Reader_take_word an_Reader_take_word : Option Addr} {sl_Reader_take_word : Array (Option Value)} {oc_Reader_take_word kV_Reader_take_word dc_Reader_take_word pm_Reader_take_word cd_Reader_take_word ct_Reader_take_word : Value}
    {od_ParseError_init an_ParseError_init : Option Addr} {sl_ParseError_init : Array (Option Value)} {oc_ParseError_init kV_ParseError_init dc_ParseError_init pm_ParseError_init cd_ParseError_init ct_ParseError_init : Value}
    {rest_Term_read : List Value}
    {od_Term_read an_Term_read : Option Addr} {sl_Term_read : Array (Option Value)} {oc_Term_read kV_Term_read dc_Term_read pm_Term_read cd_Term_read ct_Term_read : Value}
    {rest_Term_text : List Value}
    {od_Term_text an_Term_text : Option Addr} {sl_Term_text : Array (Option Value)} {oc_Term_text kV_Term_text dc_Term_text pm_Term_text cd_Term_text ct_Term_text : Value}
    {od_dice an_dice : Option Addr} {sl_dice : Array (Option Value)} {oc_dice kV_dice dc_dice pm_dice cd_dice ct_dice : Value}
    {od_roll an_roll : Option Addr} {sl_roll : Array (Option Value)} {oc_roll kV_roll dc_roll pm_roll cd_roll ct_roll : Value}
    {od_pick an_pick : Option Addr} {sl_pick : Array (Option Value)} {oc_pick kV_pick dc_pick pm_pick cd_pick ct_pick : Value}
    {od_is_integer an_is_integer : Option Addr} {sl_is_integer : Array (Option Value)} {oc_is_integer kV_is_integer dc_is_integer pm_is_integer cd_is_integer ct_is_integer : Value}
    {od_is_within an_is_within : Option Addr} {sl_is_within : Array (Option Value)} {oc_is_within kV_is_within dc_is_within pm_is_within cd_is_within ct_is_within : Value}
    {od_is_word an_is_word : Option Addr} {sl_is_word : Array (Option Value)} {oc_is_word kV_is_word dc_is_word pm_is_word cd_is_word ct_is_word : Value}
    {od_is_node an_is_node : Option Addr} {sl_is_node : Array (Option Value)} {oc_is_node kV_is_node dc_is_node pm_is_node cd_is_node ct_is_node : Value}
    {od_ascending_rows an_ascending_rows : Option Addr} {sl_ascending_rows : Array (Option Value)} {oc_ascending_rows kV_ascending_rows dc_ascending_rows pm_ascending_rows cd_ascending_rows ct_ascending_rows : Value}
    {od_children_of an_children_of : Option Addr} {sl_children_of : Array (Option Value)} {oc_children_of kV_children_of dc_children_of pm_children_of cd_children_of ct_children_of : Value}
    {od_ends_of an_ends_of : Option Addr} {sl_ends_of : Array (Option Value)} {oc_ends_of kV_ends_of dc_ends_of pm_ends_of cd_ends_of ct_ends_of : Value}
    {od_arities_in an_arities_in : Option Addr} {sl_arities_in : Array (Option Value)} {oc_arities_in kV_arities_in dc_arities_in pm_arities_in cd_arities_in ct_arities_in : Value}
    {od_is_term_row an_is_term_row : Option Addr} {sl_is_term_row : Array (Option Value)} {oc_is_term_row kV_is_term_row dc_is_term_row pm_is_term_row cd_is_term_row ct_is_term_row : Value}
    {od_text_of an_text_of : Option Addr} {sl_text_of : Array (Option Value)} {oc_text_of kV_text_of dc_text_of pm_text_of cd_text_of ct_text_of : Value}
    {od_places_with an_places_with : Option Addr} {sl_places_with : Array (Option Value)} {oc_places_with kV_places_with dc_places_with pm_places_with cd_places_with ct_places_with : Value}
    {od_tokens_of an_tokens_of : Option Addr} {sl_tokens_of : Array (Option Value)} {oc_tokens_of kV_tokens_of dc_tokens_of pm_tokens_of cd_tokens_of ct_tokens_of : Value}
    {od_nodes' an_nodes' : Option Addr} {sl_nodes' : Array (Option Value)} {oc_nodes' kV_nodes' dc_nodes' pm_nodes' cd_nodes' ct_nodes' : Value}
    {od_text an_text : Option Addr} {sl_text : Array (Option Value)} {oc_text kV_text dc_text pm_text cd_text ct_text : Value}
    {od_made_term an_made_term : Option Addr} {sl_made_term : Array (Option Value)} {oc_made_term kV_made_term dc_made_term pm_made_term cd_made_term ct_made_term : Value}
    {od_term' an_term' : Option Addr} {sl_term' : Array (Option Value)} {oc_term' kV_term' dc_term' pm_term' cd_term' ct_term' : Value}
    {od_small_term an_small_term : Option Addr} {sl_small_term : Array (Option Value)} {oc_small_term kV_small_term dc_small_term pm_small_term cd_small_term ct_small_term : Value}
    {od_drawn_term an_drawn_term : Option Addr} {sl_drawn_term : Array (Option Value)} {oc_drawn_term kV_drawn_term dc_drawn_term pm_drawn_term cd_drawn_term ct_drawn_term : Value}
    {od_word_end an_word_end : Option Addr} {sl_word_end : Array (Option Value)} {oc_word_end kV_word_end dc_word_end pm_word_end cd_word_end ct_word_end : Value}
    {od_read an_read : Option Addr} {sl_read : Array (Option Value)} {oc_read kV_read dc_read pm_read cd_read ct_read : Value}
    {od_due an_due : Option Addr} {sl_due : Array (Option Value)} {oc_due kV_due dc_due pm_due cd_due ct_due : Value}
    {od_bent an_bent : Option Addr} {sl_bent : Array (Option Value)} {oc_bent kV_bent dc_bent pm_bent cd_bent ct_bent : Value}
    {od_nodes_of an_nodes_of : Option Addr} {sl_nodes_of : Array (Option Value)} {oc_nodes_of kV_nodes_of dc_nodes_of pm_nodes_of cd_nodes_of ct_nodes_of : Value}
    {od_told an_told : Option Addr} {sl_told : Array (Option Value)} {oc_told kV_told dc_told pm_told cd_told ct_told : Value}
    {od_right an_right : Option Addr} {sl_right : Array (Option Value)} {oc_right kV_right dc_right pm_right cd_right ct_right : Value}
    {od_law an_law : Option Addr} {sl_law : Array (Option Value)} {oc_law kV_law dc_law pm_law cd_law ct_law : Value}
    {t_LONGEST : Tok}
    {t_MAX_LETTERS : Tok}
    {t_MAX_ARITY : Tok}
    {t_MAX_NODES : Tok}
    {t_ANY : Tok}
    {t_LOST : Tok}
    {t_LETTERS : Tok}
    {t_SIGNS : Tok}
    {onm oq oN obs obm osn osub oab ocol odd oe0 oe1 oe2 oe3 oe5}
    (a_C : PySem.W.nsIn K mainGlobals "Term" = some (some (.ref C)))
    (a_CN : PySem.W.nsIn K mainGlobals "Nodes" = some (some (.ref CN)))
    (a_CR : PySem.W.nsIn K mainGlobals "Reader" = some (some (.ref CR)))
    (a_CI : PySem.W.nsIn K mainGlobals "InvalidTerm" = some (some (.ref CI)))
    (a_CP : PySem.W.nsIn K mainGlobals "ParseError" = some (some (.ref CP)))
    (a_Term_init : PySem.W.findIn K (.ref C) "__init__" = some (some (.ref f_Term_init)))
    (i_Term_init : PySem.W.isFn K (.ref f_Term_init) = true)
    (l_Term_init : K.lookup f_Term_init = some ⟨oc_Term_init, od_Term_init, .func (PySem.W.fnOf "__init__" "Term.__init__" (defArgs s_Term_init) (defBody s_Term_init) (defScope s_Term_init) .none kV_Term_init dc_Term_init pm_Term_init an_Term_init cd_Term_init ct_Term_init), sl_Term_init⟩)
    (c_Term_init : PySem.W.codeIn K cd_Term_init "Term.__init__" = true)
    (k_Term_init : PySem.W.keepIn K (.ref f_Term_init) = true)
    (x_Term_init : PySem.W.fnIn K f_Term_init = true)
    (a_Term_eq : PySem.W.findIn K (.ref C) "__eq__" = some (some (.ref f_Term_eq)))
    (i_Term_eq : PySem.W.isFn K (.ref f_Term_eq) = true)
    (l_Term_eq : K.lookup f_Term_eq = some ⟨oc_Term_eq, od_Term_eq, .func (PySem.W.fnOf "__eq__" "Term.__eq__" (defArgs s_Term_eq) (defBody s_Term_eq) (defScope s_Term_eq) .none kV_Term_eq dc_Term_eq pm_Term_eq an_Term_eq cd_Term_eq ct_Term_eq), sl_Term_eq⟩)
    (c_Term_eq : PySem.W.codeIn K cd_Term_eq "Term.__eq__" = true)
    (k_Term_eq : PySem.W.keepIn K (.ref f_Term_eq) = true)
    (x_Term_eq : PySem.W.fnIn K f_Term_eq = true)
    (a_Reader_init : PySem.W.findIn K (.ref CR) "__init__" = some (some (.ref f_Reader_init)))
    (i_Reader_init : PySem.W.isFn K (.ref f_Reader_init) = true)
    (l_Reader_init : K.lookup f_Reader_init = some ⟨oc_Reader_init, od_Reader_init, .func (PySem.W.fnOf "__init__" "Reader.__init__" (defArgs s_Reader_init) (defBody s_Reader_init) (defScope s_Reader_init) .none kV_Reader_init dc_Reader_init pm_Reader_init an_Reader_init cd_Reader_init ct_Reader_init), sl_Reader_init⟩)
    (c_Reader_init : PySem.W.codeIn K cd_Reader_init "Reader.__init__" = true)
    (k_Reader_init : PySem.W.keepIn K (.ref f_Reader_init) = true)
    (x_Reader_init : PySem.W.fnIn K f_Reader_init = true)
    (a_Reader_take : PySem.W.findIn K (.ref CR) "take" = some (some (.ref f_Reader_take)))
    (i_Reader_take : PySem.W.isFn K (.ref f_Reader_take) = true)
    (l_Reader_take : K.lookup f_Reader_take = some ⟨oc_Reader_take, od_Reader_take, .func (PySem.W.fnOf "take" "Reader.take" (defArgs s_Reader_take) (defBody s_Reader_take) (defScope s_Reader_take) .none kV_Reader_take dc_Reader_take pm_Reader_take an_Reader_take cd_Reader_take ct_Reader_take), sl_Reader_take⟩)
    (c_Reader_take : PySem.W.codeIn K cd_Reader_take "Reader.take" = true)
    (k_Reader_take : PySem.W.keepIn K (.ref f_Reader_take) = true)
    (x_Reader_take : PySem.W.fnIn K f_Reader_take = true)
    (a_Reader_take_word : PySem.W.findIn K (.ref CR) "take_word" = some (some (.ref f_Reader_take_word)))
    (i_Reader_take_word : PySem.W.isFn K (.ref f_Reader_take_word) = true)
    (l_Reader_take_word : K.lookup f_Reader_take_word = some ⟨oc_Reader_take_word, od_Reader_take_word, .func (PySem.W.fnOf "take_word" "Reader.take_word" (defArgs s_Reader_take_word) (defBody s_Reader_take_word) (defScope s_Reader_take_word) .none kV_Reader_take_word dc_Reader_take_word pm_Reader_take_word an_Reader_take_word cd_Reader_take_word ct_Reader_take_word), sl_Reader_take_word⟩)
    (c_Reader_take_word : PySem.W.codeIn K cd_Reader_take_word "Reader.take_word" = true)
    (k_Reader_take_word : PySem.W.keepIn K (.ref f_Reader_take_word) = true)
    (x_Reader_take_word : PySem.W.fnIn K f_Reader_take_word = true)
    (a_ParseError_init : PySem.W.findIn K (.ref CP) "__init__" = some (some (.ref f_ParseError_init)))
    (i_ParseError_init : PySem.W.isFn K (.ref f_ParseError_init) = true)
    (l_ParseError_init : K.lookup f_ParseError_init = some ⟨oc_ParseError_init, od_ParseError_init, .func (PySem.W.fnOf "__init__" "ParseError.__init__" (defArgs s_ParseError_init) (defBody s_ParseError_init) (defScope s_ParseError_init) .none kV_ParseError_init dc_ParseError_init pm_ParseError_init an_ParseError_init cd_ParseError_init ct_ParseError_init), sl_ParseError_init⟩)
    (c_ParseError_init : PySem.W.codeIn K cd_ParseError_init "ParseError.__init__" = true)
    (k_ParseError_init : PySem.W.keepIn K (.ref f_ParseError_init) = true)
    (x_ParseError_init : PySem.W.fnIn K f_ParseError_init = true)
    (a_Term_read : PySem.W.findCls K (.ref C) (.type "type") "read" = some (.get (.builtin "classmethod.__get__") (.ref p_Term_read) .none (.ref C)))
    (r_Term_read : PySem.W.recIn K p_Term_read "classmethod" = some (.ref f_Term_read :: rest_Term_read))
    (l_Term_read : K.lookup f_Term_read = some ⟨oc_Term_read, od_Term_read, .func (PySem.W.fnOf "read" "Term.read" (defArgs s_Term_read) (defBody s_Term_read) (defScope s_Term_read) .none kV_Term_read dc_Term_read pm_Term_read an_Term_read cd_Term_read ct_Term_read), sl_Term_read⟩)
    (c_Term_read : PySem.W.codeIn K cd_Term_read "Term.read" = true)
    (k_Term_read : PySem.W.keepIn K (.ref f_Term_read) = true)
    (x_Term_read : PySem.W.fnIn K f_Term_read = true)
    (a_Term_text : PySem.W.findIn K (.ref C) "text" = some (some (.ref p_Term_text)))
    (t_Term_text : PySem.W.typeIn K (.ref p_Term_text) = some (.type "property"))
    (g_Term_text : PySem.W.specialIn K (.ref p_Term_text) "__get__" = some (some (.builtin "property.__get__")))
    (tk_Term_text : PySem.W.takesIn K (.ref p_Term_text) = some true)
    (r_Term_text : PySem.W.recIn K p_Term_text "property" = some (.ref f_Term_text :: rest_Term_text))
    (l_Term_text : K.lookup f_Term_text = some ⟨oc_Term_text, od_Term_text, .func (PySem.W.fnOf "text" "Term.text" (defArgs s_Term_text) (defBody s_Term_text) (defScope s_Term_text) .none kV_Term_text dc_Term_text pm_Term_text an_Term_text cd_Term_text ct_Term_text), sl_Term_text⟩)
    (c_Term_text : PySem.W.codeIn K cd_Term_text "Term.text" = true)
    (k_Term_text : PySem.W.keepIn K (.ref f_Term_text) = true)
    (x_Term_text : PySem.W.fnIn K f_Term_text = true)
    (pg_C : PySem.W.plainGet K C Str.empty = true)
    (hd_C : PySem.W.hasDictIn K C = true)
    (po_C : PySem.W.plainOver K C = true)
    (sa_C : PySem.W.findIn K (.ref C) "__setattr__" = some (some (.builtin "object.__setattr__")))
    (ha_C : PySem.W.findIn K (.ref C) "__class__" = some (some (.builtin "object.__class__")))
    (hn_C : PySem.W.specialIn K (.builtin "object.__class__") "__get__" = some (some (.builtin "getset_descriptor.__get__")))
    (ht_C : PySem.W.takesIn K (.builtin "object.__class__") = some true)
    (hm_C : PySem.W.mroIn K C (.type "object") = some true)
    (mk_C : PySem.W.makesIn K C = true)
    (kc_C : PySem.W.keepIn K (.ref C) = true)
    (is_C : PySem.W.kitOne K (.ref C) (.ref C) = some true)
    (no_C_int : PySem.W.kitOne K (.ref C) (.type "int") = some false)
    (no_C_bool : PySem.W.kitOne K (.ref C) (.type "bool") = some false)
    (no_C_str : PySem.W.kitOne K (.ref C) (.type "str") = some false)
    (no_C_list : PySem.W.kitOne K (.ref C) (.type "list") = some false)
    (no_C_tuple : PySem.W.kitOne K (.ref C) (.type "tuple") = some false)
    (no_C_dict : PySem.W.kitOne K (.ref C) (.type "dict") = some false)
    (nt_C_NoneType : PySem.W.kitOne K (.type "NoneType") (.ref C) = some false)
    (nt_C_bool : PySem.W.kitOne K (.type "bool") (.ref C) = some false)
    (nt_C_int : PySem.W.kitOne K (.type "int") (.ref C) = some false)
    (nt_C_str : PySem.W.kitOne K (.type "str") (.ref C) = some false)
    (nt_C_list : PySem.W.kitOne K (.type "list") (.ref C) = some false)
    (nt_C_tuple : PySem.W.kitOne K (.type "tuple") (.ref C) = some false)
    (nt_C_dict : PySem.W.kitOne K (.type "dict") (.ref C) = some false)
    (pg_CN : PySem.W.plainGet K CN Str.empty = true)
    (hd_CN : PySem.W.hasDictIn K CN = true)
    (po_CN : PySem.W.plainOver K CN = true)
    (sa_CN : PySem.W.findIn K (.ref CN) "__setattr__" = some (some (.builtin "object.__setattr__")))
    (ha_CN : PySem.W.findIn K (.ref CN) "__class__" = some (some (.builtin "object.__class__")))
    (hn_CN : PySem.W.specialIn K (.builtin "object.__class__") "__get__" = some (some (.builtin "getset_descriptor.__get__")))
    (ht_CN : PySem.W.takesIn K (.builtin "object.__class__") = some true)
    (hm_CN : PySem.W.mroIn K CN (.type "object") = some true)
    (mk_CN : PySem.W.makesIn K CN = true)
    (kc_CN : PySem.W.keepIn K (.ref CN) = true)
    (is_CN : PySem.W.kitOne K (.ref CN) (.ref CN) = some true)
    (no_CN_int : PySem.W.kitOne K (.ref CN) (.type "int") = some false)
    (no_CN_bool : PySem.W.kitOne K (.ref CN) (.type "bool") = some false)
    (no_CN_str : PySem.W.kitOne K (.ref CN) (.type "str") = some false)
    (no_CN_list : PySem.W.kitOne K (.ref CN) (.type "list") = some false)
    (no_CN_tuple : PySem.W.kitOne K (.ref CN) (.type "tuple") = some false)
    (no_CN_dict : PySem.W.kitOne K (.ref CN) (.type "dict") = some false)
    (nt_CN_NoneType : PySem.W.kitOne K (.type "NoneType") (.ref CN) = some false)
    (nt_CN_bool : PySem.W.kitOne K (.type "bool") (.ref CN) = some false)
    (nt_CN_int : PySem.W.kitOne K (.type "int") (.ref CN) = some false)
    (nt_CN_str : PySem.W.kitOne K (.type "str") (.ref CN) = some false)
    (nt_CN_list : PySem.W.kitOne K (.type "list") (.ref CN) = some false)
    (nt_CN_tuple : PySem.W.kitOne K (.type "tuple") (.ref CN) = some false)
    (nt_CN_dict : PySem.W.kitOne K (.type "dict") (.ref CN) = some false)
    (pg_CR : PySem.W.plainGet K CR Str.empty = true)
    (hd_CR : PySem.W.hasDictIn K CR = true)
    (po_CR : PySem.W.plainOver K CR = true)
    (sa_CR : PySem.W.findIn K (.ref CR) "__setattr__" = some (some (.builtin "object.__setattr__")))
    (ha_CR : PySem.W.findIn K (.ref CR) "__class__" = some (some (.builtin "object.__class__")))
    (hn_CR : PySem.W.specialIn K (.builtin "object.__class__") "__get__" = some (some (.builtin "getset_descriptor.__get__")))
    (ht_CR : PySem.W.takesIn K (.builtin "object.__class__") = some true)
    (hm_CR : PySem.W.mroIn K CR (.type "object") = some true)
    (mk_CR : PySem.W.makesIn K CR = true)
    (kc_CR : PySem.W.keepIn K (.ref CR) = true)
    (is_CR : PySem.W.kitOne K (.ref CR) (.ref CR) = some true)
    (no_CR_int : PySem.W.kitOne K (.ref CR) (.type "int") = some false)
    (no_CR_bool : PySem.W.kitOne K (.ref CR) (.type "bool") = some false)
    (no_CR_str : PySem.W.kitOne K (.ref CR) (.type "str") = some false)
    (no_CR_list : PySem.W.kitOne K (.ref CR) (.type "list") = some false)
    (no_CR_tuple : PySem.W.kitOne K (.ref CR) (.type "tuple") = some false)
    (no_CR_dict : PySem.W.kitOne K (.ref CR) (.type "dict") = some false)
    (nt_CR_NoneType : PySem.W.kitOne K (.type "NoneType") (.ref CR) = some false)
    (nt_CR_bool : PySem.W.kitOne K (.type "bool") (.ref CR) = some false)
    (nt_CR_int : PySem.W.kitOne K (.type "int") (.ref CR) = some false)
    (nt_CR_str : PySem.W.kitOne K (.type "str") (.ref CR) = some false)
    (nt_CR_list : PySem.W.kitOne K (.type "list") (.ref CR) = some false)
    (nt_CR_tuple : PySem.W.kitOne K (.type "tuple") (.ref CR) = some false)
    (nt_CR_dict : PySem.W.kitOne K (.type "dict") (.ref CR) = some false)
    (xx_CI : PySem.W.excIn K CI [.type "ValueError", .type "Exception", .type "BaseException", .type "object"] "ValueError.__new__" = true)
    (xk_CI : PySem.W.keepIn K (.ref CI) = true)
    (xb_CI : PySem.W.subIn K (.ref CI) (.type "BaseException") = some true)
    (xt_CI : PySem.W.typeIn K (.ref CI) = some (.type "type"))
    (xi_CI : PySem.W.isClsIn K CI = true)
    (xs_CI : PySem.W.subIn K (.ref CI) (.ref CI) = some true)
    (n1 : PySem.W.findIn K (.ref C) "own_nodes" = some none)
    (n2 : PySem.W.findIn K (.ref C) "own_children" = some none)
    (n3 : PySem.W.findIn K (.ref C) "own_ends" = some none)
    (n4 : PySem.W.findIn K (.ref C) "own_symbols" = some none)
    (n5 : PySem.W.findIn K (.ref C) "own_unknown" = some none)
    (n6 : PySem.W.findIn K (.ref C) "own_lost" = some none)
    (r1 : PySem.W.findIn K (.ref CR) "of_nodes" = some none)
    (r2 : PySem.W.findIn K (.ref CR) "of_open" = some none)
    (r3 : PySem.W.findIn K (.ref CR) "of_wants" = some none)
    (r4 : PySem.W.findIn K (.ref CR) "of_last" = some none)
    (rdC : PySem.W.readsIn K C (.type "type") = true)
    (gaC : PySem.W.specialIn K (.ref C) "__getattribute__" = some (some (.builtin "type.__getattribute__")))
    (ne_C : PySem.W.findIn K (.ref C) "__ne__" = some (some (.builtin "object.__ne__")))
    (xk_CP : PySem.W.keepIn K (.ref CP) = true)
    (xb_CP : PySem.W.subIn K (.ref CP) (.type "BaseException") = some true)
    (xt_CP : PySem.W.typeIn K (.ref CP) = some (.type "type"))
    (xi_CP : PySem.W.isClsIn K CP = true)
    (xs_CP : PySem.W.subIn K (.ref CP) (.ref CP) = some true)
    (ip : PySem.W.subIn K (.ref CI) (.ref CP) = some false)
    (oe_CP : K.lookup CP = some (PySem.excClassObj onm oq CP oN obs obm true osn osub oab ocol odd oe0 oe1 oe2 oe3 oe5 "ValueError.__new__"))
    (or_CP : PySem.HandSPX.refsVE obm = true)
    (sa_CP : PySem.W.findIn K (.ref CP) "__setattr__" = some (some (.builtin "object.__setattr__")))
    (ga_CP : PySem.W.findIn K (.ref CP) "__getattribute__" = some (some (.builtin "BaseException.__getattribute__")))
    (gg_CP : PySem.W.findIn K (.ref CP) "__getattr__" = some none)
    (hd_CP : PySem.W.hasDictIn K CP = true)
    (no_CP : PySem.W.findIn K (.ref CP) "line" = some none)
    (ti_CP : PySem.W.typeIn K (.ref f_ParseError_init) = some (.type "function"))
    (a_dice : PySem.W.nsIn K mainGlobals "_law_dice" = some (some (.ref f_dice)))
    (l_dice : K.lookup f_dice = some ⟨oc_dice, od_dice, .func (PySem.W.fnOf "_law_dice" "_law_dice" (defArgs s_dice) (defBody s_dice) (defScope s_dice) .none kV_dice dc_dice pm_dice an_dice cd_dice ct_dice), sl_dice⟩)
    (c_dice : PySem.W.codeIn K cd_dice "_law_dice" = true)
    (k_dice : PySem.W.keepIn K (.ref f_dice) = true)
    (a_roll : PySem.W.nsIn K mainGlobals "_law_roll" = some (some (.ref f_roll)))
    (l_roll : K.lookup f_roll = some ⟨oc_roll, od_roll, .func (PySem.W.fnOf "_law_roll" "_law_roll" (defArgs s_roll) (defBody s_roll) (defScope s_roll) .none kV_roll dc_roll pm_roll an_roll cd_roll ct_roll), sl_roll⟩)
    (c_roll : PySem.W.codeIn K cd_roll "_law_roll" = true)
    (k_roll : PySem.W.keepIn K (.ref f_roll) = true)
    (a_pick : PySem.W.nsIn K mainGlobals "_law_pick" = some (some (.ref f_pick)))
    (l_pick : K.lookup f_pick = some ⟨oc_pick, od_pick, .func (PySem.W.fnOf "_law_pick" "_law_pick" (defArgs s_pick) (defBody s_pick) (defScope s_pick) .none kV_pick dc_pick pm_pick an_pick cd_pick ct_pick), sl_pick⟩)
    (c_pick : PySem.W.codeIn K cd_pick "_law_pick" = true)
    (k_pick : PySem.W.keepIn K (.ref f_pick) = true)
    (a_is_integer : PySem.W.nsIn K mainGlobals "is_integer" = some (some (.ref f_is_integer)))
    (l_is_integer : K.lookup f_is_integer = some ⟨oc_is_integer, od_is_integer, .func (PySem.W.fnOf "is_integer" "is_integer" (defArgs s_is_integer) (defBody s_is_integer) (defScope s_is_integer) .none kV_is_integer dc_is_integer pm_is_integer an_is_integer cd_is_integer ct_is_integer), sl_is_integer⟩)
    (c_is_integer : PySem.W.codeIn K cd_is_integer "is_integer" = true)
    (k_is_integer : PySem.W.keepIn K (.ref f_is_integer) = true)
    (a_is_within : PySem.W.nsIn K mainGlobals "is_within" = some (some (.ref f_is_within)))
    (l_is_within : K.lookup f_is_within = some ⟨oc_is_within, od_is_within, .func (PySem.W.fnOf "is_within" "is_within" (defArgs s_is_within) (defBody s_is_within) (defScope s_is_within) .none kV_is_within dc_is_within pm_is_within an_is_within cd_is_within ct_is_within), sl_is_within⟩)
    (c_is_within : PySem.W.codeIn K cd_is_within "is_within" = true)
    (k_is_within : PySem.W.keepIn K (.ref f_is_within) = true)
    (a_is_word : PySem.W.nsIn K mainGlobals "is_word" = some (some (.ref f_is_word)))
    (l_is_word : K.lookup f_is_word = some ⟨oc_is_word, od_is_word, .func (PySem.W.fnOf "is_word" "is_word" (defArgs s_is_word) (defBody s_is_word) (defScope s_is_word) .none kV_is_word dc_is_word pm_is_word an_is_word cd_is_word ct_is_word), sl_is_word⟩)
    (c_is_word : PySem.W.codeIn K cd_is_word "is_word" = true)
    (k_is_word : PySem.W.keepIn K (.ref f_is_word) = true)
    (a_is_node : PySem.W.nsIn K mainGlobals "is_node" = some (some (.ref f_is_node)))
    (l_is_node : K.lookup f_is_node = some ⟨oc_is_node, od_is_node, .func (PySem.W.fnOf "is_node" "is_node" (defArgs s_is_node) (defBody s_is_node) (defScope s_is_node) .none kV_is_node dc_is_node pm_is_node an_is_node cd_is_node ct_is_node), sl_is_node⟩)
    (c_is_node : PySem.W.codeIn K cd_is_node "is_node" = true)
    (k_is_node : PySem.W.keepIn K (.ref f_is_node) = true)
    (a_ascending_rows : PySem.W.nsIn K mainGlobals "ascending_rows" = some (some (.ref f_ascending_rows)))
    (l_ascending_rows : K.lookup f_ascending_rows = some ⟨oc_ascending_rows, od_ascending_rows, .func (PySem.W.fnOf "ascending_rows" "ascending_rows" (defArgs s_ascending_rows) (defBody s_ascending_rows) (defScope s_ascending_rows) .none kV_ascending_rows dc_ascending_rows pm_ascending_rows an_ascending_rows cd_ascending_rows ct_ascending_rows), sl_ascending_rows⟩)
    (c_ascending_rows : PySem.W.codeIn K cd_ascending_rows "ascending_rows" = true)
    (k_ascending_rows : PySem.W.keepIn K (.ref f_ascending_rows) = true)
    (a_children_of : PySem.W.nsIn K mainGlobals "children_of" = some (some (.ref f_children_of)))
    (l_children_of : K.lookup f_children_of = some ⟨oc_children_of, od_children_of, .func (PySem.W.fnOf "children_of" "children_of" (defArgs s_children_of) (defBody s_children_of) (defScope s_children_of) .none kV_children_of dc_children_of pm_children_of an_children_of cd_children_of ct_children_of), sl_children_of⟩)
    (c_children_of : PySem.W.codeIn K cd_children_of "children_of" = true)
    (k_children_of : PySem.W.keepIn K (.ref f_children_of) = true)
    (a_ends_of : PySem.W.nsIn K mainGlobals "ends_of" = some (some (.ref f_ends_of)))
    (l_ends_of : K.lookup f_ends_of = some ⟨oc_ends_of, od_ends_of, .func (PySem.W.fnOf "ends_of" "ends_of" (defArgs s_ends_of) (defBody s_ends_of) (defScope s_ends_of) .none kV_ends_of dc_ends_of pm_ends_of an_ends_of cd_ends_of ct_ends_of), sl_ends_of⟩)
    (c_ends_of : PySem.W.codeIn K cd_ends_of "ends_of" = true)
    (k_ends_of : PySem.W.keepIn K (.ref f_ends_of) = true)
    (a_arities_in : PySem.W.nsIn K mainGlobals "arities_in" = some (some (.ref f_arities_in)))
    (l_arities_in : K.lookup f_arities_in = some ⟨oc_arities_in, od_arities_in, .func (PySem.W.fnOf "arities_in" "arities_in" (defArgs s_arities_in) (defBody s_arities_in) (defScope s_arities_in) .none kV_arities_in dc_arities_in pm_arities_in an_arities_in cd_arities_in ct_arities_in), sl_arities_in⟩)
    (c_arities_in : PySem.W.codeIn K cd_arities_in "arities_in" = true)
    (k_arities_in : PySem.W.keepIn K (.ref f_arities_in) = true)
    (a_is_term_row : PySem.W.nsIn K mainGlobals "is_term_row" = some (some (.ref f_is_term_row)))
    (l_is_term_row : K.lookup f_is_term_row = some ⟨oc_is_term_row, od_is_term_row, .func (PySem.W.fnOf "is_term_row" "is_term_row" (defArgs s_is_term_row) (defBody s_is_term_row) (defScope s_is_term_row) .none kV_is_term_row dc_is_term_row pm_is_term_row an_is_term_row cd_is_term_row ct_is_term_row), sl_is_term_row⟩)
    (c_is_term_row : PySem.W.codeIn K cd_is_term_row "is_term_row" = true)
    (k_is_term_row : PySem.W.keepIn K (.ref f_is_term_row) = true)
    (a_text_of : PySem.W.nsIn K mainGlobals "text_of" = some (some (.ref f_text_of)))
    (l_text_of : K.lookup f_text_of = some ⟨oc_text_of, od_text_of, .func (PySem.W.fnOf "text_of" "text_of" (defArgs s_text_of) (defBody s_text_of) (defScope s_text_of) .none kV_text_of dc_text_of pm_text_of an_text_of cd_text_of ct_text_of), sl_text_of⟩)
    (c_text_of : PySem.W.codeIn K cd_text_of "text_of" = true)
    (k_text_of : PySem.W.keepIn K (.ref f_text_of) = true)
    (a_places_with : PySem.W.nsIn K mainGlobals "places_with" = some (some (.ref f_places_with)))
    (l_places_with : K.lookup f_places_with = some ⟨oc_places_with, od_places_with, .func (PySem.W.fnOf "places_with" "places_with" (defArgs s_places_with) (defBody s_places_with) (defScope s_places_with) .none kV_places_with dc_places_with pm_places_with an_places_with cd_places_with ct_places_with), sl_places_with⟩)
    (c_places_with : PySem.W.codeIn K cd_places_with "places_with" = true)
    (k_places_with : PySem.W.keepIn K (.ref f_places_with) = true)
    (a_tokens_of : PySem.W.nsIn K mainGlobals "tokens_of" = some (some (.ref f_tokens_of)))
    (l_tokens_of : K.lookup f_tokens_of = some ⟨oc_tokens_of, od_tokens_of, .func (PySem.W.fnOf "tokens_of" "tokens_of" (defArgs s_tokens_of) (defBody s_tokens_of) (defScope s_tokens_of) .none kV_tokens_of dc_tokens_of pm_tokens_of an_tokens_of cd_tokens_of ct_tokens_of), sl_tokens_of⟩)
    (c_tokens_of : PySem.W.codeIn K cd_tokens_of "tokens_of" = true)
    (k_tokens_of : PySem.W.keepIn K (.ref f_tokens_of) = true)
    (a_nodes' : PySem.W.nsIn K mainGlobals "_law_nodes" = some (some (.ref f_nodes')))
    (l_nodes' : K.lookup f_nodes' = some ⟨oc_nodes', od_nodes', .func (PySem.W.fnOf "_law_nodes" "_law_nodes" (defArgs s_nodes') (defBody s_nodes') (defScope s_nodes') .none kV_nodes' dc_nodes' pm_nodes' an_nodes' cd_nodes' ct_nodes'), sl_nodes'⟩)
    (c_nodes' : PySem.W.codeIn K cd_nodes' "_law_nodes" = true)
    (k_nodes' : PySem.W.keepIn K (.ref f_nodes') = true)
    (a_text : PySem.W.nsIn K mainGlobals "_law_text" = some (some (.ref f_text)))
    (l_text : K.lookup f_text = some ⟨oc_text, od_text, .func (PySem.W.fnOf "_law_text" "_law_text" (defArgs s_text) (defBody s_text) (defScope s_text) .none kV_text dc_text pm_text an_text cd_text ct_text), sl_text⟩)
    (c_text : PySem.W.codeIn K cd_text "_law_text" = true)
    (k_text : PySem.W.keepIn K (.ref f_text) = true)
    (a_made_term : PySem.W.nsIn K mainGlobals "_law_made_term" = some (some (.ref f_made_term)))
    (l_made_term : K.lookup f_made_term = some ⟨oc_made_term, od_made_term, .func (PySem.W.fnOf "_law_made_term" "_law_made_term" (defArgs s_made_term) (defBody s_made_term) (defScope s_made_term) .none kV_made_term dc_made_term pm_made_term an_made_term cd_made_term ct_made_term), sl_made_term⟩)
    (c_made_term : PySem.W.codeIn K cd_made_term "_law_made_term" = true)
    (k_made_term : PySem.W.keepIn K (.ref f_made_term) = true)
    (a_term' : PySem.W.nsIn K mainGlobals "_law_term" = some (some (.ref f_term')))
    (l_term' : K.lookup f_term' = some ⟨oc_term', od_term', .func (PySem.W.fnOf "_law_term" "_law_term" (defArgs s_term') (defBody s_term') (defScope s_term') .none kV_term' dc_term' pm_term' an_term' cd_term' ct_term'), sl_term'⟩)
    (c_term' : PySem.W.codeIn K cd_term' "_law_term" = true)
    (k_term' : PySem.W.keepIn K (.ref f_term') = true)
    (a_small_term : PySem.W.nsIn K mainGlobals "_law_small_term" = some (some (.ref f_small_term)))
    (l_small_term : K.lookup f_small_term = some ⟨oc_small_term, od_small_term, .func (PySem.W.fnOf "_law_small_term" "_law_small_term" (defArgs s_small_term) (defBody s_small_term) (defScope s_small_term) .none kV_small_term dc_small_term pm_small_term an_small_term cd_small_term ct_small_term), sl_small_term⟩)
    (c_small_term : PySem.W.codeIn K cd_small_term "_law_small_term" = true)
    (k_small_term : PySem.W.keepIn K (.ref f_small_term) = true)
    (a_drawn_term : PySem.W.nsIn K mainGlobals "_law_drawn_term" = some (some (.ref f_drawn_term)))
    (l_drawn_term : K.lookup f_drawn_term = some ⟨oc_drawn_term, od_drawn_term, .func (PySem.W.fnOf "_law_drawn_term" "_law_drawn_term" (defArgs s_drawn_term) (defBody s_drawn_term) (defScope s_drawn_term) .none kV_drawn_term dc_drawn_term pm_drawn_term an_drawn_term cd_drawn_term ct_drawn_term), sl_drawn_term⟩)
    (c_drawn_term : PySem.W.codeIn K cd_drawn_term "_law_drawn_term" = true)
    (k_drawn_term : PySem.W.keepIn K (.ref f_drawn_term) = true)
    (a_word_end : PySem.W.nsIn K mainGlobals "_law_word_end" = some (some (.ref f_word_end)))
    (l_word_end : K.lookup f_word_end = some ⟨oc_word_end, od_word_end, .func (PySem.W.fnOf "_law_word_end" "_law_word_end" (defArgs s_word_end) (defBody s_word_end) (defScope s_word_end) .none kV_word_end dc_word_end pm_word_end an_word_end cd_word_end ct_word_end), sl_word_end⟩)
    (c_word_end : PySem.W.codeIn K cd_word_end "_law_word_end" = true)
    (k_word_end : PySem.W.keepIn K (.ref f_word_end) = true)
    (a_read : PySem.W.nsIn K mainGlobals "_law_read" = some (some (.ref f_read)))
    (l_read : K.lookup f_read = some ⟨oc_read, od_read, .func (PySem.W.fnOf "_law_read" "_law_read" (defArgs s_read) (defBody s_read) (defScope s_read) .none kV_read dc_read pm_read an_read cd_read ct_read), sl_read⟩)
    (c_read : PySem.W.codeIn K cd_read "_law_read" = true)
    (k_read : PySem.W.keepIn K (.ref f_read) = true)
    (a_due : PySem.W.nsIn K mainGlobals "_law_due" = some (some (.ref f_due)))
    (l_due : K.lookup f_due = some ⟨oc_due, od_due, .func (PySem.W.fnOf "_law_due" "_law_due" (defArgs s_due) (defBody s_due) (defScope s_due) .none kV_due dc_due pm_due an_due cd_due ct_due), sl_due⟩)
    (c_due : PySem.W.codeIn K cd_due "_law_due" = true)
    (k_due : PySem.W.keepIn K (.ref f_due) = true)
    (a_bent : PySem.W.nsIn K mainGlobals "_law_bent" = some (some (.ref f_bent)))
    (l_bent : K.lookup f_bent = some ⟨oc_bent, od_bent, .func (PySem.W.fnOf "_law_bent" "_law_bent" (defArgs s_bent) (defBody s_bent) (defScope s_bent) .none kV_bent dc_bent pm_bent an_bent cd_bent ct_bent), sl_bent⟩)
    (c_bent : PySem.W.codeIn K cd_bent "_law_bent" = true)
    (k_bent : PySem.W.keepIn K (.ref f_bent) = true)
    (a_nodes_of : PySem.W.nsIn K mainGlobals "nodes_of" = some (some (.ref f_nodes_of)))
    (l_nodes_of : K.lookup f_nodes_of = some ⟨oc_nodes_of, od_nodes_of, .func (PySem.W.fnOf "nodes_of" "nodes_of" (defArgs s_nodes_of) (defBody s_nodes_of) (defScope s_nodes_of) .none kV_nodes_of dc_nodes_of pm_nodes_of an_nodes_of cd_nodes_of ct_nodes_of), sl_nodes_of⟩)
    (c_nodes_of : PySem.W.codeIn K cd_nodes_of "nodes_of" = true)
    (k_nodes_of : PySem.W.keepIn K (.ref f_nodes_of) = true)
    (a_told : PySem.W.nsIn K mainGlobals "_law_told" = some (some (.ref f_told)))
    (l_told : K.lookup f_told = some ⟨oc_told, od_told, .func (PySem.W.fnOf "_law_told" "_law_told" (defArgs s_told) (defBody s_told) (defScope s_told) .none kV_told dc_told pm_told an_told cd_told ct_told), sl_told⟩)
    (c_told : PySem.W.codeIn K cd_told "_law_told" = true)
    (k_told : PySem.W.keepIn K (.ref f_told) = true)
    (a_right : PySem.W.nsIn K mainGlobals "_law_right" = some (some (.ref f_right)))
    (l_right : K.lookup f_right = some ⟨oc_right, od_right, .func (PySem.W.fnOf "_law_right" "_law_right" (defArgs s_right) (defBody s_right) (defScope s_right) .none kV_right dc_right pm_right an_right cd_right ct_right), sl_right⟩)
    (c_right : PySem.W.codeIn K cd_right "_law_right" = true)
    (k_right : PySem.W.keepIn K (.ref f_right) = true)
    (a_law : PySem.W.nsIn K mainGlobals "law" = some (some (.ref f_law)))
    (l_law : K.lookup f_law = some ⟨oc_law, od_law, .func (PySem.W.fnOf "law" "law" (defArgs s_law) (defBody s_law) (defScope s_law) .none kV_law dc_law pm_law an_law cd_law ct_law), sl_law⟩)
    (c_law : PySem.W.codeIn K cd_law "law" = true)
    (k_law : PySem.W.keepIn K (.ref f_law) = true)
    (z_len : PySem.W.nsIn K mainGlobals "len" = some none)
    (z_int : PySem.W.nsIn K mainGlobals "int" = some none)
    (z_bool : PySem.W.nsIn K mainGlobals "bool" = some none)
    (z_str : PySem.W.nsIn K mainGlobals "str" = some none)
    (z_list : PySem.W.nsIn K mainGlobals "list" = some none)
    (z_tuple : PySem.W.nsIn K mainGlobals "tuple" = some none)
    (z_dict : PySem.W.nsIn K mainGlobals "dict" = some none)
    (z_abs : PySem.W.nsIn K mainGlobals "abs" = some none)
    (z_max : PySem.W.nsIn K mainGlobals "max" = some none)
    (z_min : PySem.W.nsIn K mainGlobals "min" = some none)
    (z_range : PySem.W.nsIn K mainGlobals "range" = some none)
    (z_repr : PySem.W.nsIn K mainGlobals "repr" = some none)
    (z_isinstance : PySem.W.nsIn K mainGlobals "isinstance" = some none)
    (z_all : PySem.W.nsIn K mainGlobals "all" = some none)
    (z_any : PySem.W.nsIn K mainGlobals "any" = some none)
    (z_sorted : PySem.W.nsIn K mainGlobals "sorted" = some none)
    (z_enumerate : PySem.W.nsIn K mainGlobals "enumerate" = some none)
    (z_iter : PySem.W.nsIn K mainGlobals "iter" = some none)
    (z_zip : PySem.W.nsIn K mainGlobals "zip" = some none)
    (i_LONGEST : PySem.W.nsIn K mainGlobals "LONGEST" = some (some (.int (10 ^ 60) t_LONGEST)))
    (i_MAX_LETTERS : PySem.W.nsIn K mainGlobals "MAX_LETTERS" = some (some (.int (8) t_MAX_LETTERS)))
    (i_MAX_ARITY : PySem.W.nsIn K mainGlobals "MAX_ARITY" = some (some (.int (3) t_MAX_ARITY)))
    (i_MAX_NODES : PySem.W.nsIn K mainGlobals "MAX_NODES" = some (some (.int (40) t_MAX_NODES)))
    (i_ANY : PySem.W.nsIn K mainGlobals "ANY" = some (some (.str "_" t_ANY)))
    (i_LOST : PySem.W.nsIn K mainGlobals "LOST" = some (some (.str "#" t_LOST)))
    (i_LETTERS : PySem.W.nsIn K mainGlobals "LETTERS" = some (some (.str "abcdefghijklmnopqrstuvwxyz" t_LETTERS)))
    (i_SIGNS : PySem.W.nsIn K mainGlobals "SIGNS" = some (some (.str "_#()" t_SIGNS))) :
    ∃ fd : FuncData, (∀ (s : Shared) (v : Value), BindsTo s fd ⟨[v], []⟩ [("_law_script", v)]) ∧ ∀ base : Heap, K.In base → base.Ns mainGlobals mg → FnOk l.prog w K mg base CX0 65 fa fd ["_law_script"] (spLaw K) := by
  have e := hfa.symm.trans (PySem.W.mg_of X G a_law)
  cases e
  have T : Txt K mg := ⟨PySem.W.mg_none_of X G z_len, PySem.W.mg_none_of X G z_int, PySem.W.mg_none_of X G z_bool, PySem.W.mg_none_of X G z_str, PySem.W.mg_none_of X G z_list, PySem.W.mg_none_of X G z_tuple, PySem.W.mg_none_of X G z_dict, PySem.W.mg_none_of X G z_abs, PySem.W.mg_none_of X G z_max, PySem.W.mg_none_of X G z_min, PySem.W.mg_none_of X G z_range, PySem.W.mg_none_of X G z_repr, PySem.W.mg_none_of X G z_isinstance, PySem.W.mg_none_of X G z_all, PySem.W.mg_none_of X G z_any, PySem.W.mg_none_of X G z_sorted, PySem.W.mg_none_of X G z_enumerate, PySem.W.mg_none_of X G z_iter, PySem.W.mg_none_of X G z_zip⟩
  have F_dice := fun_mk (st := s_dice) l_dice c_dice k_dice
  have m_dice := PySem.W.mg_of X G a_dice
  have b_dice := F_dice.binds (ps := ps_dice) fun _ _ _ _ _ _ us hl => match us, hl with | [_, _], _ => rfl
  have F_roll := fun_mk (st := s_roll) l_roll c_roll k_roll
  have m_roll := PySem.W.mg_of X G a_roll
  have b_roll := F_roll.binds (ps := ps_roll) fun _ _ _ _ _ _ us hl => match us, hl with | [_, _], _ => rfl
  have F_pick := fun_mk (st := s_pick) l_pick c_pick k_pick
  have m_pick := PySem.W.mg_of X G a_pick
  have b_pick := F_pick.binds (ps := ps_pick) fun _ _ _ _ _ _ us hl => match us, hl with | [_, _], _ => rfl
  have F_is_integer := fun_mk (st := s_is_integer) l_is_integer c_is_integer k_is_integer
  have m_is_integer := PySem.W.mg_of X G a_is_integer
  have b_is_integer := F_is_integer.binds (ps := ps_is_integer) fun _ _ _ _ _ _ us hl => match us, hl with | [_], _ => rfl
  have F_is_within := fun_mk (st := s_is_within) l_is_within c_is_within k_is_within
  have m_is_within := PySem.W.mg_of X G a_is_within
  have b_is_within := F_is_within.binds (ps := ps_is_within) fun _ _ _ _ _ _ us hl => match us, hl with | [_, _, _], _ => rfl
  have F_is_word := fun_mk (st := s_is_word) l_is_word c_is_word k_is_word
  have m_is_word := PySem.W.mg_of X G a_is_word
  have b_is_word := F_is_word.binds (ps := ps_is_word) fun _ _ _ _ _ _ us hl => match us, hl with | [_], _ => rfl
  have F_is_node := fun_mk (st := s_is_node) l_is_node c_is_node k_is_node
  have m_is_node := PySem.W.mg_of X G a_is_node
  have b_is_node := F_is_node.binds (ps := ps_is_node) fun _ _ _ _ _ _ us hl => match us, hl with | [_], _ => rfl
  have F_ascending_rows := fun_mk (st := s_ascending_rows) l_ascending_rows c_ascending_rows k_ascending_rows
  have m_ascending_rows := PySem.W.mg_of X G a_ascending_rows
  have b_ascending_rows := F_ascending_rows.binds (ps := ps_ascending_rows) fun _ _ _ _ _ _ us hl => match us, hl with | [_], _ => rfl
  have F_children_of := fun_mk (st := s_children_of) l_children_of c_children_of k_children_of
  have m_children_of := PySem.W.mg_of X G a_children_of
  have b_children_of := F_children_of.binds (ps := ps_children_of) fun _ _ _ _ _ _ us hl => match us, hl with | [_], _ => rfl
  have F_ends_of := fun_mk (st := s_ends_of) l_ends_of c_ends_of k_ends_of
  have m_ends_of := PySem.W.mg_of X G a_ends_of
  have b_ends_of := F_ends_of.binds (ps := ps_ends_of) fun _ _ _ _ _ _ us hl => match us, hl with | [_], _ => rfl
  have F_arities_in := fun_mk (st := s_arities_in) l_arities_in c_arities_in k_arities_in
  have m_arities_in := PySem.W.mg_of X G a_arities_in
  have b_arities_in := F_arities_in.binds (ps := ps_arities_in) fun _ _ _ _ _ _ us hl => match us, hl with | [_], _ => rfl
  have F_is_term_row := fun_mk (st := s_is_term_row) l_is_term_row c_is_term_row k_is_term_row
  have m_is_term_row := PySem.W.mg_of X G a_is_term_row
  have b_is_term_row := F_is_term_row.binds (ps := ps_is_term_row) fun _ _ _ _ _ _ us hl => match us, hl with | [_], _ => rfl
  have F_text_of := fun_mk (st := s_text_of) l_text_of c_text_of k_text_of
  have m_text_of := PySem.W.mg_of X G a_text_of
  have b_text_of := F_text_of.binds (ps := ps_text_of) fun _ _ _ _ _ _ us hl => match us, hl with | [_, _, _], _ => rfl
  have F_places_with := fun_mk (st := s_places_with) l_places_with c_places_with k_places_with
  have m_places_with := PySem.W.mg_of X G a_places_with
  have b_places_with := F_places_with.binds (ps := ps_places_with) fun _ _ _ _ _ _ us hl => match us, hl with | [_, _], _ => rfl
  have F_tokens_of := fun_mk (st := s_tokens_of) l_tokens_of c_tokens_of k_tokens_of
  have m_tokens_of := PySem.W.mg_of X G a_tokens_of
  have b_tokens_of := F_tokens_of.binds (ps := ps_tokens_of) fun _ _ _ _ _ _ us hl => match us, hl with | [_], _ => rfl
  have F_nodes' := fun_mk (st := s_nodes') l_nodes' c_nodes' k_nodes'
  have m_nodes' := PySem.W.mg_of X G a_nodes'
  have b_nodes' := F_nodes'.binds (ps := ps_nodes') fun _ _ _ _ _ _ us hl => match us, hl with | [_], _ => rfl
  have F_text := fun_mk (st := s_text) l_text c_text k_text
  have m_text := PySem.W.mg_of X G a_text
  have b_text := F_text.binds (ps := ps_text) fun _ _ _ _ _ _ us hl => match us, hl with | [_], _ => rfl
  have F_made_term := fun_mk (st := s_made_term) l_made_term c_made_term k_made_term
  have m_made_term := PySem.W.mg_of X G a_made_term
  have b_made_term := F_made_term.binds (ps := ps_made_term) fun _ _ _ _ _ _ us hl => match us, hl with | [_], _ => rfl
  have F_term' := fun_mk (st := s_term') l_term' c_term' k_term'
  have m_term' := PySem.W.mg_of X G a_term'
  have b_term' := F_term'.binds (ps := ps_term') fun _ _ _ _ _ _ us hl => match us, hl with | [_, _, _, _], _ => rfl
  have F_small_term := fun_mk (st := s_small_term) l_small_term c_small_term k_small_term
  have m_small_term := PySem.W.mg_of X G a_small_term
  have b_small_term := F_small_term.binds (ps := ps_small_term) fun _ _ _ _ _ _ us hl => match us, hl with | [_, _, _, _, _], _ => rfl
  have F_drawn_term := fun_mk (st := s_drawn_term) l_drawn_term c_drawn_term k_drawn_term
  have m_drawn_term := PySem.W.mg_of X G a_drawn_term
  have b_drawn_term := F_drawn_term.binds (ps := ps_drawn_term) fun _ _ _ _ _ _ us hl => match us, hl with | [_, _], _ => rfl
  have F_word_end := fun_mk (st := s_word_end) l_word_end c_word_end k_word_end
  have m_word_end := PySem.W.mg_of X G a_word_end
  have b_word_end := F_word_end.binds (ps := ps_word_end) fun _ _ _ _ _ _ us hl => match us, hl with | [_, _], _ => rfl
  have F_read := fun_mk (st := s_read) l_read c_read k_read
  have m_read := PySem.W.mg_of X G a_read
  have b_read := F_read.binds (ps := ps_read) fun _ _ _ _ _ _ us hl => match us, hl with | [_, _], _ => rfl
  have F_due := fun_mk (st := s_due) l_due c_due k_due
  have m_due := PySem.W.mg_of X G a_due
  have b_due := F_due.binds (ps := ps_due) fun _ _ _ _ _ _ us hl => match us, hl with | [_], _ => rfl
  have F_bent := fun_mk (st := s_bent) l_bent c_bent k_bent
  have m_bent := PySem.W.mg_of X G a_bent
  have b_bent := F_bent.binds (ps := ps_bent) fun _ _ _ _ _ _ us hl => match us, hl with | [_, _], _ => rfl
  have F_nodes_of := fun_mk (st := s_nodes_of) l_nodes_of c_nodes_of k_nodes_of
  have m_nodes_of := PySem.W.mg_of X G a_nodes_of
  have b_nodes_of := F_nodes_of.binds (ps := ps_nodes_of) fun _ _ _ _ _ _ us hl => match us, hl with | [_], _ => rfl
  have F_told := fun_mk (st := s_told) l_told c_told k_told
  have m_told := PySem.W.mg_of X G a_told
  have b_told := F_told.binds (ps := ps_told) fun _ _ _ _ _ _ us hl => match us, hl with | [_], _ => rfl
  have F_right := fun_mk (st := s_right) l_right c_right k_right
  have m_right := PySem.W.mg_of X G a_right
  have b_right := F_right.binds (ps := ps_right) fun _ _ _ _ _ _ us hl => match us, hl with | [_], _ => rfl
  have F_law := fun_mk (st := s_law) l_law c_law k_law
  have m_law := PySem.W.mg_of X G a_law
  have b_law := F_law.binds (ps := ps_law) fun _ _ _ _ _ _ us hl => match us, hl with | [_], _ => rfl
  have F_Term_init := fun_mk (st := s_Term_init) l_Term_init c_Term_init k_Term_init
  have b_Term_init := F_Term_init.binds (ps := ps_Term_init) fun _ _ _ _ _ _ us hl => match us, hl with | [_, _], _ => rfl
  have F_Term_eq := fun_mk (st := s_Term_eq) l_Term_eq c_Term_eq k_Term_eq
  have b_Term_eq := F_Term_eq.binds (ps := ps_Term_eq) fun _ _ _ _ _ _ us hl => match us, hl with | [_, _], _ => rfl
  have F_Reader_init := fun_mk (st := s_Reader_init) l_Reader_init c_Reader_init k_Reader_init
  have b_Reader_init := F_Reader_init.binds (ps := ps_Reader_init) fun _ _ _ _ _ _ us hl => match us, hl with | [_], _ => rfl
  have F_Reader_take := fun_mk (st := s_Reader_take) l_Reader_take c_Reader_take k_Reader_take
  have b_Reader_take := F_Reader_take.binds (ps := ps_Reader_take) fun _ _ _ _ _ _ us hl => match us, hl with | [_, _], _ => rfl
  have F_Reader_take_word := fun_mk (st := s_Reader_take_word) l_Reader_take_word c_Reader_take_word k_Reader_take_word
  have b_Reader_take_word := F_Reader_take_word.binds (ps := ps_Reader_take_word) fun _ _ _ _ _ _ us hl => match us, hl with | [_, _], _ => rfl
  have F_ParseError_init := fun_mk (st := s_ParseError_init) l_ParseError_init c_ParseError_init k_ParseError_init
  have b_ParseError_init := F_ParseError_init.binds (ps := ps_ParseError_init) fun _ _ _ _ _ _ us hl => match us, hl with | [_, _], _ => rfl
  have F_Term_read := fun_mk (st := s_Term_read) l_Term_read c_Term_read k_Term_read
  have b_Term_read := F_Term_read.binds (ps := ps_Term_read) fun _ _ _ _ _ _ us hl => match us, hl with | [_, _], _ => rfl
  have F_Term_text := fun_mk (st := s_Term_text) l_Term_text c_Term_text k_Term_text
  have b_Term_text := F_Term_text.binds (ps := ps_Term_text) fun _ _ _ _ _ _ us hl => match us, hl with | [_], _ => rfl
  have m_C := PySem.W.mg_of X G a_C
  have m_CN := PySem.W.mg_of X G a_CN
  have m_CR := PySem.W.mg_of X G a_CR
  have m_CI := PySem.W.mg_of X G a_CI
  have m_CP := PySem.W.mg_of X G a_CP
  have g_LONGEST := PySem.W.mg_of X G i_LONGEST
  have g_MAX_LETTERS := PySem.W.mg_of X G i_MAX_LETTERS
  have g_MAX_ARITY := PySem.W.mg_of X G i_MAX_ARITY
  have g_MAX_NODES := PySem.W.mg_of X G i_MAX_NODES
  have g_ANY := PySem.W.mg_of X G i_ANY
  have g_LOST := PySem.W.mg_of X G i_LOST
  have g_LETTERS := PySem.W.mg_of X G i_LETTERS
  have g_SIGNS := PySem.W.mg_of X G i_SIGNS
  refine ⟨PySem.W.fnOf "law" "law" (defArgs s_law) (defBody s_law) (defScope s_law) .none kV_law dc_law pm_law an_law cd_law ct_law, fun s v => .of_eq rfl, fun base _ _ => ?_⟩
  have cl_C : Cls K C := ⟨pg_C, hd_C, po_C, sa_C⟩
  have no_C : ∀ n ∈ asked, PySem.W.kitOne K (.ref C) (.type n) = some false := fun n h => by
    simp only [asked, List.mem_cons, List.not_mem_nil, or_false] at h
    rcases h with rfl | rfl | rfl | rfl | rfl | rfl
    · exact no_C_int
    · exact no_C_bool
    · exact no_C_str
    · exact no_C_list
    · exact no_C_tuple
    · exact no_C_dict
  have nt_C : ∀ n ∈ ["NoneType", "bool", "int", "str", "list", "tuple", "dict"], PySem.W.kitOne K (.type n) (.ref C) = some false := fun n h => by
    simp only [List.mem_cons, List.not_mem_nil, or_false] at h
    rcases h with rfl | rfl | rfl | rfl | rfl | rfl | rfl
    · exact nt_C_NoneType
    · exact nt_C_bool
    · exact nt_C_int
    · exact nt_C_str
    · exact nt_C_list
    · exact nt_C_tuple
    · exact nt_C_dict
  have ow_C : Own K C := ⟨cl_C, ha_C, hn_C, ht_C, hm_C, no_C⟩
  have cl_CN : Cls K CN := ⟨pg_CN, hd_CN, po_CN, sa_CN⟩
  have no_CN : ∀ n ∈ asked, PySem.W.kitOne K (.ref CN) (.type n) = some false := fun n h => by
    simp only [asked, List.mem_cons, List.not_mem_nil, or_false] at h
    rcases h with rfl | rfl | rfl | rfl | rfl | rfl
    · exact no_CN_int
    · exact no_CN_bool
    · exact no_CN_str
    · exact no_CN_list
    · exact no_CN_tuple
    · exact no_CN_dict
  have nt_CN : ∀ n ∈ ["NoneType", "bool", "int", "str", "list", "tuple", "dict"], PySem.W.kitOne K (.type n) (.ref CN) = some false := fun n h => by
    simp only [List.mem_cons, List.not_mem_nil, or_false] at h
    rcases h with rfl | rfl | rfl | rfl | rfl | rfl | rfl
    · exact nt_CN_NoneType
    · exact nt_CN_bool
    · exact nt_CN_int
    · exact nt_CN_str
    · exact nt_CN_list
    · exact nt_CN_tuple
    · exact nt_CN_dict
  have ow_CN : Own K CN := ⟨cl_CN, ha_CN, hn_CN, ht_CN, hm_CN, no_CN⟩
  have cl_CR : Cls K CR := ⟨pg_CR, hd_CR, po_CR, sa_CR⟩
  have no_CR : ∀ n ∈ asked, PySem.W.kitOne K (.ref CR) (.type n) = some false := fun n h => by
    simp only [asked, List.mem_cons, List.not_mem_nil, or_false] at h
    rcases h with rfl | rfl | rfl | rfl | rfl | rfl
    · exact no_CR_int
    · exact no_CR_bool
    · exact no_CR_str
    · exact no_CR_list
    · exact no_CR_tuple
    · exact no_CR_dict
  have nt_CR : ∀ n ∈ ["NoneType", "bool", "int", "str", "list", "tuple", "dict"], PySem.W.kitOne K (.type n) (.ref CR) = some false := fun n h => by
    simp only [List.mem_cons, List.not_mem_nil, or_false] at h
    rcases h with rfl | rfl | rfl | rfl | rfl | rfl | rfl
    · exact nt_CR_NoneType
    · exact nt_CR_bool
    · exact nt_CR_int
    · exact nt_CR_str
    · exact nt_CR_list
    · exact nt_CR_tuple
    · exact nt_CR_dict
  have ow_CR : Own K CR := ⟨cl_CR, ha_CR, hn_CR, ht_CR, hm_CR, no_CR⟩
  obtain ⟨A, eT, eN, eR, eI, eP⟩ : ∃ A : Adr, A.cTerm = C ∧ A.cNodes = CN ∧ A.cReader = CR ∧ A.cInvalidTerm = CI ∧ A.cParseError = CP := ⟨⟨C, CN, CR, CI, CP⟩, rfl, rfl, rfl, rfl, rfl⟩
  subst eT eN eR eI eP
  have TC : TK K A := ⟨cl_C, n1, n2, n3, n4, n5, n6, nt_CN, nt_C, is_C, ow_C⟩
  have RC : RdK K A.cReader := ⟨cl_CR, r1, r2, r3, r4⟩
  have E_InvalidTerm : ExC K mg "InvalidTerm" A.cInvalidTerm := ⟨xx_CI, m_CI, xk_CI, xb_CI, xt_CI⟩
  have EC : EK K A := ⟨exm_is xb_CP xi_CP xt_CP xb_CP xi_CP xt_CP xs_CP, exm_is xb_CI xi_CI xt_CI xb_CP xi_CP xt_CP ip, exm_is xb_CI xi_CI xt_CI xb_CI xi_CI xt_CI xs_CI⟩
  have OX : OexC K A.cParseError := ⟨⟨_, _, _, _, _, _, _, _, _, _, _, _, _, _, _, oe_CP, or_CP⟩, sa_CP, xb_CP, xt_CP, xk_CP⟩
  have C_roll0 : Cal l.prog w K mg base "_law_roll" 1 ps_roll spRoll := ⟨⟨_, _, ok_roll F_roll T, m_roll, k_roll, b_roll⟩⟩
  have C_roll : CalF l.prog w K mg base "_law_roll" 1 2 (G_roll K A) := ⟨⟨_, _, _, fn_roll (ok_roll F_roll T), m_roll, k_roll, b_roll⟩⟩
  have C_pick : CalF l.prog w K mg base "_law_pick" 2 2 (G_pick K A) := ⟨⟨_, _, _, fn_pick (ok_pick F_pick T C_roll0), m_pick, k_pick, b_pick⟩⟩
  have C_dice : CalF l.prog w K mg base "_law_dice" 1 2 (G_dice K A) := ⟨⟨_, _, _, fn_diceD (ok_dice F_dice T), m_dice, k_dice, b_dice⟩⟩
  have C_is_integer : CalF l.prog w K mg base "is_integer" 1 1 (G_is_integer K A) := ⟨⟨_, _, _, ok_is_integer F_is_integer T g_LONGEST, m_is_integer, k_is_integer, b_is_integer⟩⟩
  have C_is_within : CalF l.prog w K mg base "is_within" 2 3 (G_is_within K A) := ⟨⟨_, _, _, ok_is_within F_is_within T C_is_integer, m_is_within, k_is_within, b_is_within⟩⟩
  have C_is_word : CalF l.prog w K mg base "is_word" 1 1 (G_is_word K A) := ⟨⟨_, _, _, ok_is_word F_is_word T g_LETTERS g_MAX_LETTERS, m_is_word, k_is_word, b_is_word⟩⟩
  have C_is_node : CalF l.prog w K mg base "is_node" 3 1 (G_is_node K A) := ⟨⟨_, _, _, ok_is_node F_is_node T g_MAX_ARITY g_LOST g_ANY C_is_within C_is_word, m_is_node, k_is_node, b_is_node⟩⟩
  have C_ascending_rows : CalF l.prog w K mg base "ascending_rows" 1 1 (G_ascending_rows K A) := ⟨⟨_, _, _, ok_ascending_rows F_ascending_rows T , m_ascending_rows, k_ascending_rows, b_ascending_rows⟩⟩
  have C_children_of : CalF l.prog w K mg base "children_of" 1 1 (G_children_of K A) := ⟨⟨_, _, _, ok_children_of F_children_of T , m_children_of, k_children_of, b_children_of⟩⟩
  have C_ends_of : CalF l.prog w K mg base "ends_of" 1 1 (G_ends_of K A) := ⟨⟨_, _, _, ok_ends_of F_ends_of T , m_ends_of, k_ends_of, b_ends_of⟩⟩
  have C_arities_in : CalF l.prog w K mg base "arities_in" 2 1 (G_arities_in K A) := ⟨⟨_, _, _, ok_arities_in F_arities_in T g_LOST g_ANY C_ascending_rows, m_arities_in, k_arities_in, b_arities_in⟩⟩
  have C_is_term_row : CalF l.prog w K mg base "is_term_row" 4 1 (G_is_term_row K A) := ⟨⟨_, _, _, ok_is_term_row F_is_term_row T g_MAX_NODES C_is_node C_arities_in C_children_of, m_is_term_row, k_is_term_row, b_is_term_row⟩⟩
  have C_text_of : CalF l.prog w K mg base "text_of" 41 3 (G_text_of K A 41) := ⟨⟨_, _, _, ok_text_of F_text_of T  m_text_of k_text_of b_text_of 41, m_text_of, k_text_of, b_text_of⟩⟩
  have C_places_with : CalF l.prog w K mg base "places_with" 1 2 (G_places_with K A) := ⟨⟨_, _, _, ok_places_with F_places_with T , m_places_with, k_places_with, b_places_with⟩⟩
  have C_tokens_of : CalF l.prog w K mg base "tokens_of" 1 1 (G_tokens_of K A) := ⟨⟨_, _, _, ok_tokens_of F_tokens_of T g_LETTERS g_SIGNS, m_tokens_of, k_tokens_of, b_tokens_of⟩⟩
  have M_Term : CalI l.prog w K mg base "Term" A.cTerm 5 1 (G_Term_init K A) := ⟨⟨_, _, _, ⟨mk_C, a_Term_init, i_Term_init, kc_C⟩, ok_Term_init F_Term_init T g_ANY g_LOST C_is_term_row C_children_of C_ends_of C_arities_in C_places_with m_CN E_InvalidTerm, m_C, b_Term_init⟩⟩
  have P_Term_text : CalP l.prog w K mg base A.cTerm "text" 42 (G_Term_text K A) := ⟨cl_C, ⟨p_Term_text, f_Term_text, _, _, ⟨a_Term_text, g_Term_text, tk_Term_text, ⟨_, r_Term_text⟩⟩, ok_Term_text F_Term_text T C_text_of, b_Term_text⟩⟩
  have Q_Term : CalE l.prog w K mg base A.cTerm 1 (G_Term_eq K A) := ⟨⟨_, ⟨⟨_, _, ⟨a_Term_eq, i_Term_eq, k_Term_eq⟩, x_Term_eq, ok_Term_eq F_Term_eq T m_C, b_Term_eq⟩⟩⟩, hm_C, ne_C⟩
  have C_nodes' : CalF l.prog w K mg base "_law_nodes" 61 1 (G_nodes' K A 61) := ⟨⟨_, _, _, ok_nodes' F_nodes' T  m_nodes' k_nodes' b_nodes' 61, m_nodes', k_nodes', b_nodes'⟩⟩
  have C_text : CalF l.prog w K mg base "_law_text" 8 1 (G_text K A 8) := ⟨⟨_, _, _, ok_text F_text T  m_text k_text b_text 8, m_text, k_text, b_text⟩⟩
  have C_made_term : CalF l.prog w K mg base "_law_made_term" 62 1 (G_made_term K A) := ⟨⟨_, _, _, ok_made_term F_made_term T C_nodes' M_Term, m_made_term, k_made_term, b_made_term⟩⟩
  have C_term' : CalF l.prog w K mg base "_law_term" 8 4 (G_term' K A 6) := ⟨⟨_, _, _, ok_term' F_term' T C_roll C_pick m_term' k_term' b_term' 6, m_term', k_term', b_term'⟩⟩
  have C_small_term : CalF l.prog w K mg base "_law_small_term" 62 5 (G_small_term K A) := ⟨⟨_, _, _, ok_small_term F_small_term T C_term' C_nodes' C_pick, m_small_term, k_small_term, b_small_term⟩⟩
  have C_drawn_term : CalF l.prog w K mg base "_law_drawn_term" 63 2 (G_drawn_term K A) := ⟨⟨_, _, _, ok_drawn_term F_drawn_term T C_small_term, m_drawn_term, k_drawn_term, b_drawn_term⟩⟩
  have C_word_end : CalF l.prog w K mg base "_law_word_end" 1 2 (G_word_end K A) := ⟨⟨_, _, _, ok_word_end F_word_end T , m_word_end, k_word_end, b_word_end⟩⟩
  have C_read : CalF l.prog w K mg base "_law_read" 61 2 (G_read K A 60) := ⟨⟨_, _, _, ok_read F_read T C_word_end m_read k_read b_read 60, m_read, k_read, b_read⟩⟩
  have C_due : CalF l.prog w K mg base "_law_due" 62 1 (G_due K A) := ⟨⟨_, _, _, ok_due F_due T C_read C_nodes', m_due, k_due, b_due⟩⟩
  have C_bent : CalF l.prog w K mg base "_law_bent" 3 2 (G_bent K A) := ⟨⟨_, _, _, ok_bent F_bent T C_roll C_pick, m_bent, k_bent, b_bent⟩⟩
  have M_Reader : CalC l.prog w K mg base CX0 "Reader" A.cReader 1 ps_Reader_init (spRdInit A.cReader) := ⟨⟨_, _, ⟨mk_CR, a_Reader_init, i_Reader_init, kc_CR⟩, ok_Reader_init F_Reader_init RC, m_CR, b_Reader_init⟩⟩
  have M_take_word : CalM l.prog w K mg base CX0 A.cReader "take_word" 1 ps_Reader_take_word (spTakeWord A.cReader) := ⟨⟨_, _, ⟨a_Reader_take_word, i_Reader_take_word, k_Reader_take_word⟩, x_Reader_take_word, ok_take_word F_Reader_take_word RC, b_Reader_take_word⟩⟩
  have M_take : CalM l.prog w K mg base CX0 A.cReader "take" 2 ps_Reader_take (spTake A.cReader) := ⟨⟨_, _, ⟨a_Reader_take, i_Reader_take, k_Reader_take⟩, x_Reader_take, ok_take F_Reader_take T RC M_take_word, b_Reader_take⟩⟩
  have C_nodes_of : CalF l.prog w K mg base "nodes_of" 4 1 (G_nodes_of K A) := ⟨⟨_, _, _, ok_nodes_of F_nodes_of T g_MAX_NODES C_tokens_of C_children_of C_is_node RC M_Reader M_take, m_nodes_of, k_nodes_of, b_nodes_of⟩⟩
  have Z_ParseError : CalX l.prog w K mg base "ParseError" A.cParseError 1 "line" := ⟨OX, m_CP, ⟨_, _, _, a_ParseError_init, ti_CP, ok_xinit F_ParseError_init OX no_CP, b_ParseError_init⟩⟩
  have K_Term_read : CalCm l.prog w K mg base A.cTerm "read" 7 2 (G_Term_read K A) := ⟨⟨.type "type", p_Term_read, f_Term_read, ⟨rdC, gaC⟩, ⟨a_Term_read, ⟨_, r_Term_read⟩, x_Term_read⟩, (FnOk.raw (ok_Term_read F_Term_read T C_nodes_of M_Term Z_ParseError) b_Term_read .nil).imp fun vs H Q E h => by rw [List.append_nil]; exact h⟩⟩
  have X_ParseError_line : ErF K A.cParseError "line" := ⟨⟨ga_CP, gg_CP, xb_CP, hd_CP⟩, no_CP⟩
  have C_told : CalF l.prog w K mg base "_law_told" 8 1 (G_told K A) := ⟨⟨_, _, _, ok_told F_told T K_Term_read X_ParseError_line m_C m_CI m_CP, m_told, k_told, b_told⟩⟩
  have C_right : CalF l.prog w K mg base "_law_right" 64 1 (G_right K A) := ⟨⟨_, _, _, ok_right F_right T C_drawn_term C_text C_told C_made_term C_bent C_roll C_due P_Term_text Q_Term, m_right, k_right, b_right⟩⟩
  exact law_top TC EC (ok_law F_law T C_dice C_right C_told)
theorem walk {l : PySem.W.OpenLaw} {q : Program} {loose : List Str} {XP : (Str → Option Value) → Heap → Prop} {YP : World → Heap → Prop} {d : DefRec} {K : Params → PySem.W.Frag} (hn : l.most = some 63) (hdf : d.params.defaults = [])
    (hY : ∀ (w : World) (h : Heap), YP w h → (K w.params).In h)
    (F : ∀ (w : World) (mg : Str → Option Value) (fa : Addr) (h : Heap), (K w.params).In h → h.Ns mainGlobals mg → mg d.name = some (.ref fa) →
      ∃ fd : FuncData, (∀ (s : Shared) (u : Value), BindsTo s fd ⟨[u], []⟩ [("_law_script", u)]) ∧ ∀ base : Heap, (K w.params).In base → base.Ns mainGlobals mg → FnOk l.prog w (K w.params) mg base CX0 65 fa fd ["_law_script"] (spLaw (K w.params))) :
    PySem.W.WalkO q loose XP YP l.row.toRowW d [] (fun f vs => PySem.call f vs) :=
  L2.walk_of (n := 63) (k := 65) (x := "_law_script") (CX := fun _ => CX0) (sp := fun w => spLaw (K w.params)) hn (by decide) hdf ⟨rfl, by decide, by decide⟩ hY F (fun _ _ a ns hl _ hS => ⟨a, ns, rfl, hS, hl, fun _ => rfl⟩) fun _ _ _ _ _ z => z
end K6
open PySem PySem.W PyProof.Rows
set_option maxRecDepth 100000 in
set_option maxHeartbeats 0 in
theorem PySem.Challenge.cw_firstneed_k06_whole_terms_and_their_text_holds : PySem.Challenge.rw_firstneed_k06_whole_terms_and_their_text.Holds := by
  w_on; o_law; k_head; (case hw => w_witness2)
  k_fill
  refine K6.walk (l := PySem.Challenge.rw_firstneed_k06_whole_terms_and_their_text) rfl rfl (fun w h Y => PySem.W.kIn_of Y) ?F
  case F =>
    intro w mg fa h KX G hmg
    refine' K6.all_mk KX G hmg ?a_C ?a_CN ?a_CR ?a_CI ?a_CP ?a_Term_init ?i_Term_init ?l_Term_init ?c_Term_init ?k_Term_init ?x_Term_init ?a_Term_eq ?i_Term_eq ?l_Term_eq ?c_Term_eq ?k_Term_eq ?x_Term_eq ?a_Reader_init ?i_Reader_init ?l_Reader_init ?c_Reader_init ?k_Reader_init ?x_Reader_init ?a_Reader_take ?i_Reader_take ?l_Reader_take ?c_Reader_take ?k_Reader_take ?x_Reader_take ?a_Reader_take_word ?i_Reader_take_word ?l_Reader_take_word ?c_Reader_take_word ?k_Reader_take_word ?x_Reader_take_word ?a_ParseError_init ?i_ParseError_init ?l_ParseError_init ?c_ParseError_init ?k_ParseError_init ?x_ParseError_init ?a_Term_read ?r_Term_read ?l_Term_read ?c_Term_read ?k_Term_read ?x_Term_read ?a_Term_text ?t_Term_text ?g_Term_text ?tk_Term_text ?r_Term_text ?l_Term_text ?c_Term_text ?k_Term_text ?x_Term_text ?pg_C ?hd_C ?po_C ?sa_C ?ha_C ?hn_C ?ht_C ?hm_C ?mk_C ?kc_C ?is_C ?no_C_int ?no_C_bool ?no_C_str ?no_C_list ?no_C_tuple ?no_C_dict ?nt_C_NoneType ?nt_C_bool ?nt_C_int ?nt_C_str ?nt_C_list ?nt_C_tuple ?nt_C_dict ?pg_CN ?hd_CN ?po_CN ?sa_CN ?ha_CN ?hn_CN ?ht_CN ?hm_CN ?mk_CN ?kc_CN ?is_CN ?no_CN_int ?no_CN_bool ?no_CN_str ?no_CN_list ?no_CN_tuple ?no_CN_dict ?nt_CN_NoneType ?nt_CN_bool ?nt_CN_int ?nt_CN_str ?nt_CN_list ?nt_CN_tuple ?nt_CN_dict ?pg_CR ?hd_CR ?po_CR ?sa_CR ?ha_CR ?hn_CR ?ht_CR ?hm_CR ?mk_CR ?kc_CR ?is_CR ?no_CR_int ?no_CR_bool ?no_CR_str ?no_CR_list ?no_CR_tuple ?no_CR_dict ?nt_CR_NoneType ?nt_CR_bool ?nt_CR_int ?nt_CR_str ?nt_CR_list ?nt_CR_tuple ?nt_CR_dict ?xx_CI ?xk_CI ?xb_CI ?xt_CI ?xi_CI ?xs_CI ?n1 ?n2 ?n3 ?n4 ?n5 ?n6 ?r1 ?r2 ?r3 ?r4 ?rdC ?gaC ?ne_C ?xk_CP ?xb_CP ?xt_CP ?xi_CP ?xs_CP ?ip ?oe_CP ?or_CP ?sa_CP ?ga_CP ?gg_CP ?hd_CP ?no_CP ?ti_CP ?a_dice ?l_dice ?c_dice ?k_dice ?a_roll ?l_roll ?c_roll ?k_roll ?a_pick ?l_pick ?c_pick ?k_pick ?a_is_integer ?l_is_integer ?c_is_integer ?k_is_integer ?a_is_within ?l_is_within ?c_is_within ?k_is_within ?a_is_word ?l_is_word ?c_is_word ?k_is_word ?a_is_node ?l_is_node ?c_is_node ?k_is_node ?a_ascending_rows ?l_ascending_rows ?c_ascending_rows ?k_ascending_rows ?a_children_of ?l_children_of ?c_children_of ?k_children_of ?a_ends_of ?l_ends_of ?c_ends_of ?k_ends_of ?a_arities_in ?l_arities_in ?c_arities_in ?k_arities_in ?a_is_term_row ?l_is_term_row ?c_is_term_row ?k_is_term_row ?a_text_of ?l_text_of ?c_text_of ?k_text_of ?a_places_with ?l_places_with ?c_places_with ?k_places_with ?a_tokens_of ?l_tokens_of ?c_tokens_of ?k_tokens_of ?a_nodes' ?l_nodes' ?c_nodes' ?k_nodes' ?a_text ?l_text ?c_text ?k_text ?a_made_term ?l_made_term ?c_made_term ?k_made_term ?a_term' ?l_term' ?c_term' ?k_term' ?a_small_term ?l_small_term ?c_small_term ?k_small_term ?a_drawn_term ?l_drawn_term ?c_drawn_term ?k_drawn_term ?a_word_end ?l_word_end ?c_word_end ?k_word_end ?a_read ?l_read ?c_read ?k_read ?a_due ?l_due ?c_due ?k_due ?a_bent ?l_bent ?c_bent ?k_bent ?a_nodes_of ?l_nodes_of ?c_nodes_of ?k_nodes_of ?a_told ?l_told ?c_told ?k_told ?a_right ?l_right ?c_right ?k_right ?a_law ?l_law ?c_law ?k_law ?z_len ?z_int ?z_bool ?z_str ?z_list ?z_tuple ?z_dict ?z_abs ?z_max ?z_min ?z_range ?z_repr ?z_isinstance ?z_all ?z_any ?z_sorted ?z_enumerate ?z_iter ?z_zip ?i_LONGEST ?i_MAX_LETTERS ?i_MAX_ARITY ?i_MAX_NODES ?i_ANY ?i_LOST ?i_LETTERS ?i_SIGNS
    (case a_C => k_is)
    (case a_CN => k_is)
    (case a_CR => k_is)
    (case a_CI => k_is)
    (case a_CP => k_is)
    (case a_Term_init => k_is)
    (case i_Term_init => k_is)
    (case l_Term_init => k_is)
    (case c_Term_init => k_is)
    (case k_Term_init => k_is)
    (case x_Term_init => k_is)
    (case a_Term_eq => k_is)
    (case i_Term_eq => k_is)
    (case l_Term_eq => k_is)
    (case c_Term_eq => k_is)
    (case k_Term_eq => k_is)
    (case x_Term_eq => k_is)
    (case a_Reader_init => k_is)
    (case i_Reader_init => k_is)
    (case l_Reader_init => k_is)
    (case c_Reader_init => k_is)
    (case k_Reader_init => k_is)
    (case x_Reader_init => k_is)
    (case a_Reader_take => k_is)
    (case i_Reader_take => k_is)
    (case l_Reader_take => k_is)
    (case c_Reader_take => k_is)
    (case k_Reader_take => k_is)
    (case x_Reader_take => k_is)
    (case a_Reader_take_word => k_is)
    (case i_Reader_take_word => k_is)
    (case l_Reader_take_word => k_is)
    (case c_Reader_take_word => k_is)
    (case k_Reader_take_word => k_is)
    (case x_Reader_take_word => k_is)
    (case a_ParseError_init => k_is)
    (case i_ParseError_init => k_is)
    (case l_ParseError_init => k_is)
    (case c_ParseError_init => k_is)
    (case k_ParseError_init => k_is)
    (case x_ParseError_init => k_is)
    (case a_Term_read => k_is)
    (case r_Term_read => k_is)
    (case l_Term_read => k_is)
    (case c_Term_read => k_is)
    (case k_Term_read => k_is)
    (case x_Term_read => k_is)
    (case a_Term_text => k_is)
    (case t_Term_text => k_is)
    (case g_Term_text => k_is)
    (case tk_Term_text => k_is)
    (case r_Term_text => k_is)
    (case l_Term_text => k_is)
    (case c_Term_text => k_is)
    (case k_Term_text => k_is)
    (case x_Term_text => k_is)
    (case pg_C => k_is)
    (case hd_C => k_is)
    (case po_C => k_is)
    (case sa_C => k_is)
    (case ha_C => k_is)
    (case hn_C => k_is)
    (case ht_C => k_is)
    (case hm_C => k_is)
    (case mk_C => k_is)
    (case kc_C => k_is)
    (case is_C => kit_is)
    (case no_C_int => kit_is)
    (case no_C_bool => kit_is)
    (case no_C_str => kit_is)
    (case no_C_list => kit_is)
    (case no_C_tuple => kit_is)
    (case no_C_dict => kit_is)
    (case nt_C_NoneType => kit_is)
    (case nt_C_bool => kit_is)
    (case nt_C_int => kit_is)
    (case nt_C_str => kit_is)
    (case nt_C_list => kit_is)
    (case nt_C_tuple => kit_is)
    (case nt_C_dict => kit_is)
    (case pg_CN => k_is)
    (case hd_CN => k_is)
    (case po_CN => k_is)
    (case sa_CN => k_is)
    (case ha_CN => k_is)
    (case hn_CN => k_is)
    (case ht_CN => k_is)
    (case hm_CN => k_is)
    (case mk_CN => k_is)
    (case kc_CN => k_is)
    (case is_CN => kit_is)
    (case no_CN_int => kit_is)
    (case no_CN_bool => kit_is)
    (case no_CN_str => kit_is)
    (case no_CN_list => kit_is)
    (case no_CN_tuple => kit_is)
    (case no_CN_dict => kit_is)
    (case nt_CN_NoneType => kit_is)
    (case nt_CN_bool => kit_is)
    (case nt_CN_int => kit_is)
    (case nt_CN_str => kit_is)
    (case nt_CN_list => kit_is)
    (case nt_CN_tuple => kit_is)
    (case nt_CN_dict => kit_is)
    (case pg_CR => k_is)
    (case hd_CR => k_is)
    (case po_CR => k_is)
    (case sa_CR => k_is)
    (case ha_CR => k_is)
    (case hn_CR => k_is)
    (case ht_CR => k_is)
    (case hm_CR => k_is)
    (case mk_CR => k_is)
    (case kc_CR => k_is)
    (case is_CR => kit_is)
    (case no_CR_int => kit_is)
    (case no_CR_bool => kit_is)
    (case no_CR_str => kit_is)
    (case no_CR_list => kit_is)
    (case no_CR_tuple => kit_is)
    (case no_CR_dict => kit_is)
    (case nt_CR_NoneType => kit_is)
    (case nt_CR_bool => kit_is)
    (case nt_CR_int => kit_is)
    (case nt_CR_str => kit_is)
    (case nt_CR_list => kit_is)
    (case nt_CR_tuple => kit_is)
    (case nt_CR_dict => kit_is)
    (case xx_CI => k_exc)
    (case xk_CI => k_is)
    (case xb_CI => k_is)
    (case xt_CI => k_is)
    (case xi_CI => k_is)
    (case xs_CI => first | rfl | k_is)
    (case n1 => k_is)
    (case n2 => k_is)
    (case n3 => k_is)
    (case n4 => k_is)
    (case n5 => k_is)
    (case n6 => k_is)
    (case r1 => k_is)
    (case r2 => k_is)
    (case r3 => k_is)
    (case r4 => k_is)
    (case rdC => k_is)
    (case gaC => k_is)
    (case ne_C => k_is)
    (case xk_CP => k_is)
    (case xb_CP => k_is)
    (case xt_CP => k_is)
    (case xi_CP => k_is)
    (case xs_CP => first | rfl | k_is)
    (case ip => first | rfl | k_is)
    (case oe_CP => k_is)
    (case or_CP => first | rfl | decide +kernel)
    (case sa_CP => k_is)
    (case ga_CP => k_is)
    (case gg_CP => k_is)
    (case hd_CP => k_is)
    (case no_CP => k_is)
    (case ti_CP => k_is)
    (case a_dice => k_is)
    (case l_dice => k_is)
    (case c_dice => k_is)
    (case k_dice => k_is)
    (case a_roll => k_is)
    (case l_roll => k_is)
    (case c_roll => k_is)
    (case k_roll => k_is)
    (case a_pick => k_is)
    (case l_pick => k_is)
    (case c_pick => k_is)
    (case k_pick => k_is)
    (case a_is_integer => k_is)
    (case l_is_integer => k_is)
    (case c_is_integer => k_is)
    (case k_is_integer => k_is)
    (case a_is_within => k_is)
    (case l_is_within => k_is)
    (case c_is_within => k_is)
    (case k_is_within => k_is)
    (case a_is_word => k_is)
    (case l_is_word => k_is)
    (case c_is_word => k_is)
    (case k_is_word => k_is)
    (case a_is_node => k_is)
    (case l_is_node => k_is)
    (case c_is_node => k_is)
    (case k_is_node => k_is)
    (case a_ascending_rows => k_is)
    (case l_ascending_rows => k_is)
    (case c_ascending_rows => k_is)
    (case k_ascending_rows => k_is)
    (case a_children_of => k_is)
    (case l_children_of => k_is)
    (case c_children_of => k_is)
    (case k_children_of => k_is)
    (case a_ends_of => k_is)
    (case l_ends_of => k_is)
    (case c_ends_of => k_is)
    (case k_ends_of => k_is)
    (case a_arities_in => k_is)
    (case l_arities_in => k_is)
    (case c_arities_in => k_is)
    (case k_arities_in => k_is)
    (case a_is_term_row => k_is)
    (case l_is_term_row => k_is)
    (case c_is_term_row => k_is)
    (case k_is_term_row => k_is)
    (case a_text_of => k_is)
    (case l_text_of => k_is)
    (case c_text_of => k_is)
    (case k_text_of => k_is)
    (case a_places_with => k_is)
    (case l_places_with => k_is)
    (case c_places_with => k_is)
    (case k_places_with => k_is)
    (case a_tokens_of => k_is)
    (case l_tokens_of => k_is)
    (case c_tokens_of => k_is)
    (case k_tokens_of => k_is)
    (case a_nodes' => k_is)
    (case l_nodes' => k_is)
    (case c_nodes' => k_is)
    (case k_nodes' => k_is)
    (case a_text => k_is)
    (case l_text => k_is)
    (case c_text => k_is)
    (case k_text => k_is)
    (case a_made_term => k_is)
    (case l_made_term => k_is)
    (case c_made_term => k_is)
    (case k_made_term => k_is)
    (case a_term' => k_is)
    (case l_term' => k_is)
    (case c_term' => k_is)
    (case k_term' => k_is)
    (case a_small_term => k_is)
    (case l_small_term => k_is)
    (case c_small_term => k_is)
    (case k_small_term => k_is)
    (case a_drawn_term => k_is)
    (case l_drawn_term => k_is)
    (case c_drawn_term => k_is)
    (case k_drawn_term => k_is)
    (case a_word_end => k_is)
    (case l_word_end => k_is)
    (case c_word_end => k_is)
    (case k_word_end => k_is)
    (case a_read => k_is)
    (case l_read => k_is)
    (case c_read => k_is)
    (case k_read => k_is)
    (case a_due => k_is)
    (case l_due => k_is)
    (case c_due => k_is)
    (case k_due => k_is)
    (case a_bent => k_is)
    (case l_bent => k_is)
    (case c_bent => k_is)
    (case k_bent => k_is)
    (case a_nodes_of => k_is)
    (case l_nodes_of => k_is)
    (case c_nodes_of => k_is)
    (case k_nodes_of => k_is)
    (case a_told => k_is)
    (case l_told => k_is)
    (case c_told => k_is)
    (case k_told => k_is)
    (case a_right => k_is)
    (case l_right => k_is)
    (case c_right => k_is)
    (case k_right => k_is)
    (case a_law => k_is)
    (case l_law => k_is)
    (case c_law => k_is)
    (case k_law => k_is)
    (case z_len => k_is)
    (case z_int => k_is)
    (case z_bool => k_is)
    (case z_str => k_is)
    (case z_list => k_is)
    (case z_tuple => k_is)
    (case z_dict => k_is)
    (case z_abs => k_is)
    (case z_max => k_is)
    (case z_min => k_is)
    (case z_range => k_is)
    (case z_repr => k_is)
    (case z_isinstance => k_is)
    (case z_all => k_is)
    (case z_any => k_is)
    (case z_sorted => k_is)
    (case z_enumerate => k_is)
    (case z_iter => k_is)
    (case z_zip => k_is)
    (case i_LONGEST => k_is)
    (case i_MAX_LETTERS => k_is)
    (case i_MAX_ARITY => k_is)
    (case i_MAX_NODES => k_is)
    (case i_ANY => k_is)
    (case i_LOST => k_is)
    (case i_LETTERS => k_is)
    (case i_SIGNS => k_is)

