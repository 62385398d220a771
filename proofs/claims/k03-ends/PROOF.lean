import PyProof.Rows.All
import Wide.All
import OpenK.AllK
import Wide.FinOn
import HandS.ForMost
import HandS.ForExc
import HandS.Wide
import HandS.StrMore
import HandS.SortInts
import HandS.CallSlots
import HandS.Defaults
import HandS.HeadHook1
import HandS.Walk
import HandS.Codes
import HandS.Head0
import HandS.Head1
import HandS.Head2
import HandS.HeadEnd
import HandS.HeadHook2
import PySem.Challenge.RW_shelfmark_k03_ends
set_option Elab.async false
set_option linter.all false
set_option maxRecDepth 100000
set_option maxHeartbeats 8000000
/-! SmBase: forgetting new objects (Trim), calls by promises (FnG), steps. -/
namespace Sm
open PySem PySem.Spec PyProof.Rows L2

/-! ### forgetting what is new -/
def okO (H : Hp) (a : Addr) : HO → Prop
  | .dT _ => False
  | .ins _ dx _ => H dx = some (.own a)
  | .frz _ u => okO H a u
  | _ => True
/-- each tracked instance's own dict is tracked, no dict with tuple keys -/
def Clo (H : Hp) : Prop := ∀ a o, H a = some o → okO H a o
structure Trim (H H1 H2 : Hp) : Prop where
  sub : ∀ a o, H2 a = some o → H1 a = some o
  tup : ∀ a xs, H a = some (.tup xs) → H2 a = some (.tup xs)
  frz : ∀ a o u, H a = some (.frz o u) → H2 a = some (.frz o u)
  tbl : ∀ a ps, H a = some (.tbl ps) → ∃ more, H2 a = some (.tbl (ps ++ more))
  clo : Clo H2
def Ex (H H' : Hp) : Prop := ∀ a o, H a = some o → H' a = some o
theorem Ex.refl (H : Hp) : Ex H H := fun _ _ h => h
theorem Ex.trans {H H1 H2 : Hp} (a : Ex H H1) (b : Ex H1 H2) : Ex H H2 := fun x o h => b x o (a x o h)
theorem Ex.new {H H' : Hp} {p : Addr} {o : HO} (e : Ex H H') (h : H p = none) : Ex H (upd H' p o) := fun a u ha => by
  rw [upd_ne (ne_of_none ha h)]
  exact e a u ha
theorem Ex.back {H H' : Hp} {p : Addr} (e : Ex H H') (h : H' p = none) : H p = none := by
  cases q : H p with
  | none => rfl
  | some o =>
    rw [e p o q] at h
    cases h
theorem Trim.back {H H' : Hp} (e : Ex H H') (c : Clo H) : Trim H H' H :=
  ⟨e, fun _ _ h => h, fun _ _ _ h => h, fun _ ps h => ⟨#[], by rw [h, Array.append_empty]⟩, c⟩
/-- one new object stays -/
theorem Trim.keep {H H' : Hp} {p : Addr} {o : HO} (e : Ex H H') (hp : H p = none) (h : H' p = some o) (c : Clo H) (ho : okO (upd H p o) p o) : Trim H H' (upd H p o) := by
  refine ⟨fun a u q => ?_, fun a xs q => ?_, fun a ob u q => ?_, fun a ps q => ⟨#[], ?_⟩, fun a u q => ?_⟩
  · by_cases ha : a = p
    · rw [ha, upd_same] at q; cases q; rw [ha]; exact h
    · rw [upd_ne ha] at q; exact e a u q
  · rw [upd_ne (ne_of_none q hp)]; exact q
  · rw [upd_ne (ne_of_none q hp)]; exact q
  · rw [upd_ne (ne_of_none q hp), q, Array.append_empty]
  · by_cases ha : a = p
    · rw [ha, upd_same] at q; cases q; rw [ha]; exact ho
    · rw [upd_ne ha] at q
      have z := c a u q
      clear q ha
      induction u with
      | dT _ => exact z
      | ins C dx fs =>
        have z' : H dx = some (.own a) := z
        show upd H p o dx = some (.own a)
        rw [upd_ne (ne_of_none z' hp)]; exact z'
      | frz ob v ih => exact ih z
      | _ => trivial
theorem okO_objOk {P : Program} {w : World} {H H1 : Hp} {h : Heap} {a : Addr} : ∀ {o : HO}, okO H a o → ObjOk P w H1 h a o → ObjOk P w H h a o := by
  intro o
  induction o with
  | ins C dx fs =>
    intro z x
    obtain ⟨_, x2, x3, x4, x5⟩ := x
    exact ⟨z, x2, x3, x4, x5⟩
  | dT _ => intro z; exact False.elim z
  | frz ob u ih =>
    intro z x
    obtain ⟨e, q⟩ := x
    exact ⟨e, ih z q⟩
  | _ => intro _ x; exact x
theorem hok_trim {P : Program} {w : World} {H H1 H2 : Hp} {h : Heap} (t : Trim H H1 H2) (x : HOk P w H1 h) : HOk P w H2 h := fun a o e => okO_objOk (t.clo a o e) (x a o (t.sub a o e))
theorem Trim.gone {H H1 H2 : Hp} (t : Trim H H1 H2) {a : Addr} (h : H1 a = none) : H2 a = none := by
  cases q : H2 a with
  | none => rfl
  | some o =>
    rw [t.sub a o q] at h
    cases h
section
variable {X : Cx} {pins : List (Addr × Obj)} {σ σ0 : L2.St} {H H1 H2 : Hp} {s s0 : Shared}
theorem inv_trim (I0 : Inv X pins σ0 H s0) (I : Inv X pins σ H1 s) (t : Trim H H1 H2) : Inv X pins σ H2 s where
  ok := I.ok
  os := I.os
  bare := I.bare
  base := ⟨fun b o e n hb hx => I.base.keep b o e n hb hx, fun b o e n hb hx => I.base.slot b o e n hb hx, fun b o e n hx => t.gone (I.base.free b o e n hx), I.base.there,
    fun b xs e => t.tup b xs (I0.base.tups b xs e), fun b o u e => t.frz b o u (I0.base.frzs b o u e), fun b ps e => by
      obtain ⟨m1, e1⟩ := I0.base.tbls b ps e
      obtain ⟨m2, e2⟩ := t.tbl b _ e1
      exact ⟨m1 ++ m2, by rw [e2, Array.append_assoc]⟩⟩
  loc := I.loc
  cell := I.cell
  free := t.gone I.free
  freeC := fun x c e => t.gone (I.freeC x c e)
  pin := fun p hp => by
    obtain ⟨a, b, c⟩ := I.pin p hp
    exact ⟨a, t.gone b, c⟩
  hok := hok_trim t I.hok
  len := I.len
/-- a statement behind which new objects may be forgotten -/
def tTrim (t : TS) : TS := fun D σ H => t ⟨fun σ1 H1 => ∃ H2, Trim H H1 H2 ∧ D.nx σ1 H2, fun v H1 => ∃ H2, Trim H H1 H2 ∧ D.rt v H2, fun σ1 H1 => ∃ H2, Trim H H1 H2 ∧ D.bk σ1 H2, fun σ1 H1 => ∃ H2, Trim H H1 H2 ∧ D.ct σ1 H2⟩ σ H
theorem ps_trim {st : Stmt} {t : TS} (h : PS X st t) : PS X st (tTrim t) := ⟨fun pins s σ H D I q => by
  refine thn (h.run pins s σ H _ I q) fun f s' z => ?_
  cases f with
  | next =>
    obtain ⟨σ', H', I', H2, tr, d⟩ := z
    exact ⟨σ', H2, inv_trim I I' tr, d⟩
  | brk =>
    obtain ⟨σ', H', I', H2, tr, d⟩ := z
    exact ⟨σ', H2, inv_trim I I' tr, d⟩
  | cont =>
    obtain ⟨σ', H', I', H2, tr, d⟩ := z
    exact ⟨σ', H2, inv_trim I I' tr, d⟩
  | ret u =>
    obtain ⟨v, σ', H', I', r, H2, tr, d⟩ := z
    exact ⟨v, σ', H2, inv_trim I I' tr, r, d⟩⟩
def tTrimE (t : TE) : TE := fun σ H Q => t σ H fun v H1 => ∃ H2, Trim H H1 H2 ∧ Q v H2
theorem pe_trim {e : Expr} {t : TE} (h : PE X e t) : PE X e (tTrimE t) := ⟨fun pins s σ H Q I q => by
  refine thn (h.run pins s σ H _ I q) fun f s' z => ?_
  obtain ⟨v, H', I', r, H2, tr, d⟩ := z
  exact ⟨v, H2, inv_trim I I' tr, r, d⟩⟩
end

/-- what a state's tuples, locked things stay in -/
structure Rst (H0 H : Hp) : Prop where
  ex : ∀ a o, H0 a = some o → H a = some o
  tup : ∀ a xs, H a = some (.tup xs) → H0 a = some (.tup xs)
  frz : ∀ a o u, H a = some (.frz o u) → H0 a = some (.frz o u)
  tbl : ∀ a ps, H a = some (.tbl ps) → H0 a = some (.tbl ps)
def softO : HO → Bool
  | .tup _ => false
  | .frz _ _ => false
  | .tbl _ => false
  | _ => true
theorem Rst.refl (H : Hp) : Rst H H := ⟨fun _ _ h => h, fun _ _ h => h, fun _ _ _ h => h, fun _ _ h => h⟩
theorem Rst.new {H0 H : Hp} {p : Addr} {o : HO} (r : Rst H0 H) (h : H0 p = none) (s : softO o = true) : Rst H0 (upd H p o) := by
  refine ⟨fun a u q => ?_, fun a xs q => ?_, fun a ob u q => ?_, fun a ps q => ?_⟩
  · rw [upd_ne (ne_of_none q h)]; exact r.ex a u q
  · by_cases ha : a = p
    · rw [ha, upd_same] at q; cases q; cases s
    · rw [upd_ne ha] at q; exact r.tup a xs q
  · by_cases ha : a = p
    · rw [ha, upd_same] at q; cases q; cases s
    · rw [upd_ne ha] at q; exact r.frz a ob u q
  · by_cases ha : a = p
    · rw [ha, upd_same] at q; cases q; cases s
    · rw [upd_ne ha] at q; exact r.tbl a ps q
theorem Trim.to {H0 H H1 H2 : Hp} (r : Rst H0 H) (e : Ex H0 H2) (s : Ex H2 H1) (c : Clo H2) : Trim H H1 H2 :=
  ⟨s, fun a xs h => e a _ (r.tup a xs h), fun a o u h => e a _ (r.frz a o u h), fun a ps h => ⟨#[], by rw [e a _ (r.tbl a ps h), Array.append_empty]⟩, c⟩
theorem Trim.refl {H : Hp} (c : Clo H) : Trim H H H := Trim.to (Rst.refl H) (Ex.refl H) (Ex.refl H) c
/-- nothing that is tracked is a hard one -/
theorem clo_upd {H : Hp} {p : Addr} {o : HO} (c : Clo H) (hp : H p = none) (ho : okO (upd H p o) p o) : Clo (upd H p o) := (Trim.keep (H' := upd H p o) (Ex.new (Ex.refl H) hp) hp upd_same c ho).clo
/-- a thing at p that owns nothing is replaced -/
def plainO : HO → Bool
  | .lst _ => true
  | .tup _ => true
  | .dK _ => true
  | .set _ _ => true
  | .xd _ => true
  | .rng _ _ => true
  | .ext _ => true
  | _ => false
theorem okO_plain {H : Hp} {p : Addr} {o : HO} (h : plainO o = true) : okO H p o := by
  cases o with
  | dT _ => cases h
  | ins _ _ _ => cases h
  | frz _ _ => cases h
  | _ => trivial
theorem clo_new {H : Hp} {p : Addr} {o : HO} (c : Clo H) (hp : H p = none) (ho : plainO o = true) : Clo (upd H p o) := clo_upd c hp (okO_plain ho)
theorem okO_upd {H : Hp} {p a : Addr} {o : HO} (np : ∀ x, H p ≠ some (.own x)) : ∀ {u : HO}, okO H a u → okO (upd H p o) a u := by
  intro u
  induction u with
  | dT _ => intro z; exact z
  | ins C dx fs =>
    intro z
    have z' : H dx = some (.own a) := z
    show upd H p o dx = some (.own a)
    rw [upd_ne (fun e => np a (by rw [← e]; exact z'))]
    exact z'
  | frz ob v ih => intro z; exact ih z
  | _ => intro _; trivial
theorem clo_set {H : Hp} {p : Addr} {o : HO} (c : Clo H) (np : ∀ x, H p ≠ some (.own x)) (ho : plainO o = true) : Clo (upd H p o) := fun a u q => by
  by_cases ha : a = p
  · rw [ha, upd_same] at q; cases q; rw [ha]; exact okO_plain ho
  · rw [upd_ne ha] at q
    exact okO_upd np (c a u q)
theorem Ex.both {H H' : Hp} {p : Addr} {o : HO} (e : Ex H H') : Ex (upd H p o) (upd H' p o) := fun a u h => by
  by_cases ha : a = p
  · rw [ha, upd_same] at h ⊢; exact h
  · rw [upd_ne ha] at h ⊢; exact e a u h
theorem ne_fresh {H : Hp} {a b : Addr} (h : H a ≠ none) (h' : H b = none) : a ≠ b := fun e => h (by rw [e]; exact h')
theorem tr_some {H : Hp} {a : Addr} {o : HO} (h : H a = some o) : H a ≠ none := by rw [h]; exact fun z => nomatch z
theorem tr_same {H : Hp} {a : Addr} {o : HO} : upd H a o a ≠ none := tr_some upd_same
theorem tr_upd {H : Hp} {a b : Addr} {o : HO} (h : H b ≠ none) : upd H a o b ≠ none := by
  by_cases e : b = a
  · rw [e]; exact tr_same
  · rw [upd_ne e]; exact h
/-- all but the last new thing forgotten -/
theorem Trim.last {H0 H H' : Hp} {p : Addr} {o : HO} (r : Rst H0 H) (e : Ex H0 H') (hp : H0 p = none) (c : Clo H0) (ho : plainO o = true) : Trim H (upd H' p o) (upd H0 p o) :=
  Trim.to r (Ex.new (Ex.refl _) hp) (Ex.both e) (clo_new c hp ho)
theorem Trim.base {H0 H H' : Hp} (r : Rst H0 H) (e : Ex H0 H') (c : Clo H0) : Trim H H' H0 := Trim.to r (Ex.refl _) e c
theorem clo_only {H : Hp} (h : Only H) : Clo H := fun a o e => by
  rcases h a with z | ⟨ob, xs, z⟩
  · rw [z] at e; cases e
  · rw [z] at e; cases e; trivial

/-! ### own defs by name -/
structure FnG (P : Program) (w : World) (K : PySem.W.Frag) (mg : Str → Option Value) (base : Heap) (CX : CXT) (x : Str) (ps : List Str) (k : Nat) (sp : Sp) : Prop where
  ex : ∃ f fd, mg x = some (.ref f) ∧ PySem.W.keepIn K (.ref f) = true ∧ Binds K fd ps [] ∧ FnOk P w K mg base CX k f fd ps sp
section
variable {X : Cx} {CX : CXT} {j k : Nat} {ps : List Str} {sp : Sp} {x : Str} {p pos : Pos} {e : Expr} {es : List Expr} {t : TA} {E : XK}
theorem pe_G (G : FnG X.prog X.w X.K X.mg X.base CX x ps k sp) (hr : Room j X.A) (hjk : k ≤ j) (hg : Gl X x) (hx : Passes CX X E) (ha : PA X (e :: es) t)
    (hdb : (x == ("__debug__" : Str)) = false := by decide) (he : starEach (e :: es) X.env = (false, eval e X.env) :: starEach es X.env := by rfl) (hpl : (backTo pos (starEach es X.env)).any (·.1) = false := by rfl) :
    PE X (.Call (.Name x p) (e :: es) [] pos) (tCall sp [] E t) := by
  obtain ⟨f, fd, hm, hk, hb, F⟩ := G.ex
  exact pe_call F (hr.mono hjk) hg hm hk hb .nil hx ha hdb he hpl
theorem pe_G0 (G : FnG X.prog X.w X.K X.mg X.base CX x ps k sp) (hr : Room j X.A) (hjk : k ≤ j) (hg : Gl X x) (hx : Passes CX X E) (hdb : (x == ("__debug__" : Str)) = false := by decide) :
    PE X (.Call (.Name x p) [] [] pos) (tCall sp [] E tNil) := by
  obtain ⟨f, fd, hm, hk, hb, F⟩ := G.ex
  exact pe_call0 F (hr.mono hjk) hg hm hk hb .nil hx hdb
end

/-! ### blocks, tests that forget -/
section
variable {X : Cx}
theorem pss_trim {st : List Stmt} {t : TS} (h : PSs X st t) : PSs X st (tTrim t) := ⟨fun pins s σ H D I q => by
  refine thn (h.run pins s σ H _ I q) fun f s' z => ?_
  cases f with
  | next =>
    obtain ⟨σ', H', I', H2, tr, d⟩ := z
    exact ⟨σ', H2, inv_trim I I' tr, d⟩
  | brk =>
    obtain ⟨σ', H', I', H2, tr, d⟩ := z
    exact ⟨σ', H2, inv_trim I I' tr, d⟩
  | cont =>
    obtain ⟨σ', H', I', H2, tr, d⟩ := z
    exact ⟨σ', H2, inv_trim I I' tr, d⟩
  | ret u =>
    obtain ⟨v, σ', H', I', r, H2, tr, d⟩ := z
    exact ⟨v, σ', H2, inv_trim I I' tr, r, d⟩⟩
def tTrimT (t : TT) : TT := fun σ H Q => t σ H fun b H1 => ∃ H2, Trim H H1 H2 ∧ Q b H2
theorem pt_trim {e : Expr} {t : TT} (h : PT X e t) : PT X e (tTrimT t) := ⟨fun pins s σ H Q I q => by
  refine thn (h.run pins s σ H _ I q) fun b s' z => ?_
  obtain ⟨H', I', H2, tr, d⟩ := z
  exact ⟨H2, inv_trim I I' tr, d⟩⟩
theorem pe_GS {k j : Nat} {ps : List Str} {sp : Sp} {x : Str} {p pos : Pos} {e : Expr} {es : List Expr} {t : TA} {E : L2.St → XK} (G : FnG X.prog X.w X.K X.mg X.base (L2.CX X.prog X.w) x ps k sp) (hr : Room j X.A) (hjk : k ≤ j) (hg : Gl X x) (hx : ∀ σ, PassesAt (L2.CX X.prog X.w) X σ (E σ)) (ha : PA X (e :: es) t)
    (hdb : (x == ("__debug__" : Str)) = false := by decide) (he : starEach (e :: es) X.env = (false, eval e X.env) :: starEach es X.env := by rfl) (hpl : (backTo pos (starEach es X.env)).any (·.1) = false := by rfl) :
    PE X (.Call (.Name x p) (e :: es) [] pos) (tCallSD sp [] E t) := by
  obtain ⟨f, fd, hm, hk, hb, F⟩ := G.ex
  exact pe_callSD F (hr.mono hjk) hg hm hk hb .nil hx ha hdb he hpl
end
/-- a meeting of ways: Mid holds behind the first statement -/
def tMeet (t u : TS) : TS := fun D σ H => ∃ Mid : L2.St → Hp → Prop, t { D with nx := Mid } σ H ∧ ∀ σ1 H1, Mid σ1 H1 → u D σ1 H1
theorem pss_meet {X : Cx} {st : Stmt} {rest : List Stmt} {t u : TS} (h1 : PS X st t) (h2 : PSs X rest u) : PSs X (st :: rest) (tMeet t u) := ⟨fun pins s σ H D I h => by
  obtain ⟨Mid, a, b⟩ := h
  refine wpAny_execs_cons (thn (h1.run pins s σ H _ I a) fun f s1 hf => ?_)
  cases f with
  | next =>
    obtain ⟨σ1, H1, I1, q⟩ := hf
    exact h2.run pins s1 σ1 H1 D I1 (b σ1 H1 q)
  | brk => exact hf
  | cont => exact hf
  | ret v => exact hf⟩
/-! ### readings by name -/
abbrev rAddI : R2 := rI0 fun i j => .int (i + j)
abbrev rSubI : R2 := rI0 fun i j => .int (i - j)
abbrev rMulW : R2 := rI CMulW fun i j => .int (i * j)
abbrev rDivW : R2 := rI CDivW fun i j => .int (i / j)
abbrev rModI : R2 := rI (fun _ j => 0 < j) fun i j => .int (i % j)
abbrev rPowI : R2 := rI CPow fun i j => .int (i ^ j.toNat)
abbrev rShrI : R2 := rI (fun _ j => 0 ≤ j) fun i j => .int (i / 2 ^ j.toNat)
abbrev rLtI : R2 := rI0 fun i j => .bl (decide (i < j))
abbrev rLeI : R2 := rI0 fun i j => .bl (decide (i ≤ j))
abbrev rGtI : R2 := rI0 fun i j => .bl (decide (j < i))
abbrev rGeI : R2 := rI0 fun i j => .bl (decide (j ≤ i))
abbrev rLtS : R2 := fun x y H Q => ∃ i j, x = .str i ∧ y = .str j ∧ Q (.bl (decide (i.cps.toList < j.cps.toList))) H
abbrev rLeS : R2 := fun x y H Q => ∃ i j, x = .str i ∧ y = .str j ∧ Q (.bl (!decide (j.cps.toList < i.cps.toList))) H
abbrev rGtS : R2 := fun x y H Q => ∃ i j, x = .str i ∧ y = .str j ∧ Q (.bl (decide (j.cps.toList < i.cps.toList))) H
abbrev rGeS : R2 := fun x y H Q => ∃ i j, x = .str i ∧ y = .str j ∧ Q (.bl (!decide (i.cps.toList < j.cps.toList))) H
abbrev rAddS1 : R2 := fun x y H Q => ∃ i j, x = .str i ∧ y = .str j ∧ i.length + j.length ≤ sizeLine ∧ Q (.str (i ++ j)) H
abbrev rInC : R2 := fun x y H Q => ∃ (c : Nat) (z : Str), x = .str ⟨#[c]⟩ ∧ y = .str z ∧ Q (.bl (decide (c ∈ z.cps.toList))) H
abbrev rNotInC : R2 := fun x y H Q => ∃ (c : Nat) (z : Str), x = .str ⟨#[c]⟩ ∧ y = .str z ∧ Q (.bl (!decide (c ∈ z.cps.toList))) H
abbrev rNotN : R2 := fun x y H Q => y = .non ∧ Q (.bl (!decide (x = .non))) H
abbrev rIsN : R2 := fun x y H Q => y = .non ∧ Q (.bl (decide (x = .non))) H
abbrev rNegI : V → Hp → VK → Prop := rU fun i => .int (-i)
abbrev rLenQ (K : PySem.W.Frag) : List V → Hp → VK → Prop := fun xs H Q => ∃ p ys, xs = [.ref p] ∧ (SqL K H p ys ∨ SqT K H p ys) ∧ Q (.int ys.length) H
abbrev rLenS1 : List V → Hp → VK → Prop := fun xs H Q => ∃ z, xs = [.str z] ∧ z.length ≤ sizeLine ∧ Q (.int z.length) H
abbrev rListQ (K : PySem.W.Frag) : List V → Hp → VK → Prop := fun xs H Q => ∃ p ys, xs = [.ref p] ∧ (SqL K H p ys ∨ SqT K H p ys) ∧ ∀ l, H l = none → Q (.ref l) (upd H l (.lst ys))
abbrev rDivmod : List V → Hp → VK → Prop := fun xs H Q => ∃ i j, xs = [.int i, .int j] ∧ CDiv i j ∧ ∀ p, H p = none → Q (.ref p) (upd H p (.tup [.int (i / j), .int (i % j)]))
abbrev rMin2 : List V → Hp → VK → Prop := fun xs H Q => ∃ i j, xs = [.int i, .int j] ∧ Q (.int (if j < i then j else i)) H
abbrev rMax2 : List V → Hp → VK → Prop := fun xs H Q => ∃ i j, xs = [.int i, .int j] ∧ Q (.int (if j > i then j else i)) H
abbrev rInt1 : List V → Hp → VK → Prop := fun xs H Q => (∃ i, xs = [.int i] ∧ Q (.int i) H) ∨ ∃ k, xs = [.bl k] ∧ Q (.int (if k then 1 else 0)) H
abbrev rJoin (K : PySem.W.Frag) : V → List V → Hp → VK → Prop := fun x xs H Q => ∃ a p, ∃ ys : List Str, x = .str a ∧ xs = [.ref p] ∧ (SqL K H p (ys.map V.str) ∨ SqT K H p (ys.map V.str)) ∧ (ys.map (·.length)).sum + ys.length * a.length ≤ 16777216 ∧ Q (.str (Txt.join a ys)) H
abbrev rSlX : V → Option Int → Option Int → Hp → VK → Prop := fun x lo hi H Q => ∃ z, x = .str z ∧ z.length ≤ sizeLine ∧ Q (.str (Txt.slice z lo hi)) H
abbrev rRstrip : V → List V → Hp → VK → Prop := fun x xs H Q => ∃ a b, x = .str a ∧ xs = [.str b] ∧ a.length ≤ sizeLine ∧ Q (.str (Txt.rstripChars a b)) H
abbrev tTru (K : PySem.W.Frag) (ta : TE) : TT := fun σ H Q => ta σ H fun x H' => ∃ k, TruV K x H' k ∧ Q k H'
def tTry (K : PySem.W.Frag) (c : Value) (ts : Addr → Value → Option Addr → TS) (Wout : WX) (tb : WX → TS) : TS := fun D σ H => tb (wOnly K c ts Wout D) D σ H
def tTryAs (K : PySem.W.Frag) (c : Value) (i : Nat) (ts : Addr → Value → Option Addr → TS) (Wout : WX) (tb : WX → TS) : TS := fun D σ H => tb (wAs K c i ts Wout D) D σ H
def tRaiseO (K : PySem.W.Frag) (x : Str) (W : WX) : TS := fun _ σ H => W (.ref (He.ga K x)) none σ H
/-! ### own rules -/
def chars (z : Str) : List Str := z.cps.toList.map fun c => ⟨#[c]⟩
abbrev rListS : List V → Hp → VK → Prop := fun xs H Q => ∃ z, xs = [.str z] ∧ z.length ≤ sizeLine ∧ ∀ l, H l = none → Q (.ref l) (upd H l (.lst ((chars z).map V.str)))
section
variable {X : Cx}
theorem Room.units65 {k : Nat} {A : Around} (r : Room k A) : A.units + 65 < cLine := by have := r.un; omega
/-- s.index(c), found -/
def rIndexS : L2.St → V → List V → Hp → VK → Prop := fun _ x xs H Q => ∃ (a b : Str) (k : Nat), x = .str a ∧ xs = [.str b] ∧ Txt.index0 a b = some k ∧ Q (.int (k : Nat)) H
theorem mt_indexS (hc : X.calm = true) : MtS X "str.index" rIndexS := fun pins s σ H x xs v us Q I rx rs h => by
  obtain ⟨a, b, k, e1, e2, e3, q⟩ := h
  exact mt_indexX hc takes0 pins s σ H x xs v us Q I rx rs ⟨a, b, e1, e2, fun k' e => by rw [e3] at e; cases e; exact q, fun e => by rw [e3] at e; cases e⟩
theorem paired_ix {α β : Type} {F : α → β → Prop} : ∀ {xs : List α} {ys : List β}, xs.length = ys.length → (∀ (i : Nat) (x : α) (y : β), xs[i]? = some x → ys[i]? = some y → F x y) → Paired F xs ys
  | [], [], _, _ => .nil
  | [], _ :: _, h, _ => by cases h
  | _ :: _, [], h, _ => by cases h
  | x :: xs, y :: ys, h, k => .cons (k 0 x y rfl rfl) (paired_ix (Nat.succ.inj h) fun i a b ha hb => k (i + 1) a b (by simpa using ha) (by simpa using hb))
theorem call_listS (hc : X.calm = true) : CallR X (.type "list") rListS := by
  intro pins s σ H xs us Q I r h
  obtain ⟨z, rfl, hz, q⟩ := h
  obtain ⟨u, rfl, t, rfl⟩ := vals1 r
  refine PySem.call_list_str (I.ok.hd hc) z t (fun h' tk acc c' k e it => ?_) (hn := hz)
  obtain ⟨it1, it2⟩ := it
  refine ⟨.ref s.heap.objs.size, upd H s.heap.objs.size (.lst ((chars z).map V.str)), I.laid (t' := tk) k (Nat.le_refl _) ⟨?_, acc.toList, c', ?_, e⟩, rfl, q _ (I.hok.fresh (Nat.le_refl _))⟩
  · rw [List.length_map]
    show (List.map _ _).length ≤ _
    rw [List.length_map, Array.length_toList]
    exact hz
  · refine paired_ix ?_ fun i x y hx hy => ?_
    · rw [List.length_map]
      show (List.map _ _).length = _
      rw [List.length_map, Array.length_toList, Array.length_toList, it1]
    · rw [Array.getElem?_toList] at hy
      obtain ⟨c, u, hc', rfl⟩ := it2 i y hy
      rw [List.getElem?_map] at hx
      have hx2 : (chars z)[i]? = some ⟨#[c]⟩ := by
        show (List.map _ _)[i]? = _
        rw [List.getElem?_map, Array.getElem?_toList, hc']
        rfl
      rw [hx2] at hx
      cases hx
      exact ⟨u, rfl⟩
end
/-! ### loops and comprehensions over what is walked -/
theorem walk_listF {K : PySem.W.Frag} {a : Addr} {xs : List V} : Walk (Itl K a) xs.length (fun H => SqL K H a xs) (YFn fun i => xs.getD i .non) :=
  walk_list.mono (fun _ h => h) fun i H x H' hi _ y => ⟨y.1, by show x = xs.getD i .non; rw [List.getD_eq_getElem?_getD, y.2]; rfl⟩
theorem walk_tupF {K : PySem.W.Frag} {a : Addr} {xs : List V} : Walk (Itt K a) xs.length (fun H => SqT K H a xs) (YFn fun i => xs.getD i .non) :=
  walk_tup.mono (fun _ h => h) fun i H x H' hi _ y => ⟨y.1, by show x = xs.getD i .non; rw [List.getD_eq_getElem?_getD, y.2]; rfl⟩
theorem walk_strF {z : Str} : Walk (Its z) z.cps.size (fun _ => True) (YFn fun i => .str ⟨#[z.cps.toList.getD i 0]⟩) :=
  walk_str.mono (fun _ h => h) fun i H x H' hi _ y => ⟨y.1, by
    obtain ⟨_, c, h1, h2⟩ := y
    show x = .str ⟨#[z.cps.toList.getD i 0]⟩
    rw [h2, List.getD_eq_getElem?_getD, Array.getElem?_toList, h1]; rfl⟩
theorem walk_range1 {n : Nat} : Walk (Itr 0 n) n (fun _ => True) (YFn fun i => .int (i : Int)) :=
  walk_range.mono (fun _ h => h) fun i H x H' _ _ y => ⟨y.1, by
    have e : x = .int (0 + (i : Int)) := y.2
    rw [e, Int.zero_add]⟩
/-- a comprehension whose turns leave nothing but the list -/
theorem lc_fn {J : It} {n : Nat} {G : Hp → Prop} {f : Nat → V} (w : Walk J n G (YFn f)) {g : TG} {tt : TT} {te : TE} {vs : List Nat} {σ : L2.St} {H1 : Hp} {D : Addr} {Qd : Hp → Prop} (b : Nat → Bool) (v : Nat → V) (hn : n ≤ 1000000)
    (hG : ∀ acc, G (upd H1 D (.lst acc)))
    (turn : ∀ i acc, i < n → acc.length ≤ i → ∀ N : Hp → Prop, (b i = true → N (upd H1 D (.lst (acc ++ [v i])))) → (b i = false → N (upd H1 D (.lst acc))) →
      g (f i) (wipe σ vs) (upd H1 D (.lst acc)) fun σ2 H2 => wipe σ2 vs = wipe σ vs ∧ tt σ2 H2 fun c H3 =>
        if c = true then te σ2 H3 fun y H4 => ∃ acc, H4 D = some (.lst acc) ∧ acc.length < sizeLine ∧ N (upd H4 D (.lst (acc ++ [y]))) else N H3)
    (hq : Qd (upd H1 D (.lst (((List.range n).filter b).map v)))) :
    ∃ W : Nat → Nat → Hp → Prop, (∃ m, W 0 m (upd H1 D (.lst []))) ∧ ∀ i m H, W i m H →
      (J.stop i H ∧ Qd H) ∨ (J.go i H ∧ ∃ Nx : Hp → Prop, (∀ H', Nx H' → ∃ m', m' < m ∧ W (i + 1) m' H') ∧ ∀ x H', J.yld i H x H' → g x (wipe σ vs) H' fun σ2 H2 => wipe σ2 vs = wipe σ vs ∧ tt σ2 H2 fun b H3 =>
        if b = true then te σ2 H3 fun y H4 => ∃ acc, H4 D = some (.lst acc) ∧ acc.length < sizeLine ∧ Nx (upd H4 D (.lst (acc ++ [y]))) else Nx H3) := by
  refine lc_it w (fun i H => H = upd H1 D (.lst (((List.range i).filter b).map v))) rfl (fun i H _ h => by rw [h]; exact hG _) ?_ (fun H h => by rw [h]; exact hq)
  rintro i x H H' hi rfl ⟨rfl, rfl⟩
  refine turn i _ hi ?_ (fun H' => H' = upd H1 D (.lst (((List.range (i + 1)).filter b).map v))) (fun hb => ?_) fun hb => ?_
  · rw [List.length_map]
    exact Nat.le_trans (List.length_filter_le _ _) (by rw [List.length_range]; exact Nat.le_refl _)
  · rw [List.range_succ, List.filter_append, List.map_append, List.filter_cons, if_pos hb]; rfl
  · rw [List.range_succ, List.filter_append, List.map_append, List.filter_cons, if_neg (by rw [hb]; decide)]
    show _ = upd H1 D (.lst (_ ++ []))
    rw [List.append_nil]
/-- the turn's end -/
theorem lc_end {H1 : Hp} {D : Addr} {acc : List V} {y : V} {n : Nat} {N : Hp → Prop} (hn : acc.length ≤ n) (hz : n < 1000000) (h : N (upd H1 D (.lst (acc ++ [y])))) :
    ∃ acc', (upd H1 D (.lst acc)) D = some (.lst acc') ∧ acc'.length < sizeLine ∧ N (upd (upd H1 D (.lst acc)) D (.lst (acc' ++ [y]))) :=
  ⟨acc, upd_same, by rw [sizeLine_eq]; omega, by rw [upd_upd]; exact h⟩
theorem range_map {α : Type} (xs : List α) (d : α) : (List.range xs.length).map (fun i => xs.getD i d) = xs := by
  apply List.ext_getElem?
  intro i
  rw [List.getElem?_map]
  by_cases h : i < xs.length
  · rw [List.getElem?_range h, List.getElem?_eq_getElem h]
    show some (xs.getD i d) = _
    rw [List.getD_eq_getElem?_getD, List.getElem?_eq_getElem h]; rfl
  · rw [List.getElem?_eq_none (by rw [List.length_range]; omega), List.getElem?_eq_none (by omega)]; rfl
theorem range_filter_map {α β : Type} (xs : List α) (d : α) (b : α → Bool) (v : α → β) : ((List.range xs.length).filter fun i => b (xs.getD i d)).map (fun i => v (xs.getD i d)) = (xs.filter b).map v := by
  have e : ((List.range xs.length).filter fun i => b (xs.getD i d)).map (fun i => v (xs.getD i d)) = (((List.range xs.length).map fun i => xs.getD i d).filter b).map v := by
    rw [List.filter_map, List.map_map]; rfl
  rw [e, range_map]
section
variable {J : It} {n : Nat} {G : Hp → Prop} {f : Nat → V} {g : TG} {tb : TS} {D : Ends} {σ : L2.St} {H : Hp}
theorem for_fn (w : Walk J n G (YFn f)) (Pv : Nat → L2.St → Hp → Prop) (h0 : Pv 0 σ H) (hG : ∀ i σ' H', i ≤ n → Pv i σ' H' → G H')
    (hs : ∀ i σ' H', i < n → Pv i σ' H' → g (f i) σ' H' fun σ2 H2 => tb { D with nx := Pv (i + 1), ct := Pv (i + 1), bk := D.nx } σ2 H2) (hd : ∀ σ' H', Pv n σ' H' → D.nx σ' H') :
    ∃ W : Nat → Nat → L2.St → Hp → Prop, (∃ m, W 0 m σ H) ∧ ∀ i m σ H, W i m σ H →
      (J.stop i H ∧ D.nx σ H) ∨ (J.go i H ∧ ∃ N : L2.St → Hp → Prop, (∀ σ' H', N σ' H' → ∃ m', m' < m ∧ W (i + 1) m' σ' H') ∧ ∀ x H', J.yld i H x H' → g x σ H' fun σ2 H2 => tb { D with nx := N, ct := N, bk := D.nx } σ2 H2) :=
  for_it w Pv h0 hG (fun i x σ' H' H'' hi p y => by
    obtain ⟨e1, e2⟩ := y
    subst e1 e2
    exact hs i σ' _ hi p) hd
/-- a loop that leaves the heap as it was -/
theorem for_fix (w : Walk J n G (YFn f)) (Pv : Nat → L2.St → Prop) (hG : G H) (h0 : Pv 0 σ)
    (hs : ∀ i σ', i < n → Pv i σ' → g (f i) σ' H fun σ2 H2 => tb { D with nx := fun σ3 H3 => H3 = H ∧ Pv (i + 1) σ3, ct := fun σ3 H3 => H3 = H ∧ Pv (i + 1) σ3, bk := D.nx } σ2 H2) (hd : ∀ σ', Pv n σ' → D.nx σ' H) :
    ∃ W : Nat → Nat → L2.St → Hp → Prop, (∃ m, W 0 m σ H) ∧ ∀ i m σ H, W i m σ H →
      (J.stop i H ∧ D.nx σ H) ∨ (J.go i H ∧ ∃ N : L2.St → Hp → Prop, (∀ σ' H', N σ' H' → ∃ m', m' < m ∧ W (i + 1) m' σ' H') ∧ ∀ x H', J.yld i H x H' → g x σ H' fun σ2 H2 => tb { D with nx := N, ct := N, bk := D.nx } σ2 H2) :=
  for_fn w (fun i σ' H' => H' = H ∧ Pv i σ') ⟨rfl, h0⟩ (fun _ _ _ _ p => p.1 ▸ hG) (fun i σ' H' hi p => by
    obtain ⟨e, p⟩ := p
    subst e
    exact hs i σ' hi p) fun σ' H' p => by
    obtain ⟨e, p⟩ := p
    subst e
    exact hd σ' p
end
theorem meet_fix {t u : TS} {D : Ends} {σ : L2.St} {H : Hp} (P : L2.St → Prop) (h1 : t { D with nx := fun σ1 H1 => H1 = H ∧ P σ1 } σ H) (h2 : ∀ σ1, P σ1 → u D σ1 H) : tMeet t u D σ H :=
  ⟨fun σ1 H1 => H1 = H ∧ P σ1, h1, fun σ1 H1 p => by
    obtain ⟨e, p⟩ := p
    subst e
    exact h2 σ1 p⟩
/-- a while: P by a measure, the heap by it -/
theorem while_fn {c : TT} {tb : TS} {D : Ends} {σ : L2.St} {H : Hp} (P : Nat → L2.St → Hp → Prop) (m : Nat) (h0 : P m σ H)
    (hs : ∀ m σ' H', P m σ' H' → c σ' H' fun b H1 => if b = true then tb { D with nx := fun σ2 H2 => ∃ m', m' < m ∧ P m' σ2 H2, ct := fun σ2 H2 => ∃ m', m' < m ∧ P m' σ2 H2, bk := D.nx } σ' H1 else D.nx σ' H1)
    (mono : ∀ σ' H' (Q Q' : Bool → Hp → Prop), (∀ b H1, Q b H1 → Q' b H1) → c σ' H' Q → c σ' H' Q') : tWhile c tb D σ H := by
  refine ⟨P, ⟨m, h0⟩, fun m σ' H' p => mono σ' H' _ _ (fun b H1 q => ?_) (hs m σ' H' p)⟩
  cases b with
  | false => simpa using q
  | true =>
    have q' : tb { D with nx := fun σ2 H2 => ∃ m', m' < m ∧ P m' σ2 H2, ct := fun σ2 H2 => ∃ m', m' < m ∧ P m' σ2 H2, bk := D.nx } σ' H1 := by simpa using q
    show if true = true then _ else _
    rw [if_pos rfl]
    exact ⟨_, fun _ _ n => n, q'⟩
/-- fresh things apart -/
theorem fresh_ne {H : Hp} {p q : Addr} {o : HO} (h : upd H q o p = none) : p ≠ q := fun e => by rw [e, upd_same] at h; cases h
theorem fresh_of {H : Hp} {p q : Addr} {o : HO} (h : upd H q o p = none) : H p = none := by
  have ne := fresh_ne h
  rw [upd_ne ne] at h; exact h
theorem sqL_new {K : PySem.W.Frag} {H : Hp} {a p : Addr} {o : HO} {xs : List V} (h : SqL K H a xs) (hp : H p = none) : SqL K (upd H p o) a xs := by
  rcases h with h | h
  · rcases h with h | ⟨ob, h⟩
    · exact .inl (.inl (by rw [upd_ne (ne_of_none h hp)]; exact h))
    · exact .inl (.inr ⟨ob, by rw [upd_ne (ne_of_none h hp)]; exact h⟩)
  · exact .inr h
theorem sqL_at {K : PySem.W.Frag} {H : Hp} {p : Addr} {xs : List V} : SqL K (upd H p (.lst xs)) p xs := .inl (.inl upd_same)
theorem sqT_at {K : PySem.W.Frag} {H : Hp} {p : Addr} {xs : List V} : SqT K (upd H p (.tup xs)) p xs := .inl (.inl upd_same)
/-- the end of a law: what it raises may hang on the world -/
theorem walk_ofW {l : PySem.W.OpenLaw} {n k : Nat} {q : Program} {loose : List Str} {XP : (Str → Option Value) → Heap → Prop} {YP : World → Heap → Prop} {d : DefRec} {CX : World → CXT} {x : Str} (h1 : l.most = some n) (h2 : n ≤ sizeLine) (h3 : d.params.defaults = [])
    (h4 : Room k callerA)
    (F : ∀ (w : World) (mg : Str → Option Value) (fa : Addr) (h : Heap), YP w h → h.Ns mainGlobals mg → mg d.name = some (.ref fa) → ∃ (K : PySem.W.Frag) (fd : FuncData) (sp : Sp), K.In h ∧ (∀ (s : Shared) (u : Value), BindsTo s fd ⟨[u], []⟩ [(x, u)]) ∧
      (∀ (H : Hp) (a : Addr) (ns : List Int), ns.length ≤ n → Only H → SqL K H a (ns.map V.int) → sp [.ref a] H (fun v _ => v = .bl true) fun _ _ _ => False) ∧ ∀ base : Heap, K.In base → base.Ns mainGlobals mg → FnOk l.prog w K mg base (CX w) k fa fd [x] sp)
    (h5 : ∀ (w : World) (H : Hp) (s : Shared) (e : Value) (s1 : Shared), CX w [] H s (fun _ _ _ => False) e s1 → False) : PySem.W.WalkO q loose XP YP l.row.toRowW d [] (fun f vs => PySem.call f vs) := by
  refine Att.attach_call h1 h3 ?_
  intro w s0 s1 mg mb fa o pm cd doc a vs ns G Y _ _ _ hm hob hin hln hg
  obtain ⟨K, fd, sp, kx, b1, b2, b3⟩ := F w mg fa _ Y G.T.g hm
  exact law_call kx G.T.g G.T.b G.T.builtins G.T.nolimit hg hob hin (Nat.le_trans hln h2) h4 b3 b1 (fun H y z => b2 H a ns hln y z) (fun H e s2 => h5 w H s1 e s2)
theorem cx_none {P : Program} {w : World} {l : List Env} {H : Hp} {s : Shared} {e : Value} {s1 : Shared} (h : L2.CX P w l H s (fun _ _ _ => False) e s1) : False := by
  obtain ⟨_, _, _, _, _, _, _, _, _, _, _, _, z⟩ := h
  exact z
end Sm
/-! SmMath: plain mathematics of marks. -/
namespace Sm
open PySem PySem.Spec PyProof.Rows L2
theorem mulW {i j : Int} (a b : Nat) (h1 : i.natAbs < 2 ^ a) (h2 : j.natAbs < 2 ^ b) (ha : 0 < a := by decide) (hb : 0 < b := by decide) (h : a + b ≤ 1000000 := by decide) : CMulW i j := wide_mul h1 h2 ha hb h
theorem mulW64 {i j : Int} (h1 : -(2 ^ 64) < i ∧ i < 2 ^ 64) (h2 : -(2 ^ 64) < j ∧ j < 2 ^ 64) : CMulW i j := mulW 64 64 (by omega) (by omega)
theorem divW64 {i j : Int} (h1 : 0 < j) (h2 : j < 2 ^ 64) : CDivW i j := wide_div (b := 64) h1 (by omega) (by decide) (by decide)
/-! ### ifs -/
theorem iteD {p A B : Prop} [Decidable p] (h1 : p → A) (h2 : ¬ p → B) : if decide p = true then A else B := by
  by_cases h : p
  · rw [decide_eq_true h]; exact iteT (h1 h)
  · rw [decide_eq_false h]; exact iteF (h2 h)
theorem iteDN {p A B : Prop} [Decidable p] (h1 : ¬ p → A) (h2 : p → B) : if (!decide p) = true then A else B := by
  by_cases h : p
  · rw [decide_eq_true h]; exact iteF (h2 h)
  · rw [decide_eq_false h]; exact iteT (h1 h)
theorem iteEI {x y : Int} {A B : Prop} (h1 : x = y → A) (h2 : ¬ x = y → B) : if decide (V.int x = V.int y) = true then A else B :=
  iteD (fun h => h1 (V.int.inj h)) fun h => h2 fun e => h (by rw [e])
theorem iteNI {x y : Int} {A B : Prop} (h1 : ¬ x = y → A) (h2 : x = y → B) : if (!decide (V.int x = V.int y)) = true then A else B :=
  iteDN (fun h => h1 fun e => h (by rw [e])) fun h => h2 (V.int.inj h)
theorem iteES {x y : Str} {A B : Prop} (h1 : x = y → A) (h2 : ¬ x = y → B) : if decide (V.str x = V.str y) = true then A else B :=
  iteD (fun h => h1 (V.str.inj h)) fun h => h2 fun e => h (by rw [e])
theorem iteNS' {x y : Str} {A B : Prop} (h1 : ¬ x = y → A) (h2 : x = y → B) : if (!decide (V.str x = V.str y)) = true then A else B :=
  iteDN (fun h => h1 fun e => h (by rw [e])) fun h => h2 (V.str.inj h)
theorem sz : sizeLine = 16777216 := sizeLine_eq
/-! ### letters, texts -/
open SX
/-- a text of letters by their numbers -/
def txt (ds : List Nat) : Str := S (ds.map (97 + ·))
abbrev LET : Str := "abcdefghijklmnopqrstuvwxyz"
theorem let_S : LET = txt (List.range 26) := by decide +kernel
theorem txt_len (ds : List Nat) : (txt ds).length = ds.length := by unfold txt; rw [S_len, List.length_map]
theorem txt_inj {a b : List Nat} (h : txt a = txt b) : a = b := by
  have e := S_inj h
  exact List.map_inj_right (fun x y h => by omega) |>.mp e
theorem txt_cat (a b : List Nat) : txt a ++ txt b = txt (a ++ b) := by unfold txt; rw [S_cat, List.map_append]
theorem txt_tl (ds : List Nat) : (txt ds).cps.toList = ds.map (97 + ·) := rfl
theorem txt_nil : txt [] = ("" : Str) := by decide +kernel
theorem let_len : LET.length = 26 := by decide +kernel
theorem let_atN {i : Nat} (h : i < 26) : LET.cps.toList[i]? = some (97 + i) := by
  rw [let_S, txt_tl, List.getElem?_map, List.getElem?_range h]; rfl
theorem let_at {j : Int} (h0 : 0 ≤ j) (h : j < 26) : atI LET.cps.toList j = some (97 + j.toNat) := by
  obtain ⟨n, rfl⟩ := Int.eq_ofNat_of_zero_le h0
  exact atI_nat (let_atN (by omega))
theorem join_txt (ds : List Nat) : Txt.join ("" : Str) (ds.map fun d => txt [d]) = txt ds := by
  have e : (ds.map fun d => txt [d]) = ((ds.map fun d => [97 + d]).map S) := by rw [List.map_map]; rfl
  rw [e, show ("" : Str) = S [] by decide +kernel, join_S]
  refine congrArg S ?_
  clear e
  induction ds with
  | nil => rfl
  | cons a r ih =>
    cases r with
    | nil => rfl
    | cons b r =>
      show [97 + a] ++ ([] ++ TL.joinL [] ((b :: r).map fun d => [97 + d])) = _
      rw [ih]; rfl
theorem slice_mid {a : List Nat} {i j : Nat} (h1 : i ≤ j) (h2 : j ≤ a.length) : Txt.slice (S a) (some (i : Int)) (some (j : Int)) = S ((a.drop i).take (j - i)) := by
  have e := beq_iff_eq.mp (PyProof.Rows.slice_closesL (x := S a) (i := (i : Int)) (j := (j : Int)) (by omega) (by omega) (by rw [S_len]; omega))
  refine e.trans ?_
  show S (List.take _ (List.drop _ a)) = _
  rw [Int.toNat_natCast, show ((j : Int) - i).toNat = j - i by omega]
theorem slice_txt {ds : List Nat} {i j : Nat} (h1 : i ≤ j) (h2 : j ≤ ds.length) : Txt.slice (txt ds) (some (i : Int)) (some (j : Int)) = txt ((ds.drop i).take (j - i)) := by
  unfold txt
  rw [slice_mid h1 (by rw [List.length_map]; exact h2), ← List.map_drop, ← List.map_take]
/-! ### order of texts, sorted ones -/
theorem str_ext {x y : Str} (h : x.cps.toList = y.cps.toList) : x = y := by
  obtain ⟨a⟩ := x; obtain ⟨b⟩ := y
  have h' : a.toList = b.toList := h
  rw [Array.toList_inj.mp h']
theorem rising_pw : ∀ {l : List Str} {p : Str}, risingS p l = true → (p :: l).Pairwise fun a b => a.cps.toList ≤ b.cps.toList
  | [], p, _ => List.pairwise_singleton _ _
  | x :: r, p, h => by
    have h' : (!ltCps x.cps.toList p.cps.toList && risingS x r) = true := h
    rw [Bool.and_eq_true, ltCps_eq, Bool.not_eq_true', decide_eq_false_iff_not] at h'
    have ih := rising_pw h'.2
    refine List.pairwise_cons.mpr ⟨fun b hb => ?_, ih⟩
    have px : p.cps.toList ≤ x.cps.toList := h'.1
    rcases List.mem_cons.mp hb with rfl | hb
    · exact px
    · exact List.le_trans px ((List.pairwise_cons.mp ih).1 b hb)
theorem sorted_pw : ∀ {l : List Str}, sortedS l = true → l.Pairwise fun a b => a.cps.toList ≤ b.cps.toList
  | [], _ => List.Pairwise.nil
  | _ :: _, h => rising_pw h
theorem sorted_eq {xs ys : List Str} (hp : ys.Perm xs) (hs : sortedS ys = true) (hx : xs.Pairwise fun a b => a.cps.toList ≤ b.cps.toList) : ys = xs :=
  List.Perm.eq_of_pairwise (le := fun a b => a.cps.toList ≤ b.cps.toList) (fun a b _ _ h1 h2 => str_ext (List.le_antisymm h1 h2)) (sorted_pw hs) hx hp
/-! ### two lists of texts compared -/
theorem dpAll_strs {K : PySem.W.Frag} {H : Hp} : ∀ ys : List Str, DpAll K H (ys.map V.str) (ys.map PyData.str)
  | [] => .nil
  | y :: r => .cons (.str y) (dpAll_strs r)
structure Sh (n : Nat) (d : PyData) : Prop where
  lay : d.canLay0 = true
  dep : d.depth ≤ n
theorem Sh.shaped {n : Nat} {d : PyData} (h : Sh n d) (hn : n ≤ 64 := by decide) : SeqAt.shaped d = true := by
  show (d.canLay0 && decide (d.depth ≤ 64)) = true
  rw [h.lay, decide_eq_true (Nat.le_trans h.dep hn)]; rfl
theorem Sh.int {n : Nat} (i : Int) : Sh n (.int i) := ⟨by simp [PyData.canLay0], by simp [PyData.depth]⟩
theorem Sh.bl {n : Nat} (i : Bool) : Sh n (.bool i) := ⟨by simp [PyData.canLay0], by simp [PyData.depth]⟩
theorem Sh.non {n : Nat} : Sh n .none := ⟨by simp [PyData.canLay0], by simp [PyData.depth]⟩
theorem Sh.str {n : Nat} {x : Str} (h : PyData.strOk x = true) : Sh n (.str x) := ⟨by simpa [PyData.canLay0] using h, by simp [PyData.depth]⟩
theorem sh_all {n : Nat} : ∀ {ds : List PyData}, (∀ d ∈ ds, Sh n d) → PyData.canLayAll0 ds = true ∧ PyData.depthAll ds ≤ n
  | [], _ => ⟨by simp [PyData.canLayAll0], by simp [PyData.depthAll]⟩
  | d :: ds, h => by
    obtain ⟨a, b⟩ := sh_all fun x hx => h x (List.mem_cons_of_mem _ hx)
    have c := h d List.mem_cons_self
    exact ⟨by simp [PyData.canLayAll0, a, c.lay], by simp only [PyData.depthAll]; exact Nat.max_le.mpr ⟨c.dep, b⟩⟩
theorem Sh.list {n : Nat} {ds : List PyData} (h : ∀ d ∈ ds, Sh n d) : Sh (n + 1) (.list ds) := by
  obtain ⟨a, b⟩ := sh_all h
  exact ⟨by simpa [PyData.canLay0] using a, by simp only [PyData.depth]; omega⟩
theorem Sh.tup {n : Nat} {ds : List PyData} (h : ∀ d ∈ ds, Sh n d) : Sh (n + 1) (.tuple ds) := by
  obtain ⟨a, b⟩ := sh_all h
  exact ⟨by simpa [PyData.canLay0] using a, by simp only [PyData.depth]; omega⟩
theorem strOk_S {l : List Nat} (h : ∀ c ∈ l, c < 0x110000) : PyData.strOk (S l) = true := by
  show (S l).cps.all (· < 0x110000) = true
  rw [← Array.all_toList]
  exact List.all_eq_true.mpr fun c hc => decide_eq_true (h c hc)
theorem strOk_txt {ds : List Nat} (h : ∀ d ∈ ds, d < 1000) : PyData.strOk (txt ds) = true := strOk_S fun c hc => by
  obtain ⟨d, hd, rfl⟩ := List.mem_map.mp hc
  have := h d hd
  omega
theorem sh_strs {ys : List Str} (h : ∀ y ∈ ys, PyData.strOk y = true) : Sh 1 (.list (ys.map PyData.str)) := Sh.list fun d hd => by
  obtain ⟨y, hy, rfl⟩ := List.mem_map.mp hd
  exact Sh.str (h y hy)
theorem eqvAll_strs : ∀ xs ys : List Str, PyData.eqvAll (xs.map .str) (ys.map .str) = decide (xs = ys)
  | [], [] => by simp [PyData.eqvAll]
  | x :: xs, y :: ys => by
    rw [List.map_cons, List.map_cons, PyData.eqvAll, PyData.eqv, eqvAll_strs xs ys]
    by_cases h : x = y
    · subst h; simp
    · simp [h]
  | [], y :: ys => by simp [PyData.eqvAll]
  | x :: xs, [] => by simp [PyData.eqvAll]
theorem eqv_strs (xs ys : List Str) : PyData.eqv (.list (xs.map .str)) (.list (ys.map .str)) = decide (xs = ys) := by rw [PyData.eqv, eqvAll_strs]
/-! ### an item by its place -/
theorem pick {xs : List V} {e : Int} (P : V → Prop) (h0 : 0 ≤ e) (h1 : e < xs.length) (hP : ∀ x ∈ xs, P x) : ∃ x, atI xs e = some x ∧ P x := by
  obtain ⟨n, rfl⟩ := Int.eq_ofNat_of_zero_le h0
  have hn : n < xs.length := by omega
  exact ⟨xs[n], atI_nat (List.getElem?_eq_getElem hn), hP _ (List.getElem_mem hn)⟩
theorem all1 {α : Type} {P : α → Prop} {x : α} {r : List α} (h : P x) (t : ∀ y ∈ r, P y) : ∀ y ∈ x :: r, P y := fun y hy => by
  rcases List.mem_cons.mp hy with rfl | hy
  · exact h
  · exact t y hy
theorem all0 {α : Type} {P : α → Prop} : ∀ y ∈ ([] : List α), P y := fun _ h => nomatch h
/-! ### the law's own head -/
def sp_law (K : PySem.W.Frag) : Sp := fun vs H Q _ => ∃ (a : Addr) (ns : List Int), vs = [.ref a] ∧ SqL K H a (ns.map V.int) ∧ ns.length ≤ 63 ∧ Only H ∧ ∀ H', Q (.bl true) H'
theorem law_in {K : PySem.W.Frag} {H : Hp} {a : Addr} {ns : List Int} (hO : Only H) (hS : SqL K H a (ns.map V.int)) (hl : ns.length ≤ 63) : sp_law K [.ref a] H (fun v _ => v = .bl true) fun _ _ _ => False :=
  ⟨a, ns, rfl, hS, hl, hO, fun _ => rfl⟩
/-- the letters from b on whose number less 1 has rest d by h -/
def ends (L h d : Nat) : List Nat := ((List.range (L - 1)).filter fun i => i % h == d).map (· + 1)
theorem ends_le (L h d : Nat) : (ends L h d).length ≤ L := by
  unfold ends
  rw [List.length_map]
  exact Nat.le_trans (List.length_filter_le _ _) (by rw [List.length_range]; omega)
theorem filt_step {w d m m2 : Nat} (hd : m % w = d) (h1 : m < m2) (h2 : m2 ≤ m + w) : (List.range m2).filter (fun i => i % w == d) = (List.range m).filter (fun i => i % w == d) ++ [m] := by
  obtain ⟨k, rfl⟩ : ∃ k, m2 = m + 1 + k := ⟨m2 - (m + 1), by omega⟩
  induction k with
  | zero =>
    rw [Nat.add_zero, List.range_succ, List.filter_append, List.filter_cons, if_pos (beq_iff_eq.mpr hd)]; rfl
  | succ k ih =>
    have hne : ¬ ((m + 1 + k) % w == d) = true := fun h => by
      have e : (m + 1 + k) % w = m % w := (beq_iff_eq.mp h).trans hd.symm
      have z := Nat.sub_mod_eq_zero_of_mod_eq e
      rw [show m + 1 + k - m = k + 1 by omega, Nat.mod_eq_of_lt (by omega)] at z
      omega
    rw [show m + 1 + (k + 1) = (m + 1 + k) + 1 by omega, List.range_succ, List.filter_append, ih (by omega) (by omega), List.filter_cons, if_neg hne]
    show _ ++ [] = _
    rw [List.append_nil]
theorem filt_none {w d m : Nat} (h : m ≤ d) (hd : d < w) : (List.range m).filter (fun i => i % w == d) = [] := by
  rw [List.filter_eq_nil_iff]
  intro i hi
  have := List.mem_range.mp hi
  rw [Nat.mod_eq_of_lt (by omega), beq_iff_eq]
  omega
theorem ends_mem {L h d k : Nat} : k ∈ ends L h d ↔ 1 ≤ k ∧ k < L ∧ (k - 1) % h = d := by
  unfold ends
  rw [List.mem_map]
  constructor
  · rintro ⟨i, hi, rfl⟩
    obtain ⟨h1, h2⟩ := List.mem_filter.mp hi
    have := List.mem_range.mp h1
    exact ⟨by omega, by omega, by simpa using h2⟩
  · rintro ⟨h1, h2, h3⟩
    exact ⟨k - 1, List.mem_filter.mpr ⟨List.mem_range.mpr (by omega), by simpa using h3⟩, by omega⟩
theorem ends_ne {L h d : Nat} (h1 : d < h) (h2 : h < L) : ends L h d ≠ [] := fun e => by
  have : d + 1 ∈ ends L h d := ends_mem.mpr ⟨by omega, by omega, by rw [Nat.add_sub_cancel, Nat.mod_eq_of_lt h1]⟩
  rw [e] at this
  cases this
theorem nodup_filter {α : Type} {p : α → Bool} {l : List α} (h : l.Nodup) : (l.filter p).Nodup := List.filter_sublist.nodup h
theorem nodup_map {α β : Type} {f : α → β} (hf : ∀ x y, f x = f y → x = y) {l : List α} (h : l.Nodup) : (l.map f).Nodup :=
  List.Pairwise.map f (fun _ _ n e => n (hf _ _ e)) h
theorem ends_nodup (L h d : Nat) : (ends L h d).Nodup := nodup_map (fun _ _ e => by omega) (nodup_filter List.nodup_range)
/-- the ends of all hands ahead of n -/
def allEnds (L h : Nat) : Nat → List Nat
  | 0 => []
  | n + 1 => allEnds L h n ++ ends L h n
theorem allEnds_mem {L h : Nat} : ∀ {n k : Nat}, k ∈ allEnds L h n ↔ 1 ≤ k ∧ k < L ∧ (k - 1) % h < n
  | 0, k => ⟨fun h => (by cases h), fun h => by omega⟩
  | n + 1, k => by
    show k ∈ allEnds L h n ++ ends L h n ↔ _
    rw [List.mem_append, allEnds_mem, ends_mem]
    omega
theorem allEnds_nodup (L h : Nat) : ∀ n, (allEnds L h n).Nodup
  | 0 => List.nodup_nil
  | n + 1 => List.nodup_append.mpr ⟨allEnds_nodup L h n, ends_nodup L h n, fun a ha b hb e => by
      have h1 := (allEnds_mem.mp ha).2.2
      have h2 := (ends_mem.mp hb).2.2
      rw [← e] at h2
      omega⟩
theorem allEnds_len (L h n : Nat) : (allEnds L h n).length ≤ L - 1 := by
  have h1 := List.Nodup.length_le_of_subset (allEnds_nodup L h n) (l₂ := (List.range (L - 1)).map (· + 1)) fun k hk => by
    have := allEnds_mem.mp hk
    exact List.mem_map.mpr ⟨k - 1, List.mem_range.mpr (by omega), by omega⟩
  rw [List.length_map, List.length_range] at h1
  exact h1
theorem allEnds_perm {L h : Nat} (h0 : 0 < h) : (allEnds L h h).Perm ((List.range (L - 1)).map (· + 1)) := by
  refine (List.perm_ext_iff_of_nodup (allEnds_nodup L h h) (nodup_map (fun _ _ e => by omega) List.nodup_range)).mpr fun k => ?_
  rw [allEnds_mem, List.mem_map]
  constructor
  · rintro ⟨h1, h2, _⟩
    exact ⟨k - 1, List.mem_range.mpr (by omega), by omega⟩
  · rintro ⟨i, hi, rfl⟩
    have := List.mem_range.mp hi
    exact ⟨by omega, by omega, Nat.mod_lt _ h0⟩
theorem chars_txt (ds : List Nat) : chars (txt ds) = ds.map fun d => txt [d] := by
  show (List.map _ (txt ds).cps.toList) = _
  rw [txt_tl, List.map_map]; rfl
theorem letters_from_b (L : Nat) (h : L ≤ 26) (h1 : 1 ≤ L) : Txt.slice LET (some 1) (some (L : Int)) = txt ((List.range (L - 1)).map (· + 1)) := by
  rw [let_S]
  have e := slice_txt (ds := List.range 26) (i := 1) (j := L) h1 (by rw [List.length_range]; exact h)
  refine e.trans (congrArg txt ?_)
  apply List.ext_getElem?
  intro k
  rw [List.getElem?_map, List.getElem?_take, List.getElem?_drop]
  by_cases hk : k < L - 1
  · rw [if_pos hk, List.getElem?_range (show 1 + k < 26 by omega), List.getElem?_range hk]
    show some (1 + k) = some (k + 1)
    rw [Nat.add_comm]
  · rw [if_neg hk, List.getElem?_eq_none (l := List.range (L - 1)) (by rw [List.length_range]; omega)]
    rfl
theorem singles_pw {ds : List Nat} (h : ds.Pairwise (· < ·)) : (ds.map fun d => txt [d]).Pairwise fun a b => a.cps.toList ≤ b.cps.toList := by
  refine List.Pairwise.map _ (fun a b hab => ?_) h
  show [97 + a] ≤ [97 + b]
  exact List.le_of_lt (List.Lex.rel (by omega))
end Sm
namespace Sm
open PySem PySem.Spec PyProof.Rows L2
local macro_rules | `(tactic| walk_at "len") => `(tactic| (intro hlen; first | (obtain ⟨e, _⟩ := hlen; subst e; rfl) | (obtain ⟨_, e, _⟩ := hlen; subst e; rfl) | (obtain ⟨_, _, e, _⟩ := hlen; subst e; rfl) | (obtain ⟨_, _, _, e, _⟩ := hlen; subst e; rfl) | (obtain ⟨_, _, _, _, e, _⟩ := hlen; subst e; rfl) | (obtain ⟨_, _, _, _, _, e, _⟩ := hlen; subst e; rfl) | (obtain ⟨_, _, _, _, _, _, e, _⟩ := hlen; subst e; rfl) | (obtain ⟨_, _, _, _, _, _, _, e, _⟩ := hlen; subst e; rfl) | (obtain ⟨_, _, _, _, _, _, _, _, e, _⟩ := hlen; subst e; rfl) | (obtain ⟨_, _, _, _, _, _, _, _, _, e, _⟩ := hlen; subst e; rfl) | (obtain ⟨_, _, _, _, _, _, _, _, _, _, e, _⟩ := hlen; subst e; rfl) | (obtain ⟨_, _, _, _, _, _, _, _, _, _, _, e, _⟩ := hlen; subst e; rfl) | (obtain ⟨_, _, _, _, _, _, _, _, _, _, _, _, e, _⟩ := hlen; subst e; rfl)))
local macro_rules | `(tactic| walk_at "ex") => `(tactic| first
  | assumption | exact Ex.refl _ | exact Rst.refl _ | exact upd_same
  | (refine Ex.new ?_ ?_ <;> walk_at "ex") | (refine Ex.back ?_ (by assumption) <;> walk_at "ex") | (refine Rst.new ?_ ?_ rfl <;> walk_at "ex")
  | (refine clo_new ?_ ?_ rfl <;> walk_at "ex"))
local macro_rules | `(tactic| walk_at "side") => `(tactic| first
  | with_reducible assumption | omega | (dsimp only; omega) | exact mulW64 (by omega) (by omega) | exact divW64 (by omega) (by omega) | decide | (rw [sz]; omega) | (refine ⟨?_, ?_⟩ <;> walk_at "side") | (rw [sz, txt_len]; omega) | walk_at "ex" | (rw [sz]; simp only [List.length_cons, List.length_nil]; omega) | decide +kernel)
local macro_rules | `(tactic| walk_at "go1") => `(tactic| first
  | refine ⟨_, rfl, ?_⟩
  | refine ⟨_, _, rfl, rfl, ?_⟩
  | refine ⟨_, _, rfl, ?_⟩
  | refine ⟨_, _, _, rfl, ?_⟩
  | refine ⟨rfl, ?_⟩
  | refine ⟨_, _, rfl, Or.inl ‹SqL _ _ _ _›, ?_⟩
  | refine ⟨_, _, _, _, rfl, rfl, ‹SqL _ _ _ _›, ‹atI _ _ = some _›, ?_⟩
  | refine ⟨_, _, _, rfl, rfl, (by walk_at "side"), ‹atI _ _ = some _›, ?_⟩)
local macro_rules | `(tactic| walk_at "go2") => `(tactic| first | walk_at "go1" | refine And.intro (by walk_at "side") ?_ | refine ⟨_, Trim.back (by walk_at "ex") ‹Clo _›, ?_⟩)
local macro_rules | `(tactic| walk_at "go") => `(tactic| repeat walk_at "go2")
local macro_rules | `(tactic| walk_at "if") => `(tactic| first | refine iteEI ?_ ?_ | refine iteNI ?_ ?_ | refine iteES ?_ ?_ | refine iteNS' ?_ ?_ | refine iteD ?_ ?_ | refine iteDN ?_ ?_ | refine ite2 ?_ ?_)
local macro_rules | `(tactic| walk_at "sq") => `(tactic| first | assumption | exact sqL_at | exact sqT_at | (refine sqL_new ?_ ?_ <;> walk_at "sq") | walk_at "ex")
local macro_rules | `(tactic| walk_at "draw") => `(tactic| refine ⟨_, _, _, _, rfl, (by walk_at "sq"), ‹_ ≤ 63›, (by omega), (by omega), (by omega), (by omega), ?_⟩)
local macro_rules | `(tactic| walk_at "tr") => `(tactic| first | exact tr_same | exact tr_some (by assumption) | (refine tr_upd ?_; walk_at "tr"))
local macro_rules | `(tactic| walk_at "ne") => `(tactic| first | assumption | (refine ne_fresh ?_ (by assumption); walk_at "tr") | (refine Ne.symm (ne_fresh ?_ (by assumption)); walk_at "tr"))
local macro_rules | `(tactic| walk_at "look") => `(tactic| first | exact upd_same | assumption | (refine Eq.trans (upd_ne ?_) ?_; (walk_at "ne"); (walk_at "look")))
/-! ### ends_of -/
def sp_ends_of (K : PySem.W.Frag) : Sp := fun vs H Q _ => ∃ (L h d : Nat), vs = [.int L, .int h, .int d] ∧ 2 ≤ L ∧ L ≤ 26 ∧ 1 ≤ h ∧ Clo H ∧ Q (.str (txt (ends L h d))) H
def t_ends_of (K : PySem.W.Frag) (E : XK) : TS :=
  (tTrim (tRet (tTrimE (tBM K "str" (rJoin K) (tC (.str "")) (tCons (tLc (iRng2 (tCons (tC (.int 1)) (tCons (tVar 0) tNil))) (gName 3) (tTest (tOp rEq (tOp rModI (tOp rSubI (tVar 3) (tC (.int 1))) (tVar 1)) (tVar 2))) (tOp rIxS (tC (.str "abcdefghijklmnopqrstuvwxyz")) (tVar 3)) [3]) tNil)))))
theorem len_ends_of {K : PySem.W.Frag} (vs : List V) (H : Hp) (Q : VK) (E : XK) : sp_ends_of K vs H Q E → vs.length = (["letters", "hands", "hand"] : List Str).length := by
  walk_at "len"

theorem pure_ends_of {K : PySem.W.Frag} (vs : List V) (H : Hp) (Q : VK) (E : XK) (h : sp_ends_of K vs H Q E) : t_ends_of K E { nx := fun _ H' => Q .non H', rt := Q } (start ["letters", "hands", "hand", "k"] vs) H := by
  obtain ⟨L, h, d, rfl, hL, hL2, hh, hC, q⟩ := h
  walk_at "go"
  intro D hD
  refine lc_fn walk_range (fun i => i % h == d) (fun i => .str (txt [i + 1])) (by omega) (fun _ => trivial) ?_ ?_
  · intro i acc hi hacc N h1 h2
    have hm : (1 + (i : Int) - 1) % (h : Int) = ((i % h : Nat) : Int) := by rw [show 1 + (i : Int) - 1 = (i : Int) by omega]; rfl
    walk_at "go"
    walk_at "if"
    · intro c
      have hx := let_at (j := 1 + (i : Int)) (by omega) (by omega)
      walk_at "go"
      refine lc_end hacc (by omega) ?_
      have e : (97 + (1 + (i : Int)).toNat) = 97 + (i + 1) := by omega
      rw [e]
      exact h1 (beq_iff_eq.mpr (by omega))
    · intro c
      exact h2 (beq_eq_false_iff_ne.mpr (by omega))
  · have e : (((List.range ((L : Int) - 1).toNat).filter fun i => i % h == d).map fun i => V.str (txt [i + 1])) = ((ends L h d).map fun d => txt [d]).map V.str := by
      unfold ends
      rw [List.map_map, List.map_map, show ((L : Int) - 1).toNat = L - 1 by omega]; rfl
    rw [e]
    refine ⟨_, _, _, rfl, rfl, .inl sqL_at, ?_, ?_⟩
    · have h1 := ends_le L h d
      have h2 : ((((ends L h d).map fun d => txt [d])).map (·.length)).sum = (ends L h d).length := by
        generalize ends L h d = l
        induction l with
        | nil => rfl
        | cons a r ih =>
          rw [List.map_cons, List.map_cons, List.sum_cons, ih, List.length_cons, txt_len]
          show 1 + _ = _
          omega
      rw [h2]
      show _ + _ * 0 ≤ _
      omega
    · rw [join_txt]
      walk_at "go"
      exact q
/-! ### law_draw -/
def sp_law_draw (K : PySem.W.Frag) : Sp := fun vs H Q _ => ∃ (a : Addr) (ns : List Int) (k many : Int), vs = [.ref a, .int k, .int many] ∧ SqL K H a (ns.map V.int) ∧ ns.length ≤ 63 ∧ 0 ≤ k ∧ k < 1000000 ∧ 0 < many ∧ many < 2 ^ 63 ∧
  ∀ d : Int, 0 ≤ d → d < many → Q (.int d) H
def t_law_draw (K : PySem.W.Frag) (E : XK) : TS :=
  (tMeet (tAsg (tIf (tTest (tOp rGtI (tCB (rLenQ K) (tCons (tVar 0) tNil)) (tC (.int 0)))) (tOp (rIxL K) (tVar 0) (tOp rModI (tVar 1) (tCB (rLenQ K) (tCons (tVar 0) tNil)))) (tC (.int 0))) (gName 3))
    (tMeet (tIfS (tAnd (tTest (tOp rGtI (tCB (rLenQ K) (tCons (tVar 0) tNil)) (tC (.int 0)))) (tTest (tOp rEq (tOp rModI (tOp (rIxL K) (tVar 0) (tC (.int 0))) (tC (.int 2))) (tC (.int 1)))))
    (tRet (tOp rModI (tOp rModI (tOp rShrI (tVar 3) (tOp rAddI (tOp rMulW (tC (.int 20)) (tOp rDivW (tVar 1) (tCB (rLenQ K) (tCons (tVar 0) tNil)))) (tC (.int 1)))) (tC (.int 1048576))) (tVar 2)))
    tNext)
    (tSeq (tAsg (tOp rAddI (tOp rAddI (tOp rModI (tVar 3) (tC (.int 1000003))) (tOp rMulW (tOp rMulW (tC (.int 31)) (tVar 1)) (tVar 1))) (tC (.int 1))) (gName 4))
    (tRet (tOp rModI (tOp rModI (tOp rMulW (tOp rModI (tOp rMulW (tVar 4) (tC (.int 48271))) (tC (.int 999983))) (tC (.int 7919))) (tC (.int 524287))) (tVar 2))))))
theorem len_law_draw {K : PySem.W.Frag} (vs : List V) (H : Hp) (Q : VK) (E : XK) : sp_law_draw K vs H Q E → vs.length = (["script", "k", "many"] : List Str).length := by
  walk_at "len"

theorem pure_law_draw {K : PySem.W.Frag} (vs : List V) (H : Hp) (Q : VK) (E : XK) (h : sp_law_draw K vs H Q E) : t_law_draw K E { nx := fun _ H' => Q .non H', rt := Q } (start ["script", "k", "many", "cell", "seed"] vs) H := by
  obtain ⟨a, ns, k, many, rfl, hS, hl, h0, h1, hm, hm2, q⟩ := h
  have hk : 0 ≤ 31 * k * k ∧ 31 * k * k < 2 ^ 60 := by
    have e : 31 * k * k ≤ 31 * 1000000 * 1000000 := Int.mul_le_mul (by omega) (by omega) h0 (by omega)
    exact ⟨Int.mul_nonneg (by omega) h0, by omega⟩
  have hd : ∀ j : Int, 0 ≤ j → j < (ns.map V.int).length → ∃ x, atI (ns.map V.int) j = some (.int x) := fun j j0 j1 => by
    obtain ⟨n, rfl⟩ := Int.eq_ofNat_of_zero_le j0
    rw [List.length_map] at j1
    exact ⟨ns[n]'(by omega), atI_nat (by rw [List.getElem?_map, List.getElem?_eq_getElem (by omega)]; rfl)⟩
  have el : (ns.map V.int).length ≤ 63 := by rw [List.length_map]; exact hl
  have fin : ∀ x : Int, Q (.int (x % many)) H := fun x => q _ (Int.emod_nonneg _ (by omega)) (Int.emod_lt_of_pos _ hm)
  refine ⟨fun σ' H' => ∃ c : Int, σ' = [some (.ref a), some (.int k), some (.int many), some (.int c), none] ∧ H = H', ?_, ?_⟩
  · walk_at "go"
    walk_at "if"
    · intro c
      obtain ⟨x, hx⟩ := hd (k % (ns.map V.int).length) (Int.emod_nonneg _ (by omega)) (Int.emod_lt_of_pos _ (by omega))
      walk_at "go"
      rfl
    · intro c
      exact ⟨0, rfl, rfl⟩
  · rintro _ _ ⟨c, rfl, rfl⟩
    refine ⟨fun σ' H' => σ' = [some (.ref a), some (.int k), some (.int many), some (.int c), none] ∧ H = H', ?_, ?_⟩
    · walk_at "go"
      walk_at "if"
      · intro c1
        obtain ⟨x, hx⟩ := hd 0 (by omega) (by omega)
        walk_at "go"
        walk_at "if"
        · intro _
          have e1 := Int.ediv_nonneg h0 (show (0 : Int) ≤ (ns.map V.int).length by omega)
          have e2 : k / (ns.map V.int).length ≤ k := Int.ediv_le_self _ h0
          walk_at "go"
          exact fin _
        · intro _
          exact ⟨rfl, rfl⟩
      · intro _
        exact ⟨rfl, rfl⟩
    · rintro _ _ ⟨rfl, rfl⟩
      walk_at "go"
      exact fin _
/-! ### law -/

def t_law (K : PySem.W.Frag) (E : XK) : TS :=
  (tSeq (tAsg (tC (.str "abcdefghijklmnopqrstuvwxyz")) (gName 1))
    (tSeq (tFor (iRng1 (tCons (tC (.int 3)) tNil)) (gName 2)
    (tSeq (tAsg (tTrimE (tOp (rIxL K) (tLst (tCons (tC (.int 2)) (tCons (tC (.int 3)) (tCons (tC (.int 5)) (tCons (tC (.int 10)) (tCons (tC (.int 26)) (tCons (tOp rAddI (tC (.int 2)) (tCall (sp_law_draw K) [] E (tCons (tVar 0) (tCons (tOp rAddI (tC (.int 10)) (tVar 2)) (tCons (tC (.int 25)) tNil))))) tNil))))))) (tCall (sp_law_draw K) [] E (tCons (tVar 0) (tCons (tVar 2) (tCons (tC (.int 6)) tNil)))))) (gName 3))
    (tTrim (tFor (iList K (tLst (tCons (tC (.int 1)) (tCons (tOp rSubI (tVar 3) (tC (.int 1))) (tCons (tOp rAddI (tC (.int 1)) (tCall (sp_law_draw K) [] E (tCons (tVar 0) (tCons (tOp rAddI (tC (.int 20)) (tVar 2)) (tCons (tOp rSubI (tVar 3) (tC (.int 1))) tNil))))) tNil))))) (gName 4)
    (tSeq (tAsg (tLst tNil) (gName 5))
    (tSeq (tFor (iRng1 (tCons (tVar 4) tNil)) (gName 6)
    (tSeq (tAsg (tCall (sp_ends_of K) [] E (tCons (tVar 3) (tCons (tVar 4) (tCons (tVar 6) tNil)))) (gName 7))
    (tSeq (tAsg (tC (.str "")) (gName 8))
    (tSeq (tAsg (tOp rAddI (tC (.int 1)) (tVar 6)) (gName 9))
    (tSeq (tWhile (tTest (tOp rLtI (tVar 9) (tVar 3))) (tSeq (tAsg (tOp rAddS1 (tVar 8) (tOp rIxS (tVar 1) (tVar 9))) (gName 8))
    (tAsg (tOp rAddI (tVar 9) (tVar 4)) (gName 9))))
    (tSeq (tIfS (tOr (tTest (tOp rNe (tVar 7) (tVar 8))) (tTest (tOp rEq (tVar 8) (tC (.str "")))))
    (tRet (tC (.bl false)))
    tNext)
    (tAsg (tTrimE (tOp rCat (tVar 5) (tCB rListS (tCons (tVar 7) tNil)))) (gName 5))))))))
    (tIfS (tTrimT (tTest (tOp (rNeD K) (tCB (rSortedS K) (tCons (tVar 5) tNil)) (tCB rListS (tCons (tSl rSlX (tVar 1) (tPart (tC (.int 1))) (tPart (tVar 3))) tNil)))))
    (tRet (tC (.bl false)))
    tNext)))))))
    (tRet (tC (.bl true)))))
theorem len_law {K : PySem.W.Frag} (vs : List V) (H : Hp) (Q : VK) (E : XK) : sp_law K vs H Q E → vs.length = (["script"] : List Str).length := by
  walk_at "len"

/-- an int from lo to hi -/
def IntIn (lo hi : Nat) (v : V) : Prop := ∃ n : Nat, v = .int n ∧ lo ≤ n ∧ n ≤ hi
theorem pure_law {K : PySem.W.Frag} (vs : List V) (H : Hp) (Q : VK) (E : XK) (h : sp_law K vs H Q E) : t_law K E { nx := fun _ H' => Q .non H', rt := Q } (start ["script", "signs", "k", "letters", "hands", "met", "hand", "found", "due", "number"] vs) H := by
  obtain ⟨a, ns, rfl, hS, hl, hO, q⟩ := h
  have hC := clo_only hO
  walk_at "go"
  refine for_fix walk_range1 (fun i σ' => ∃ x2 x3 x4 x5 x6 x7 x8 x9, σ' = [some (.ref a), some (.str LET), x2, x3, x4, x5, x6, x7, x8, x9]) trivial ⟨_, _, _, _, _, _, _, _, rfl⟩ ?_ ?_
  · rintro i σ' hi ⟨x2, x3, x4, x5, x6, x7, x8, x9, rfl⟩
    have hi3 : i < 3 := hi
    walk_at "go"
    walk_at "draw"
    intro d1 d10 d11
    walk_at "go"
    intro p1 hp1
    walk_at "go"
    walk_at "draw"
    intro d2 d20 d21
    obtain ⟨_, hat, L, rfl, hL0, hL1⟩ := pick (xs := [.int 2, .int 3, .int 5, .int 10, .int 26, .int (2 + d1)]) (IntIn 2 26) d20 (by simpa using d21)
      (all1 ⟨2, rfl, by omega, by omega⟩ (all1 ⟨3, rfl, by omega, by omega⟩ (all1 ⟨5, rfl, by omega, by omega⟩ (all1 ⟨10, rfl, by omega, by omega⟩ (all1 ⟨26, rfl, by omega, by omega⟩ (all1 ⟨(2 + d1).toNat, by congr 1; omega, by omega, by omega⟩ all0))))))
    have hSp := sqL_at (K := K) (H := H) (p := p1) (xs := [.int 2, .int 3, .int 5, .int 10, .int 26, .int (2 + d1)])
    walk_at "go"
    walk_at "draw"
    intro d3 d30 d31
    walk_at "go"
    intro p2 hp2
    refine ⟨_, rfl, ⟨_, sqL_at⟩, ?_⟩
    refine for_fix (walk_listF (xs := [.int 1, .int (L - 1), .int (1 + d3)])) (fun _ σ' => ∃ x4 x5 x6 x7 x8 x9, σ' = [some (.ref a), some (.str LET), some (.int i), some (.int L), x4, x5, x6, x7, x8, x9]) sqL_at ⟨_, _, _, _, _, _, rfl⟩ ?_ ?_
    · rintro j σ' hj ⟨x4, x5, x6, x7, x8, x9, rfl⟩
      have hw : ∃ w : Nat, (([.int 1, .int (L - 1), .int (1 + d3)] : List V).getD j .non) = .int w ∧ 1 ≤ w ∧ w ≤ L - 1 := by
        have hj3 : j < 3 := hj
        match j, hj3 with
        | 0, _ => exact ⟨1, rfl, by omega, by omega⟩
        | 1, _ => exact ⟨L - 1, by show V.int _ = _; congr 1; omega, by omega, by omega⟩
        | 2, _ => exact ⟨(1 + d3).toNat, by show V.int _ = _; congr 1; omega, by omega, by omega⟩
      obtain ⟨w, ew, hw0, hw1⟩ := hw
      rw [ew]
      walk_at "go"
      intro m0 hm0
      have hC1 := clo_new (o := .lst [V.int 1, V.int (L - 1), V.int (1 + d3)]) hC hp2 rfl
      generalize upd H p2 (.lst [V.int 1, V.int (L - 1), V.int (1 + d3)]) = H1 at hC1 hm0 ⊢
      walk_at "go"
      refine for_fn walk_range1 (fun d σ' H' => ∃ m x6 x7 x8 x9, H1 m = none ∧ H' = upd H1 m (.lst (((allEnds L w d).map fun k => txt [k]).map V.str)) ∧ σ' = [some (.ref a), some (.str LET), some (.int i), some (.int L), some (.int w), some (.ref m), x6, x7, x8, x9])
        ⟨m0, _, _, _, _, hm0, rfl, rfl⟩ (fun _ _ _ _ _ => trivial) ?_ ?_
      · rintro d σ' _ hd ⟨m, x6, x7, x8, x9, hm, rfl, rfl⟩
        have hd' : d < w := by
          have := hd
          omega
        walk_at "go"
        refine ⟨fun μ σ' H' => ∃ n : Nat, n % w = d ∧ n < L - 1 + w ∧ μ = L + w - n ∧ H' = upd H1 m (.lst (((allEnds L w d).map fun k => txt [k]).map V.str)) ∧
          σ' = [some (.ref a), some (.str LET), some (.int i), some (.int L), some (.int w), some (.ref m), some (.int d), some (.str (txt (ends L w d))), some (.str (txt (((List.range (min n (L - 1))).filter fun i => i % w == d).map (· + 1)))), some (.int (1 + n))],
          ⟨_, d, Nat.mod_eq_of_lt hd', by omega, rfl, rfl, ?_⟩, ?_⟩
        · rw [filt_none (Nat.min_le_left _ _) hd', List.map_nil, txt_nil]
          rfl
        · rintro μ σ' H' ⟨n, hn, hnL, rfl, rfl, rfl⟩
          walk_at "go"
          walk_at "if"
          · intro c
            refine ⟨_, fun _ _ z => z, ?_⟩
            have hx := let_at (j := 1 + (n : Int)) (by omega) (by omega)
            have hz := Nat.le_trans (List.length_filter_le (fun i => i % w == d) (List.range (min n (L - 1)))) (by rw [List.length_range]; exact Nat.min_le_left _ _)
            have hz2 : (txt (((List.range (min n (L - 1))).filter fun i => i % w == d).map (· + 1))).length ≤ 26 := by
              rw [txt_len, List.length_map]
              omega
            have hz3 : Str.length ⟨#[97 + (1 + (n : Int)).toNat]⟩ = 1 := rfl
            walk_at "go"
            refine ⟨L + w - (n + w), by omega, n + w, by rw [Nat.add_mod_right]; exact hn, by omega, rfl, rfl, ?_⟩
            have e : txt (((List.range (min n (L - 1))).filter fun i => i % w == d).map (· + 1)) ++ ⟨#[97 + (1 + (n : Int)).toNat]⟩ = txt (((List.range (min (n + w) (L - 1))).filter fun i => i % w == d).map (· + 1)) := by
              have e1 : (⟨#[97 + (1 + (n : Int)).toNat]⟩ : Str) = txt [n + 1] := by
                show SX.S [97 + (1 + (n : Int)).toNat] = SX.S [97 + (n + 1)]
                rw [show (1 + (n : Int)).toNat = n + 1 by omega]
              rw [e1, txt_cat, show min n (L - 1) = n by omega, filt_step (m2 := min (n + w) (L - 1)) hn (by omega) (by omega), List.map_append]
              rfl
            rw [← e, ← show 1 + (n : Int) + w = 1 + ((n + w : Nat) : Int) by omega]
            rfl
          · intro c
            have e : txt (((List.range (min n (L - 1))).filter fun i => i % w == d).map (· + 1)) = txt (ends L w d) := by
              rw [show min n (L - 1) = L - 1 by omega]; rfl
            rw [e]
            walk_at "go"
            refine iteNS' (fun z => absurd rfl z) (fun _ => ?_)
            walk_at "go"
            refine iteES (fun z => absurd (txt_inj (z.trans txt_nil.symm)) (ends_ne hd' (by omega))) (fun _ => ?_)
            have hz := ends_le L w d
            have hz2 : (txt (ends L w d)).length ≤ 26 := by
              rw [txt_len]
              omega
            walk_at "go"
            intro l1 hl1
            refine ⟨_, _, _, _, rfl, rfl, by walk_at "look", by walk_at "look", ?_, fun p3 hp3 => ?_⟩
            · rw [sz, List.length_map, List.length_map, List.length_map, chars_txt, List.length_map]
              have h1 := allEnds_len L w d
              omega
            · refine ⟨_, Trim.last (H0 := H1) (by walk_at "ex") (by walk_at "ex") (by walk_at "ex") hC1 rfl, p3, _, _, _, _, by walk_at "ex", ?_, rfl⟩
              rw [chars_txt, ← List.map_append, ← List.map_append]
              rfl
      · rintro σ' _ ⟨m, x6, x7, x8, x9, hm, rfl, rfl⟩
        walk_at "go"
        rw [Int.toNat_natCast]
        have hlen := allEnds_len L w w
        refine ⟨_, _, rfl, sqL_at, ?_, fun ys p hperm hsort hp => ?_⟩
        · rw [List.length_map]
          omega
        have hpw : ((List.range (L - 1)).map (· + 1)).Pairwise (· < ·) := List.Pairwise.map _ (fun _ _ h => by omega) List.pairwise_lt_range
        have hys : ys = ((List.range (L - 1)).map (· + 1)).map fun d => txt [d] := sorted_eq (hperm.trans ((allEnds_perm (L := L) (by omega)).map _)) hsort (singles_pw hpw)
        subst hys
        walk_at "go"
        rw [letters_from_b L hL1 (by omega)]
        walk_at "go"
        refine ⟨by rw [sz, txt_len, List.length_map, List.length_range]; omega, fun l3 hl3 => ?_⟩
        have hok : ∀ y ∈ (((List.range (L - 1)).map (· + 1)).map fun d => txt [d]), PyData.strOk y = true := fun y hy => by
          obtain ⟨d, hd, rfl⟩ := List.mem_map.mp hy
          obtain ⟨e, he, rfl⟩ := List.mem_map.mp hd
          have := List.mem_range.mp he
          exact strOk_txt (all1 (by omega) all0)
        rw [chars_txt]
        refine ⟨_, _, .lst (.inl (.inl (by walk_at "look"))) (dpAll_strs _), .lst (.inl (.inl upd_same)) (dpAll_strs _), (sh_strs hok).shaped, (sh_strs hok).shaped, ?_⟩
        rw [eqv_strs, decide_eq_true rfl]
        refine ⟨_, rfl, _, Trim.base (H0 := H1) (by walk_at "ex") (by walk_at "ex") hC1, ?_⟩
        exact iteF ⟨rfl, _, _, _, _, _, _, rfl⟩
    · rintro σ' ⟨x4, x5, x6, x7, x8, x9, rfl⟩
      exact ⟨_, Trim.back (by walk_at "ex") hC, rfl, _, _, _, _, _, _, _, _, rfl⟩
  · rintro σ' ⟨x2, x3, x4, x5, x6, x7, x8, x9, rfl⟩
    exact q _
end Sm
namespace Sm
open PySem PySem.Spec PyProof.Rows L2
def top (i : Nat) : Stmt := PySem.Challenge.pw_shelfmark_k03_ends.main.body.getD i (.Pass ⟨0, 0, 0, 0⟩)
abbrev s_ends_of : Stmt := top 2
theorem sc_ends_of : FnScope ["letters", "hands", "hand", "k"] ["letters", "hands", "hand"] (defScope s_ends_of) := ⟨rfl, rfl, rfl, by decide +kernel, rfl, by decide +kernel, by decide +kernel⟩
abbrev s_law_draw : Stmt := top 4
theorem sc_law_draw : FnScope ["script", "k", "many", "cell", "seed"] ["script", "k", "many"] (defScope s_law_draw) := ⟨rfl, rfl, rfl, by decide +kernel, rfl, by decide +kernel, by decide +kernel⟩
abbrev s_law : Stmt := top 5
theorem sc_law : FnScope ["script", "signs", "k", "letters", "hands", "met", "hand", "found", "due", "number"] ["script"] (defScope s_law) := ⟨rfl, rfl, rfl, by decide +kernel, rfl, by decide +kernel, by decide +kernel⟩
structure Tx (K : PySem.W.Frag) (mg : Str → Option Value) : Prop where
  n_len : mg "len" = none
  n_list : mg "list" = none
  n_range : mg "range" = none
  n_sorted : mg "sorted" = none
  g_LETTERS : ∃ t, mg "LETTERS" = some (.str "abcdefghijklmnopqrstuvwxyz" t)
section
variable {P : Program} {w : World} {K : PySem.W.Frag} {mg : Str → Option Value} {base : Heap}
theorem ok_ends_of {f : Addr} {fd : FuncData} (F : FunD K "ends_of" "ends_of" (defArgs s_ends_of) (defBody s_ends_of) (defScope s_ends_of) [] [] f fd) (T : Tx K mg) : FnOk P w K mg base (L2.CX P w) 1 f fd ["letters", "hands", "hand"] (sp_ends_of K) := by
  refine F.ok sc_ends_of len_ends_of (fun cdv A outer s H vs Q E hr h => ⟨t_ends_of K E, ?_, pure_ends_of vs H Q E h⟩)
  have nd := sc_ends_of.nd
  have hu := hu_of hr
  have htk : Takes (cxOf (L2.CX P w) P w K mg base ["letters", "hands", "hand", "k"] "ends_of" (defScope s_ends_of) f cdv A outer s H E) (fun c d _ H => E c d H) := takes_of rfl rfl rfl rfl
  have hpx : Passes (L2.CX P w) (cxOf (L2.CX P w) P w K mg base ["letters", "hands", "hand", "k"] "ends_of" (defScope s_ends_of) f cdv A outer s H E) E := passes_call htk fun _ _ _ _ z => z
  have hps : PassesOwn (model P w) (A.deeper (envOfC "ends_of" (defScope s_ends_of) s.heap.objs.size f cdv)) (envOfC "ends_of" (defScope s_ends_of) s.heap.objs.size f cdv) (cxOf (L2.CX P w) P w K mg base ["letters", "hands", "hand", "k"] "ends_of" (defScope s_ends_of) f cdv A outer s H E).xe := passes_of (X := cxOf (L2.CX P w) P w K mg base ["letters", "hands", "hand", "k"] "ends_of" (defScope s_ends_of) f cdv A outer s H E) rfl
  exact (pss_trim (pss_one (ps_ret (pe_trim (pe_bm PySem.F.plainAttrs_str PySem.F.slot_str_join PySem.F.type_str_join mt_join pe_str (pa_cons (pe_lc (own := [("k", 3)]) rfl nd (pi_range2 (by rfl) T.n_range (pa_cons pe_int (pa_cons (pv 0) pa_nil))) (blkOk_by (own := [("k", 3)]) (N := ["letters", "hands", "hand", "k"]) (sc := defScope s_ends_of) (by decide +kernel)) (fun _ _ _ _ _ => (pg_name (i := 3) nd rfl (by first | exact Or.inl rfl | exact Or.inr rfl))) (fun _ _ _ _ _ => (pts_one (pt_cmpR op_eq (pe_op op_mod (pe_op op_sub (pv 3) pe_int) (pv 1)) (pv 2) (nomark _)))) (fun _ _ _ _ _ => (pe_ix ix_str (pe_glob (by rfl) T.g_LETTERS.choose_spec ⟨_, rfl⟩) (pv 3) (fun _ _ => rfl)))) pa_nil))))))
theorem ok_law_draw {f : Addr} {fd : FuncData} (F : FunD K "_law_draw" "_law_draw" (defArgs s_law_draw) (defBody s_law_draw) (defScope s_law_draw) [] [] f fd) (T : Tx K mg) : FnOk P w K mg base (L2.CX P w) 1 f fd ["script", "k", "many"] (sp_law_draw K) := by
  refine F.ok sc_law_draw len_law_draw (fun cdv A outer s H vs Q E hr h => ⟨t_law_draw K E, ?_, pure_law_draw vs H Q E h⟩)
  have nd := sc_law_draw.nd
  have hu := hu_of hr
  have htk : Takes (cxOf (L2.CX P w) P w K mg base ["script", "k", "many", "cell", "seed"] "_law_draw" (defScope s_law_draw) f cdv A outer s H E) (fun c d _ H => E c d H) := takes_of rfl rfl rfl rfl
  have hpx : Passes (L2.CX P w) (cxOf (L2.CX P w) P w K mg base ["script", "k", "many", "cell", "seed"] "_law_draw" (defScope s_law_draw) f cdv A outer s H E) E := passes_call htk fun _ _ _ _ z => z
  have hps : PassesOwn (model P w) (A.deeper (envOfC "_law_draw" (defScope s_law_draw) s.heap.objs.size f cdv)) (envOfC "_law_draw" (defScope s_law_draw) s.heap.objs.size f cdv) (cxOf (L2.CX P w) P w K mg base ["script", "k", "many", "cell", "seed"] "_law_draw" (defScope s_law_draw) f cdv A outer s H E).xe := passes_of (X := cxOf (L2.CX P w) P w K mg base ["script", "k", "many", "cell", "seed"] "_law_draw" (defScope s_law_draw) f cdv A outer s H E) rfl
  exact (pss_meet (ps_set (i := 3) nd rfl (by first | exact Or.inl rfl | exact Or.inr rfl) (pe_ifExp (pt_cmpR op_gt (pe_callB call_len_seq (by rfl) T.n_len (by decide +kernel) (pa_cons (pv 0) pa_nil)) pe_int (nomark _)) (pe_ix ix_list (pv 0) (pe_op op_mod (pv 1) (pe_callB call_len_seq (by rfl) T.n_len (by decide +kernel) (pa_cons (pv 0) pa_nil))) (fun _ _ => rfl)) pe_int))
    (pss_meet (ps_if (PW.pt (pw_and (pt_cmpR op_gt (pe_callB call_len_seq (by rfl) T.n_len (by decide +kernel) (pa_cons (pv 0) pa_nil)) pe_int (nomark _)) (pw_and1 (pt_cmpR op_eq (pe_op op_mod (pe_ix ix_list (pv 0) pe_int (fun _ _ => rfl)) pe_int) pe_int (nomark _)))))
    (pss_one (ps_ret (pe_op op_mod (pe_op op_mod (pe_op op_shr (pv 3) (pe_op op_add (pe_op op_mulW pe_int (pe_op op_fdivW (pv 1) (pe_callB call_len_seq (by rfl) T.n_len (by decide +kernel) (pa_cons (pv 0) pa_nil)))) pe_int)) pe_int) (pv 2))))
    pss_nil)
    (pss_cons (ps_set (i := 4) nd rfl (by first | exact Or.inl rfl | exact Or.inr rfl) (pe_op op_add (pe_op op_add (pe_op op_mod (pv 3) pe_int) (pe_op op_mulW (pe_op op_mulW pe_int (pv 1)) (pv 1))) pe_int))
    (pss_one (ps_ret (pe_op op_mod (pe_op op_mod (pe_op op_mulW (pe_op op_mod (pe_op op_mulW (pv 4) pe_int) pe_int) pe_int) pe_int) (pv 2)))))))
theorem ok_law {f : Addr} {fd : FuncData} (F : FunD K "law" "law" (defArgs s_law) (defBody s_law) (defScope s_law) [] [] f fd) (T : Tx K mg) (G_law_draw : FnG P w K mg base (L2.CX P w) "_law_draw" ["script", "k", "many"] 1 (sp_law_draw K)) (G_ends_of : FnG P w K mg base (L2.CX P w) "ends_of" ["letters", "hands", "hand"] 1 (sp_ends_of K)) : FnOk P w K mg base (L2.CX P w) 2 f fd ["script"] (sp_law K) := by
  refine F.ok sc_law len_law (fun cdv A outer s H vs Q E hr h => ⟨t_law K E, ?_, pure_law vs H Q E h⟩)
  have nd := sc_law.nd
  have hu := hu_of hr
  have htk : Takes (cxOf (L2.CX P w) P w K mg base ["script", "signs", "k", "letters", "hands", "met", "hand", "found", "due", "number"] "law" (defScope s_law) f cdv A outer s H E) (fun c d _ H => E c d H) := takes_of rfl rfl rfl rfl
  have hpx : Passes (L2.CX P w) (cxOf (L2.CX P w) P w K mg base ["script", "signs", "k", "letters", "hands", "met", "hand", "found", "due", "number"] "law" (defScope s_law) f cdv A outer s H E) E := passes_call htk fun _ _ _ _ z => z
  have hps : PassesOwn (model P w) (A.deeper (envOfC "law" (defScope s_law) s.heap.objs.size f cdv)) (envOfC "law" (defScope s_law) s.heap.objs.size f cdv) (cxOf (L2.CX P w) P w K mg base ["script", "signs", "k", "letters", "hands", "met", "hand", "found", "due", "number"] "law" (defScope s_law) f cdv A outer s H E).xe := passes_of (X := cxOf (L2.CX P w) P w K mg base ["script", "signs", "k", "letters", "hands", "met", "hand", "found", "due", "number"] "law" (defScope s_law) f cdv A outer s H E) rfl
  exact (pss_cons (ps_set (i := 1) nd rfl (by first | exact Or.inl rfl | exact Or.inr rfl) pe_str)
    (pss_cons (ps_for hps rfl (pi_range1 (by rfl) T.n_range (pa_cons pe_int pa_nil)) (pg_name (i := 2) nd rfl (by first | exact Or.inl rfl | exact Or.inr rfl))
    (pss_cons (ps_set (i := 3) nd rfl (by first | exact Or.inl rfl | exact Or.inr rfl) (pe_trim (pe_ix ix_list (pe_lst (pa_cons pe_int (pa_cons pe_int (pa_cons pe_int (pa_cons pe_int (pa_cons pe_int (pa_cons (pe_op op_add pe_int (pe_G G_law_draw hr (by decide) rfl hpx (pa_cons (pv 0) (pa_cons (pe_op op_add pe_int (pv 2)) (pa_cons pe_int pa_nil))))) pa_nil))))))) (pe_G G_law_draw hr (by decide) rfl hpx (pa_cons (pv 0) (pa_cons (pv 2) (pa_cons pe_int pa_nil)))) (fun _ _ => rfl))))
    (pss_one (ps_trim (ps_for hps rfl (pi_list (pe_lst (pa_cons pe_int (pa_cons (pe_op op_sub (pv 3) pe_int) (pa_cons (pe_op op_add pe_int (pe_G G_law_draw hr (by decide) rfl hpx (pa_cons (pv 0) (pa_cons (pe_op op_add pe_int (pv 2)) (pa_cons (pe_op op_sub (pv 3) pe_int) pa_nil))))) pa_nil))))) (pg_name (i := 4) nd rfl (by first | exact Or.inl rfl | exact Or.inr rfl))
    (pss_cons (ps_set (i := 5) nd rfl (by first | exact Or.inl rfl | exact Or.inr rfl) (pe_lst pa_nil))
    (pss_cons (ps_for hps rfl (pi_range1 (by rfl) T.n_range (pa_cons (pv 4) pa_nil)) (pg_name (i := 6) nd rfl (by first | exact Or.inl rfl | exact Or.inr rfl))
    (pss_cons (ps_set (i := 7) nd rfl (by first | exact Or.inl rfl | exact Or.inr rfl) (pe_G G_ends_of hr (by decide) rfl hpx (pa_cons (pv 3) (pa_cons (pv 4) (pa_cons (pv 6) pa_nil)))))
    (pss_cons (ps_set (i := 8) nd rfl (by first | exact Or.inl rfl | exact Or.inr rfl) pe_str)
    (pss_cons (ps_set (i := 9) nd rfl (by first | exact Or.inl rfl | exact Or.inr rfl) (pe_op op_add pe_int (pv 6)))
    (pss_cons (ps_while hps (pt_cmpR op_lt (pv 9) (pv 3) (nomark _)) (pss_cons (ps_set (i := 8) nd rfl (by first | exact Or.inl rfl | exact Or.inr rfl) (pe_op op_add_str (pv 8) (pe_ix ix_str (pv 1) (pv 9) (fun _ _ => rfl))))
    (pss_one (ps_set (i := 9) nd rfl (by first | exact Or.inl rfl | exact Or.inr rfl) (pe_op op_add (pv 9) (pv 4))))))
    (pss_cons (ps_if (PW.pt (pw_or (pt_cmpR op_ne (pv 7) (pv 8) (nomark _)) (pw_or1 (pt_cmpR op_eq (pv 8) pe_str (nomark _)))))
    (pss_one (ps_ret pe_bl))
    pss_nil)
    (pss_one (ps_set (i := 5) nd rfl (by first | exact Or.inl rfl | exact Or.inr rfl) (pe_trim (pe_op op_cat (pv 5) (pe_callTy (call_listS rfl) (by rfl) T.n_list (by decide +kernel) (pa_cons (pv 7) pa_nil))))))))))))
    (pss_one (ps_if (pt_trim (pt_cmpR (op_neD hr.units) (pe_callB cr_sortedS (by rfl) T.n_sorted (by decide +kernel) (pa_cons (pv 5) pa_nil)) (pe_callTy (call_listS rfl) (by rfl) T.n_list (by decide +kernel) (pa_cons (pe_slice C8.sl_txt (pv 1) (po_some pe_int) (po_some (pv 3))) pa_nil)) (nomark _)))
    (pss_one (ps_ret pe_bl))
    pss_nil)))))))))
    (pss_one (ps_ret pe_bl))))
end
end Sm
namespace Sm
open PySem PySem.Spec PyProof.Rows L2
def d_ends_of : He.DefD := ⟨("ends_of", none), "ends_of", "ends_of", defArgs s_ends_of, defBody s_ends_of, defScope s_ends_of, [], []⟩
def d_law_draw : He.DefD := ⟨("_law_draw", none), "_law_draw", "_law_draw", defArgs s_law_draw, defBody s_law_draw, defScope s_law_draw, [], []⟩
def d_law : He.DefD := ⟨("law", none), "law", "law", defArgs s_law, defBody s_law, defScope s_law, [], []⟩
def fn : List He.DefD := [d_ends_of, d_law_draw, d_law]
def fa : List He.Fa := [.free "len", .free "list", .free "range", .free "sorted", .str "LETTERS" "abcdefghijklmnopqrstuvwxyz", .glo "ends_of", .glo "_law_draw", .glo "law"]
abbrev R : PySem.W.OpenRow := PySem.W.OpenLaw.row PySem.Challenge.rw_shelfmark_k03_ends
abbrev hk : PySem.W.Hook := He.hookD 4 fa fn
def ob (s : PySem.W.SharedT) : He.AlD := He.obsDG 4 fa fn (HandSHeadRun.getT s)
theorem ob_eq (s : PySem.W.SharedT) : ob s = hk.obs s.abs := He.obsDG_eq (HandSHeadRun.getT_eq s)
theorem run (w : World) : HandSHeadRun.RunEq R (PySem.W.view R.prog [5]) hk ob 4705 ["LETTERS", "ends_of", "_law_draw"] w := by
  intro os
  kernel_rfl
theorem tx {w : World} {K : PySem.W.Frag} {h : Heap} {mg : Str → Option Value} (X : K.In h) (G : h.Ns mainGlobals mg) (c : He.SaysD fa fn K) : Tx K mg where
  n_len := He.free_ok X G (c.fact 0 rfl)
  n_list := He.free_ok X G (c.fact 1 rfl)
  n_range := He.free_ok X G (c.fact 2 rfl)
  n_sorted := He.free_ok X G (c.fact 3 rfl)
  g_LETTERS := He.str_ok X G (c.fact 4 rfl)
theorem facts {P : Program} {w : World} {K : PySem.W.Frag} {h : Heap} {mg : Str → Option Value} {f : Addr} (X : K.In h) (G : h.Ns mainGlobals mg) (hfa : mg ("law" : Str) = some (.ref f)) (c : He.SaysD fa fn K) :
    ∃ fd : FuncData, (∀ (s : Shared) (v : Value), BindsTo s fd ⟨[v], []⟩ [("script", v)]) ∧ ∀ base : Heap, K.In base → base.Ns mainGlobals mg → FnOk P w K mg base (L2.CX P w) 2 f fd ["script"] (sp_law K) := by
  have T : Tx K mg := tx (w := w) X G c
  obtain ⟨fd_ends_of, F_ends_of⟩ := c.def_ 0 (d := d_ends_of) rfl
  obtain ⟨fd_law_draw, F_law_draw⟩ := c.def_ 1 (d := d_law_draw) rfl
  obtain ⟨fd_law, F_law⟩ := c.def_ 2 (d := d_law) rfl
  have e := hfa.symm.trans (He.glo_ok X G (c.fact 7 (f := .glo "law") rfl))
  cases e
  have b := FunD.bindsA (ps := ["script"]) F_law fun _ _ _ _ _ _ us hl => match us, hl with | [_], _ => rfl
  refine ⟨fd_law, fun s v => b s [v] rfl, fun base _ _ => ?_⟩
  have G_ends_of : FnG P w K mg base (L2.CX P w) "ends_of" ["letters", "hands", "hand"] 1 (sp_ends_of K) := ⟨⟨_, fd_ends_of, He.glo_ok X G (c.fact 5 (f := .glo "ends_of") rfl), F_ends_of.kp, F_ends_of.bindsN (fun _ _ _ _ _ _ us hl => match us, hl with | [_, _, _], _ => rfl), ok_ends_of F_ends_of T ⟩⟩
  have G_law_draw : FnG P w K mg base (L2.CX P w) "_law_draw" ["script", "k", "many"] 1 (sp_law_draw K) := ⟨⟨_, fd_law_draw, He.glo_ok X G (c.fact 6 (f := .glo "_law_draw") rfl), F_law_draw.kp, F_law_draw.bindsN (fun _ _ _ _ _ _ us hl => match us, hl with | [_, _, _], _ => rfl), ok_law_draw F_law_draw T ⟩⟩
  exact ok_law F_law T G_law_draw G_ends_of
end Sm
open PySem PySem.W PySem.Calls PyProof.Rows
set_option maxRecDepth 100000 in
set_option maxHeartbeats 0 in
theorem PySem.Challenge.cw_shelfmark_k03_ends_holds : PySem.Challenge.rw_shelfmark_k03_ends.Holds := by
  w_on; o_law
  refine HandSHeadRun.head_any (r := OpenLaw.row PySem.Challenge.rw_shelfmark_k03_ends) (q := view (OpenLaw.row PySem.Challenge.rw_shelfmark_k03_ends).prog [5]) (H := Sm.hk) (ob := Sm.ob) (M := 4705) (loose := ["LETTERS", "ends_of", "_law_draw"]) (d := HandSHeadRun.topDef (OpenLaw.row PySem.Challenge.rw_shelfmark_k03_ends).prog 5) (kwd := []) Sm.ob_eq
    (by kernel_rfl) (fun s => by kernel_rfl) Sm.run (by kernel_rfl) (by kernel_rfl) (by kernel_rfl) (by rfl) (by first | assumption | decide +kernel) (by decide +kernel) ⟨rfl, rfl, rfl, rfl, rfl, by decide +kernel⟩ ?hw ?hc
  case hw => w_witness2
  case hc =>
    refine Sm.walk_ofW (l := PySem.Challenge.rw_shelfmark_k03_ends) (n := 63) (k := 2) (x := "script") (CX := fun w => L2.CX (PySem.Challenge.rw_shelfmark_k03_ends).prog w) rfl (by decide) (by kernel_rfl) ⟨rfl, by decide, by decide⟩ ?F (fun _ _ _ _ _ z => Sm.cx_none z)
    case F =>
      intro w mg fa h Y G hmg0
      obtain ⟨K, KX, c⟩ := Y
      have hmg : mg ("law" : PySem.Str) = some (.ref fa) := by
        have e : (HandSHeadRun.topDef (OpenLaw.row PySem.Challenge.rw_shelfmark_k03_ends).prog 5).name = ("law" : PySem.Str) := by kernel_rfl
        rw [← e]
        exact hmg0
      obtain ⟨fd, hb, hF⟩ := Sm.facts (P := (PySem.Challenge.rw_shelfmark_k03_ends).prog) (w := w) KX G hmg c
      exact ⟨K, fd, Sm.sp_law K, KX, hb, fun H a ns hl hO hS => Sm.law_in hO hS hl, hF⟩
