import PyProof.Rows.All
import Wide.All
import OpenK.AllK
import Wide.FinOn
import HandS.ForMost
import HandS.ForExc
import HandS.Wide
import HandS.StrMore
import HandS.SortInts
import HandS.CallSlots
import HandS.Defaults
import HandS.HeadHook1
import HandS.Walk
import HandS.Codes
import HandS.IsInst
import HandS.Head0
import HandS.Head1
import HandS.Head2
import HandS.HeadEnd
import HandS.HeadHook2
import PySem.Challenge.RW_shelfmark_k35_growth_told
set_option Elab.async false
set_option linter.all false
set_option maxRecDepth 100000
set_option maxHeartbeats 8000000
/-! SmBase: forgetting new objects (Trim), calls by promises (FnG), steps. -/
namespace Sm
open PySem PySem.Spec PyProof.Rows L2

/-! ### forgetting what is new -/
def okO (H : Hp) (a : Addr) : HO → Prop
  | .dT _ => False
  | .ins _ dx _ => H dx = some (.own a)
  | .frz _ u => okO H a u
  | _ => True
/-- each tracked instance's own dict is tracked, no dict with tuple keys -/
def Clo (H : Hp) : Prop := ∀ a o, H a = some o → okO H a o
structure Trim (H H1 H2 : Hp) : Prop where
  sub : ∀ a o, H2 a = some o → H1 a = some o
  tup : ∀ a xs, H a = some (.tup xs) → H2 a = some (.tup xs)
  frz : ∀ a o u, H a = some (.frz o u) → H2 a = some (.frz o u)
  tbl : ∀ a ps, H a = some (.tbl ps) → ∃ more, H2 a = some (.tbl (ps ++ more))
  clo : Clo H2
def Ex (H H' : Hp) : Prop := ∀ a o, H a = some o → H' a = some o
theorem Ex.refl (H : Hp) : Ex H H := fun _ _ h => h
theorem Ex.trans {H H1 H2 : Hp} (a : Ex H H1) (b : Ex H1 H2) : Ex H H2 := fun x o h => b x o (a x o h)
theorem Ex.new {H H' : Hp} {p : Addr} {o : HO} (e : Ex H H') (h : H p = none) : Ex H (upd H' p o) := fun a u ha => by
  rw [upd_ne (ne_of_none ha h)]
  exact e a u ha
theorem Ex.back {H H' : Hp} {p : Addr} (e : Ex H H') (h : H' p = none) : H p = none := by
  cases q : H p with
  | none => rfl
  | some o =>
    rw [e p o q] at h
    cases h
theorem Trim.back {H H' : Hp} (e : Ex H H') (c : Clo H) : Trim H H' H :=
  ⟨e, fun _ _ h => h, fun _ _ _ h => h, fun _ ps h => ⟨#[], by rw [h, Array.append_empty]⟩, c⟩
/-- one new object stays -/
theorem Trim.keep {H H' : Hp} {p : Addr} {o : HO} (e : Ex H H') (hp : H p = none) (h : H' p = some o) (c : Clo H) (ho : okO (upd H p o) p o) : Trim H H' (upd H p o) := by
  refine ⟨fun a u q => ?_, fun a xs q => ?_, fun a ob u q => ?_, fun a ps q => ⟨#[], ?_⟩, fun a u q => ?_⟩
  · by_cases ha : a = p
    · rw [ha, upd_same] at q; cases q; rw [ha]; exact h
    · rw [upd_ne ha] at q; exact e a u q
  · rw [upd_ne (ne_of_none q hp)]; exact q
  · rw [upd_ne (ne_of_none q hp)]; exact q
  · rw [upd_ne (ne_of_none q hp), q, Array.append_empty]
  · by_cases ha : a = p
    · rw [ha, upd_same] at q; cases q; rw [ha]; exact ho
    · rw [upd_ne ha] at q
      have z := c a u q
      clear q ha
      induction u with
      | dT _ => exact z
      | ins C dx fs =>
        have z' : H dx = some (.own a) := z
        show upd H p o dx = some (.own a)
        rw [upd_ne (ne_of_none z' hp)]; exact z'
      | frz ob v ih => exact ih z
      | _ => trivial
theorem okO_objOk {P : Program} {w : World} {H H1 : Hp} {h : Heap} {a : Addr} : ∀ {o : HO}, okO H a o → ObjOk P w H1 h a o → ObjOk P w H h a o := by
  intro o
  induction o with
  | ins C dx fs =>
    intro z x
    obtain ⟨_, x2, x3, x4, x5⟩ := x
    exact ⟨z, x2, x3, x4, x5⟩
  | dT _ => intro z; exact False.elim z
  | frz ob u ih =>
    intro z x
    obtain ⟨e, q⟩ := x
    exact ⟨e, ih z q⟩
  | _ => intro _ x; exact x
theorem hok_trim {P : Program} {w : World} {H H1 H2 : Hp} {h : Heap} (t : Trim H H1 H2) (x : HOk P w H1 h) : HOk P w H2 h := fun a o e => okO_objOk (t.clo a o e) (x a o (t.sub a o e))
theorem Trim.gone {H H1 H2 : Hp} (t : Trim H H1 H2) {a : Addr} (h : H1 a = none) : H2 a = none := by
  cases q : H2 a with
  | none => rfl
  | some o =>
    rw [t.sub a o q] at h
    cases h
section
variable {X : Cx} {pins : List (Addr × Obj)} {σ σ0 : L2.St} {H H1 H2 : Hp} {s s0 : Shared}
theorem inv_trim (I0 : Inv X pins σ0 H s0) (I : Inv X pins σ H1 s) (t : Trim H H1 H2) : Inv X pins σ H2 s where
  ok := I.ok
  os := I.os
  bare := I.bare
  base := ⟨fun b o e n hb hx => I.base.keep b o e n hb hx, fun b o e n hb hx => I.base.slot b o e n hb hx, fun b o e n hx => t.gone (I.base.free b o e n hx), I.base.there,
    fun b xs e => t.tup b xs (I0.base.tups b xs e), fun b o u e => t.frz b o u (I0.base.frzs b o u e), fun b ps e => by
      obtain ⟨m1, e1⟩ := I0.base.tbls b ps e
      obtain ⟨m2, e2⟩ := t.tbl b _ e1
      exact ⟨m1 ++ m2, by rw [e2, Array.append_assoc]⟩⟩
  loc := I.loc
  cell := I.cell
  free := t.gone I.free
  freeC := fun x c e => t.gone (I.freeC x c e)
  pin := fun p hp => by
    obtain ⟨a, b, c⟩ := I.pin p hp
    exact ⟨a, t.gone b, c⟩
  hok := hok_trim t I.hok
  len := I.len
/-- a statement behind which new objects may be forgotten -/
def tTrim (t : TS) : TS := fun D σ H => t ⟨fun σ1 H1 => ∃ H2, Trim H H1 H2 ∧ D.nx σ1 H2, fun v H1 => ∃ H2, Trim H H1 H2 ∧ D.rt v H2, fun σ1 H1 => ∃ H2, Trim H H1 H2 ∧ D.bk σ1 H2, fun σ1 H1 => ∃ H2, Trim H H1 H2 ∧ D.ct σ1 H2⟩ σ H
theorem ps_trim {st : Stmt} {t : TS} (h : PS X st t) : PS X st (tTrim t) := ⟨fun pins s σ H D I q => by
  refine thn (h.run pins s σ H _ I q) fun f s' z => ?_
  cases f with
  | next =>
    obtain ⟨σ', H', I', H2, tr, d⟩ := z
    exact ⟨σ', H2, inv_trim I I' tr, d⟩
  | brk =>
    obtain ⟨σ', H', I', H2, tr, d⟩ := z
    exact ⟨σ', H2, inv_trim I I' tr, d⟩
  | cont =>
    obtain ⟨σ', H', I', H2, tr, d⟩ := z
    exact ⟨σ', H2, inv_trim I I' tr, d⟩
  | ret u =>
    obtain ⟨v, σ', H', I', r, H2, tr, d⟩ := z
    exact ⟨v, σ', H2, inv_trim I I' tr, r, d⟩⟩
def tTrimE (t : TE) : TE := fun σ H Q => t σ H fun v H1 => ∃ H2, Trim H H1 H2 ∧ Q v H2
theorem pe_trim {e : Expr} {t : TE} (h : PE X e t) : PE X e (tTrimE t) := ⟨fun pins s σ H Q I q => by
  refine thn (h.run pins s σ H _ I q) fun f s' z => ?_
  obtain ⟨v, H', I', r, H2, tr, d⟩ := z
  exact ⟨v, H2, inv_trim I I' tr, r, d⟩⟩
end

/-- what a state's tuples, locked things stay in -/
structure Rst (H0 H : Hp) : Prop where
  ex : ∀ a o, H0 a = some o → H a = some o
  tup : ∀ a xs, H a = some (.tup xs) → H0 a = some (.tup xs)
  frz : ∀ a o u, H a = some (.frz o u) → H0 a = some (.frz o u)
  tbl : ∀ a ps, H a = some (.tbl ps) → H0 a = some (.tbl ps)
def softO : HO → Bool
  | .tup _ => false
  | .frz _ _ => false
  | .tbl _ => false
  | _ => true
theorem Rst.refl (H : Hp) : Rst H H := ⟨fun _ _ h => h, fun _ _ h => h, fun _ _ _ h => h, fun _ _ h => h⟩
theorem Rst.new {H0 H : Hp} {p : Addr} {o : HO} (r : Rst H0 H) (h : H0 p = none) (s : softO o = true) : Rst H0 (upd H p o) := by
  refine ⟨fun a u q => ?_, fun a xs q => ?_, fun a ob u q => ?_, fun a ps q => ?_⟩
  · rw [upd_ne (ne_of_none q h)]; exact r.ex a u q
  · by_cases ha : a = p
    · rw [ha, upd_same] at q; cases q; cases s
    · rw [upd_ne ha] at q; exact r.tup a xs q
  · by_cases ha : a = p
    · rw [ha, upd_same] at q; cases q; cases s
    · rw [upd_ne ha] at q; exact r.frz a ob u q
  · by_cases ha : a = p
    · rw [ha, upd_same] at q; cases q; cases s
    · rw [upd_ne ha] at q; exact r.tbl a ps q
theorem Trim.to {H0 H H1 H2 : Hp} (r : Rst H0 H) (e : Ex H0 H2) (s : Ex H2 H1) (c : Clo H2) : Trim H H1 H2 :=
  ⟨s, fun a xs h => e a _ (r.tup a xs h), fun a o u h => e a _ (r.frz a o u h), fun a ps h => ⟨#[], by rw [e a _ (r.tbl a ps h), Array.append_empty]⟩, c⟩
theorem Trim.refl {H : Hp} (c : Clo H) : Trim H H H := Trim.to (Rst.refl H) (Ex.refl H) (Ex.refl H) c
/-- nothing that is tracked is a hard one -/
theorem clo_upd {H : Hp} {p : Addr} {o : HO} (c : Clo H) (hp : H p = none) (ho : okO (upd H p o) p o) : Clo (upd H p o) := (Trim.keep (H' := upd H p o) (Ex.new (Ex.refl H) hp) hp upd_same c ho).clo
/-- a thing at p that owns nothing is replaced -/
def plainO : HO → Bool
  | .lst _ => true
  | .tup _ => true
  | .dK _ => true
  | .set _ _ => true
  | .xd _ => true
  | .rng _ _ => true
  | .ext _ => true
  | _ => false
theorem okO_plain {H : Hp} {p : Addr} {o : HO} (h : plainO o = true) : okO H p o := by
  cases o with
  | dT _ => cases h
  | ins _ _ _ => cases h
  | frz _ _ => cases h
  | _ => trivial
theorem clo_new {H : Hp} {p : Addr} {o : HO} (c : Clo H) (hp : H p = none) (ho : plainO o = true) : Clo (upd H p o) := clo_upd c hp (okO_plain ho)
theorem okO_upd {H : Hp} {p a : Addr} {o : HO} (np : ∀ x, H p ≠ some (.own x)) : ∀ {u : HO}, okO H a u → okO (upd H p o) a u := by
  intro u
  induction u with
  | dT _ => intro z; exact z
  | ins C dx fs =>
    intro z
    have z' : H dx = some (.own a) := z
    show upd H p o dx = some (.own a)
    rw [upd_ne (fun e => np a (by rw [← e]; exact z'))]
    exact z'
  | frz ob v ih => intro z; exact ih z
  | _ => intro _; trivial
theorem clo_set {H : Hp} {p : Addr} {o : HO} (c : Clo H) (np : ∀ x, H p ≠ some (.own x)) (ho : plainO o = true) : Clo (upd H p o) := fun a u q => by
  by_cases ha : a = p
  · rw [ha, upd_same] at q; cases q; rw [ha]; exact okO_plain ho
  · rw [upd_ne ha] at q
    exact okO_upd np (c a u q)
theorem Ex.both {H H' : Hp} {p : Addr} {o : HO} (e : Ex H H') : Ex (upd H p o) (upd H' p o) := fun a u h => by
  by_cases ha : a = p
  · rw [ha, upd_same] at h ⊢; exact h
  · rw [upd_ne ha] at h ⊢; exact e a u h
theorem ne_fresh {H : Hp} {a b : Addr} (h : H a ≠ none) (h' : H b = none) : a ≠ b := fun e => h (by rw [e]; exact h')
theorem tr_some {H : Hp} {a : Addr} {o : HO} (h : H a = some o) : H a ≠ none := by rw [h]; exact fun z => nomatch z
theorem tr_same {H : Hp} {a : Addr} {o : HO} : upd H a o a ≠ none := tr_some upd_same
theorem tr_upd {H : Hp} {a b : Addr} {o : HO} (h : H b ≠ none) : upd H a o b ≠ none := by
  by_cases e : b = a
  · rw [e]; exact tr_same
  · rw [upd_ne e]; exact h
/-- all but the last new thing forgotten -/
theorem Trim.last {H0 H H' : Hp} {p : Addr} {o : HO} (r : Rst H0 H) (e : Ex H0 H') (hp : H0 p = none) (c : Clo H0) (ho : plainO o = true) : Trim H (upd H' p o) (upd H0 p o) :=
  Trim.to r (Ex.new (Ex.refl _) hp) (Ex.both e) (clo_new c hp ho)
theorem Trim.base {H0 H H' : Hp} (r : Rst H0 H) (e : Ex H0 H') (c : Clo H0) : Trim H H' H0 := Trim.to r (Ex.refl _) e c
theorem clo_only {H : Hp} (h : Only H) : Clo H := fun a o e => by
  rcases h a with z | ⟨ob, xs, z⟩
  · rw [z] at e; cases e
  · rw [z] at e; cases e; trivial

/-! ### own defs by name -/
structure FnG (P : Program) (w : World) (K : PySem.W.Frag) (mg : Str → Option Value) (base : Heap) (CX : CXT) (x : Str) (ps : List Str) (k : Nat) (sp : Sp) : Prop where
  ex : ∃ f fd, mg x = some (.ref f) ∧ PySem.W.keepIn K (.ref f) = true ∧ Binds K fd ps [] ∧ FnOk P w K mg base CX k f fd ps sp
section
variable {X : Cx} {CX : CXT} {j k : Nat} {ps : List Str} {sp : Sp} {x : Str} {p pos : Pos} {e : Expr} {es : List Expr} {t : TA} {E : XK}
theorem pe_G (G : FnG X.prog X.w X.K X.mg X.base CX x ps k sp) (hr : Room j X.A) (hjk : k ≤ j) (hg : Gl X x) (hx : Passes CX X E) (ha : PA X (e :: es) t)
    (hdb : (x == ("__debug__" : Str)) = false := by decide) (he : starEach (e :: es) X.env = (false, eval e X.env) :: starEach es X.env := by rfl) (hpl : (backTo pos (starEach es X.env)).any (·.1) = false := by rfl) :
    PE X (.Call (.Name x p) (e :: es) [] pos) (tCall sp [] E t) := by
  obtain ⟨f, fd, hm, hk, hb, F⟩ := G.ex
  exact pe_call F (hr.mono hjk) hg hm hk hb .nil hx ha hdb he hpl
theorem pe_G0 (G : FnG X.prog X.w X.K X.mg X.base CX x ps k sp) (hr : Room j X.A) (hjk : k ≤ j) (hg : Gl X x) (hx : Passes CX X E) (hdb : (x == ("__debug__" : Str)) = false := by decide) :
    PE X (.Call (.Name x p) [] [] pos) (tCall sp [] E tNil) := by
  obtain ⟨f, fd, hm, hk, hb, F⟩ := G.ex
  exact pe_call0 F (hr.mono hjk) hg hm hk hb .nil hx hdb
end

/-! ### blocks, tests that forget -/
section
variable {X : Cx}
theorem pss_trim {st : List Stmt} {t : TS} (h : PSs X st t) : PSs X st (tTrim t) := ⟨fun pins s σ H D I q => by
  refine thn (h.run pins s σ H _ I q) fun f s' z => ?_
  cases f with
  | next =>
    obtain ⟨σ', H', I', H2, tr, d⟩ := z
    exact ⟨σ', H2, inv_trim I I' tr, d⟩
  | brk =>
    obtain ⟨σ', H', I', H2, tr, d⟩ := z
    exact ⟨σ', H2, inv_trim I I' tr, d⟩
  | cont =>
    obtain ⟨σ', H', I', H2, tr, d⟩ := z
    exact ⟨σ', H2, inv_trim I I' tr, d⟩
  | ret u =>
    obtain ⟨v, σ', H', I', r, H2, tr, d⟩ := z
    exact ⟨v, σ', H2, inv_trim I I' tr, r, d⟩⟩
def tTrimT (t : TT) : TT := fun σ H Q => t σ H fun b H1 => ∃ H2, Trim H H1 H2 ∧ Q b H2
theorem pt_trim {e : Expr} {t : TT} (h : PT X e t) : PT X e (tTrimT t) := ⟨fun pins s σ H Q I q => by
  refine thn (h.run pins s σ H _ I q) fun b s' z => ?_
  obtain ⟨H', I', H2, tr, d⟩ := z
  exact ⟨H2, inv_trim I I' tr, d⟩⟩
theorem pe_GS {k j : Nat} {ps : List Str} {sp : Sp} {x : Str} {p pos : Pos} {e : Expr} {es : List Expr} {t : TA} {E : L2.St → XK} (G : FnG X.prog X.w X.K X.mg X.base (L2.CX X.prog X.w) x ps k sp) (hr : Room j X.A) (hjk : k ≤ j) (hg : Gl X x) (hx : ∀ σ, PassesAt (L2.CX X.prog X.w) X σ (E σ)) (ha : PA X (e :: es) t)
    (hdb : (x == ("__debug__" : Str)) = false := by decide) (he : starEach (e :: es) X.env = (false, eval e X.env) :: starEach es X.env := by rfl) (hpl : (backTo pos (starEach es X.env)).any (·.1) = false := by rfl) :
    PE X (.Call (.Name x p) (e :: es) [] pos) (tCallSD sp [] E t) := by
  obtain ⟨f, fd, hm, hk, hb, F⟩ := G.ex
  exact pe_callSD F (hr.mono hjk) hg hm hk hb .nil hx ha hdb he hpl
end
/-- a meeting of ways: Mid holds behind the first statement -/
def tMeet (t u : TS) : TS := fun D σ H => ∃ Mid : L2.St → Hp → Prop, t { D with nx := Mid } σ H ∧ ∀ σ1 H1, Mid σ1 H1 → u D σ1 H1
theorem pss_meet {X : Cx} {st : Stmt} {rest : List Stmt} {t u : TS} (h1 : PS X st t) (h2 : PSs X rest u) : PSs X (st :: rest) (tMeet t u) := ⟨fun pins s σ H D I h => by
  obtain ⟨Mid, a, b⟩ := h
  refine wpAny_execs_cons (thn (h1.run pins s σ H _ I a) fun f s1 hf => ?_)
  cases f with
  | next =>
    obtain ⟨σ1, H1, I1, q⟩ := hf
    exact h2.run pins s1 σ1 H1 D I1 (b σ1 H1 q)
  | brk => exact hf
  | cont => exact hf
  | ret v => exact hf⟩
/-! ### readings by name -/
abbrev rAddI : R2 := rI0 fun i j => .int (i + j)
abbrev rSubI : R2 := rI0 fun i j => .int (i - j)
abbrev rMulW : R2 := rI CMulW fun i j => .int (i * j)
abbrev rDivW : R2 := rI CDivW fun i j => .int (i / j)
abbrev rModI : R2 := rI (fun _ j => 0 < j) fun i j => .int (i % j)
abbrev rPowI : R2 := rI CPow fun i j => .int (i ^ j.toNat)
abbrev rShrI : R2 := rI (fun _ j => 0 ≤ j) fun i j => .int (i / 2 ^ j.toNat)
abbrev rLtI : R2 := rI0 fun i j => .bl (decide (i < j))
abbrev rLeI : R2 := rI0 fun i j => .bl (decide (i ≤ j))
abbrev rGtI : R2 := rI0 fun i j => .bl (decide (j < i))
abbrev rGeI : R2 := rI0 fun i j => .bl (decide (j ≤ i))
abbrev rLtS : R2 := fun x y H Q => ∃ i j, x = .str i ∧ y = .str j ∧ Q (.bl (decide (i.cps.toList < j.cps.toList))) H
abbrev rLeS : R2 := fun x y H Q => ∃ i j, x = .str i ∧ y = .str j ∧ Q (.bl (!decide (j.cps.toList < i.cps.toList))) H
abbrev rGtS : R2 := fun x y H Q => ∃ i j, x = .str i ∧ y = .str j ∧ Q (.bl (decide (j.cps.toList < i.cps.toList))) H
abbrev rGeS : R2 := fun x y H Q => ∃ i j, x = .str i ∧ y = .str j ∧ Q (.bl (!decide (i.cps.toList < j.cps.toList))) H
abbrev rAddS1 : R2 := fun x y H Q => ∃ i j, x = .str i ∧ y = .str j ∧ i.length + j.length ≤ sizeLine ∧ Q (.str (i ++ j)) H
abbrev rInC : R2 := fun x y H Q => ∃ (c : Nat) (z : Str), x = .str ⟨#[c]⟩ ∧ y = .str z ∧ Q (.bl (decide (c ∈ z.cps.toList))) H
abbrev rNotInC : R2 := fun x y H Q => ∃ (c : Nat) (z : Str), x = .str ⟨#[c]⟩ ∧ y = .str z ∧ Q (.bl (!decide (c ∈ z.cps.toList))) H
abbrev rNotN : R2 := fun x y H Q => y = .non ∧ Q (.bl (!decide (x = .non))) H
abbrev rIsN : R2 := fun x y H Q => y = .non ∧ Q (.bl (decide (x = .non))) H
abbrev rNegI : V → Hp → VK → Prop := rU fun i => .int (-i)
abbrev rLenQ (K : PySem.W.Frag) : List V → Hp → VK → Prop := fun xs H Q => ∃ p ys, xs = [.ref p] ∧ (SqL K H p ys ∨ SqT K H p ys) ∧ Q (.int ys.length) H
abbrev rLenS1 : List V → Hp → VK → Prop := fun xs H Q => ∃ z, xs = [.str z] ∧ z.length ≤ sizeLine ∧ Q (.int z.length) H
abbrev rListQ (K : PySem.W.Frag) : List V → Hp → VK → Prop := fun xs H Q => ∃ p ys, xs = [.ref p] ∧ (SqL K H p ys ∨ SqT K H p ys) ∧ ∀ l, H l = none → Q (.ref l) (upd H l (.lst ys))
abbrev rDivmod : List V → Hp → VK → Prop := fun xs H Q => ∃ i j, xs = [.int i, .int j] ∧ CDiv i j ∧ ∀ p, H p = none → Q (.ref p) (upd H p (.tup [.int (i / j), .int (i % j)]))
abbrev rMin2 : List V → Hp → VK → Prop := fun xs H Q => ∃ i j, xs = [.int i, .int j] ∧ Q (.int (if j < i then j else i)) H
abbrev rMax2 : List V → Hp → VK → Prop := fun xs H Q => ∃ i j, xs = [.int i, .int j] ∧ Q (.int (if j > i then j else i)) H
abbrev rInt1 : List V → Hp → VK → Prop := fun xs H Q => (∃ i, xs = [.int i] ∧ Q (.int i) H) ∨ ∃ k, xs = [.bl k] ∧ Q (.int (if k then 1 else 0)) H
abbrev rJoin (K : PySem.W.Frag) : V → List V → Hp → VK → Prop := fun x xs H Q => ∃ a p, ∃ ys : List Str, x = .str a ∧ xs = [.ref p] ∧ (SqL K H p (ys.map V.str) ∨ SqT K H p (ys.map V.str)) ∧ (ys.map (·.length)).sum + ys.length * a.length ≤ 16777216 ∧ Q (.str (Txt.join a ys)) H
abbrev rSlX : V → Option Int → Option Int → Hp → VK → Prop := fun x lo hi H Q => ∃ z, x = .str z ∧ z.length ≤ sizeLine ∧ Q (.str (Txt.slice z lo hi)) H
abbrev rRstrip : V → List V → Hp → VK → Prop := fun x xs H Q => ∃ a b, x = .str a ∧ xs = [.str b] ∧ a.length ≤ sizeLine ∧ Q (.str (Txt.rstripChars a b)) H
abbrev tTru (K : PySem.W.Frag) (ta : TE) : TT := fun σ H Q => ta σ H fun x H' => ∃ k, TruV K x H' k ∧ Q k H'
def tTry (K : PySem.W.Frag) (c : Value) (ts : Addr → Value → Option Addr → TS) (Wout : WX) (tb : WX → TS) : TS := fun D σ H => tb (wOnly K c ts Wout D) D σ H
def tTryAs (K : PySem.W.Frag) (c : Value) (i : Nat) (ts : Addr → Value → Option Addr → TS) (Wout : WX) (tb : WX → TS) : TS := fun D σ H => tb (wAs K c i ts Wout D) D σ H
def tRaiseO (K : PySem.W.Frag) (x : Str) (W : WX) : TS := fun _ σ H => W (.ref (He.ga K x)) none σ H
section
variable {X : Cx} {x n : Str} {c : Value} {i : Nat} {body suite : List Stmt} {b₀ : Stmt} {np pos pos' : Pos} {tb : WX → TS} {ts : Addr → Value → Option Addr → TS} {Wout : WX}
theorem ps_try1 (hs : X.stack = X.env :: X.outer) (hf : X.env.frame = some X.env.locals) (hc : Names X x c) (tk : Takes X Wout)
    (hb : ∀ (W : WX) (pn : List (Addr × Obj)) (xe : Value → Shared → Prop), Takes (X.tr pn xe) W → PassesOwn (model X.prog X.w) X.A X.env xe → PSs (X.tr pn xe) body (tb W))
    (hsu : ∀ (a : Addr) (oe : Obj) (cls : Value) (d : Option Addr) (pn : List (Addr × Obj)), Zc cls d oe → (∃ vs, oe.data = .fields vs) → PSs (X.suite a ((a, oe) :: pn)) (b₀ :: suite) (ts a cls d)) :
    PS X (.Try body [.ExceptHandler (some (.Name x np)) none (b₀ :: suite) pos'] [] [] pos) (tTry X.K c ts Wout tb) := ps_try_only hs hf hc tk hb hsu
theorem ps_try1As (hs : X.stack = X.env :: X.outer) (hf : X.env.frame = some X.env.locals) (hN : X.N.Nodup) (hi : X.N[i]? = some n) (hln : X.env.kindOf n = some .local) (hc : Names X x c) (tk : Takes X Wout)
    (hb : ∀ (W : WX) (pn : List (Addr × Obj)) (xe : Value → Shared → Prop), Takes (X.tr pn xe) W → PassesOwn (model X.prog X.w) X.A X.env xe → PSs (X.tr pn xe) body (tb W))
    (hsu : ∀ (a : Addr) (oe : Obj) (cls : Value) (d : Option Addr) (pn : List (Addr × Obj)), Zc cls d oe → (∃ vs, oe.data = .fields vs) → PSs (X.suite a ((a, oe) :: pn)) (b₀ :: suite) (ts a cls d)) :
    PS X (.Try body [.ExceptHandler (some (.Name x np)) (some n) (b₀ :: suite) pos'] [] [] pos) (tTryAs X.K c i ts Wout tb) := ps_try_as hs hf hN hi hln hc tk hb hsu
end
/-! ### own rules -/
def chars (z : Str) : List Str := z.cps.toList.map fun c => ⟨#[c]⟩
abbrev rListS : List V → Hp → VK → Prop := fun xs H Q => ∃ z, xs = [.str z] ∧ z.length ≤ sizeLine ∧ ∀ l, H l = none → Q (.ref l) (upd H l (.lst ((chars z).map V.str)))
section
variable {X : Cx}
theorem Room.units65 {k : Nat} {A : Around} (r : Room k A) : A.units + 65 < cLine := by have := r.un; omega
/-- s.index(c), found -/
def rIndexS : L2.St → V → List V → Hp → VK → Prop := fun _ x xs H Q => ∃ (a b : Str) (k : Nat), x = .str a ∧ xs = [.str b] ∧ Txt.index0 a b = some k ∧ Q (.int (k : Nat)) H
theorem mt_indexS (hc : X.calm = true) : MtS X "str.index" rIndexS := fun pins s σ H x xs v us Q I rx rs h => by
  obtain ⟨a, b, k, e1, e2, e3, q⟩ := h
  exact mt_indexX hc takes0 pins s σ H x xs v us Q I rx rs ⟨a, b, e1, e2, fun k' e => by rw [e3] at e; cases e; exact q, fun e => by rw [e3] at e; cases e⟩
theorem paired_ix {α β : Type} {F : α → β → Prop} : ∀ {xs : List α} {ys : List β}, xs.length = ys.length → (∀ (i : Nat) (x : α) (y : β), xs[i]? = some x → ys[i]? = some y → F x y) → Paired F xs ys
  | [], [], _, _ => .nil
  | [], _ :: _, h, _ => by cases h
  | _ :: _, [], h, _ => by cases h
  | x :: xs, y :: ys, h, k => .cons (k 0 x y rfl rfl) (paired_ix (Nat.succ.inj h) fun i a b ha hb => k (i + 1) a b (by simpa using ha) (by simpa using hb))
theorem call_listS (hc : X.calm = true) : CallR X (.type "list") rListS := by
  intro pins s σ H xs us Q I r h
  obtain ⟨z, rfl, hz, q⟩ := h
  obtain ⟨u, rfl, t, rfl⟩ := vals1 r
  refine PySem.call_list_str (I.ok.hd hc) z t (fun h' tk acc c' k e it => ?_) (hn := hz)
  obtain ⟨it1, it2⟩ := it
  refine ⟨.ref s.heap.objs.size, upd H s.heap.objs.size (.lst ((chars z).map V.str)), I.laid (t' := tk) k (Nat.le_refl _) ⟨?_, acc.toList, c', ?_, e⟩, rfl, q _ (I.hok.fresh (Nat.le_refl _))⟩
  · rw [List.length_map]
    show (List.map _ _).length ≤ _
    rw [List.length_map, Array.length_toList]
    exact hz
  · refine paired_ix ?_ fun i x y hx hy => ?_
    · rw [List.length_map]
      show (List.map _ _).length = _
      rw [List.length_map, Array.length_toList, Array.length_toList, it1]
    · rw [Array.getElem?_toList] at hy
      obtain ⟨c, u, hc', rfl⟩ := it2 i y hy
      rw [List.getElem?_map] at hx
      have hx2 : (chars z)[i]? = some ⟨#[c]⟩ := by
        show (List.map _ _)[i]? = _
        rw [List.getElem?_map, Array.getElem?_toList, hc']
        rfl
      rw [hx2] at hx
      cases hx
      exact ⟨u, rfl⟩
end
/-! ### loops and comprehensions over what is walked -/
theorem walk_listF {K : PySem.W.Frag} {a : Addr} {xs : List V} : Walk (Itl K a) xs.length (fun H => SqL K H a xs) (YFn fun i => xs.getD i .non) :=
  walk_list.mono (fun _ h => h) fun i H x H' hi _ y => ⟨y.1, by show x = xs.getD i .non; rw [List.getD_eq_getElem?_getD, y.2]; rfl⟩
theorem walk_tupF {K : PySem.W.Frag} {a : Addr} {xs : List V} : Walk (Itt K a) xs.length (fun H => SqT K H a xs) (YFn fun i => xs.getD i .non) :=
  walk_tup.mono (fun _ h => h) fun i H x H' hi _ y => ⟨y.1, by show x = xs.getD i .non; rw [List.getD_eq_getElem?_getD, y.2]; rfl⟩
theorem walk_strF {z : Str} : Walk (Its z) z.cps.size (fun _ => True) (YFn fun i => .str ⟨#[z.cps.toList.getD i 0]⟩) :=
  walk_str.mono (fun _ h => h) fun i H x H' hi _ y => ⟨y.1, by
    obtain ⟨_, c, h1, h2⟩ := y
    show x = .str ⟨#[z.cps.toList.getD i 0]⟩
    rw [h2, List.getD_eq_getElem?_getD, Array.getElem?_toList, h1]; rfl⟩
theorem walk_range1 {n : Nat} : Walk (Itr 0 n) n (fun _ => True) (YFn fun i => .int (i : Int)) :=
  walk_range.mono (fun _ h => h) fun i H x H' _ _ y => ⟨y.1, by
    have e : x = .int (0 + (i : Int)) := y.2
    rw [e, Int.zero_add]⟩
theorem walk_rangeF {lo : Int} {n : Nat} : Walk (Itr lo n) n (fun _ => True) (YFn fun i => .int (lo + (i : Int))) :=
  walk_range.mono (fun _ h => h) fun i H x H' _ _ y => ⟨y.1, y.2⟩
/-- a comprehension whose turns leave nothing but the list -/
theorem lc_fn {J : It} {n : Nat} {G : Hp → Prop} {f : Nat → V} (w : Walk J n G (YFn f)) {g : TG} {tt : TT} {te : TE} {vs : List Nat} {σ : L2.St} {H1 : Hp} {D : Addr} {Qd : Hp → Prop} (b : Nat → Bool) (v : Nat → V) (hn : n ≤ 1000000)
    (hG : ∀ acc, G (upd H1 D (.lst acc)))
    (turn : ∀ i acc, i < n → acc.length ≤ i → ∀ N : Hp → Prop, (b i = true → N (upd H1 D (.lst (acc ++ [v i])))) → (b i = false → N (upd H1 D (.lst acc))) →
      g (f i) (wipe σ vs) (upd H1 D (.lst acc)) fun σ2 H2 => wipe σ2 vs = wipe σ vs ∧ tt σ2 H2 fun c H3 =>
        if c = true then te σ2 H3 fun y H4 => ∃ acc, H4 D = some (.lst acc) ∧ acc.length < sizeLine ∧ N (upd H4 D (.lst (acc ++ [y]))) else N H3)
    (hq : Qd (upd H1 D (.lst (((List.range n).filter b).map v)))) :
    ∃ W : Nat → Nat → Hp → Prop, (∃ m, W 0 m (upd H1 D (.lst []))) ∧ ∀ i m H, W i m H →
      (J.stop i H ∧ Qd H) ∨ (J.go i H ∧ ∃ Nx : Hp → Prop, (∀ H', Nx H' → ∃ m', m' < m ∧ W (i + 1) m' H') ∧ ∀ x H', J.yld i H x H' → g x (wipe σ vs) H' fun σ2 H2 => wipe σ2 vs = wipe σ vs ∧ tt σ2 H2 fun b H3 =>
        if b = true then te σ2 H3 fun y H4 => ∃ acc, H4 D = some (.lst acc) ∧ acc.length < sizeLine ∧ Nx (upd H4 D (.lst (acc ++ [y]))) else Nx H3) := by
  refine lc_it w (fun i H => H = upd H1 D (.lst (((List.range i).filter b).map v))) rfl (fun i H _ h => by rw [h]; exact hG _) ?_ (fun H h => by rw [h]; exact hq)
  rintro i x H H' hi rfl ⟨rfl, rfl⟩
  refine turn i _ hi ?_ (fun H' => H' = upd H1 D (.lst (((List.range (i + 1)).filter b).map v))) (fun hb => ?_) fun hb => ?_
  · rw [List.length_map]
    exact Nat.le_trans (List.length_filter_le _ _) (by rw [List.length_range]; exact Nat.le_refl _)
  · rw [List.range_succ, List.filter_append, List.map_append, List.filter_cons, if_pos hb]; rfl
  · rw [List.range_succ, List.filter_append, List.map_append, List.filter_cons, if_neg (by rw [hb]; decide)]
    show _ = upd H1 D (.lst (_ ++ []))
    rw [List.append_nil]
/-- the turn's end -/
theorem lc_end {H1 : Hp} {D : Addr} {acc : List V} {y : V} {n : Nat} {N : Hp → Prop} (hn : acc.length ≤ n) (hz : n < 1000000) (h : N (upd H1 D (.lst (acc ++ [y])))) :
    ∃ acc', (upd H1 D (.lst acc)) D = some (.lst acc') ∧ acc'.length < sizeLine ∧ N (upd (upd H1 D (.lst acc)) D (.lst (acc' ++ [y]))) :=
  ⟨acc, upd_same, by rw [sizeLine_eq]; omega, by rw [upd_upd]; exact h⟩
theorem range_map {α : Type} (xs : List α) (d : α) : (List.range xs.length).map (fun i => xs.getD i d) = xs := by
  apply List.ext_getElem?
  intro i
  rw [List.getElem?_map]
  by_cases h : i < xs.length
  · rw [List.getElem?_range h, List.getElem?_eq_getElem h]
    show some (xs.getD i d) = _
    rw [List.getD_eq_getElem?_getD, List.getElem?_eq_getElem h]; rfl
  · rw [List.getElem?_eq_none (by rw [List.length_range]; omega), List.getElem?_eq_none (by omega)]; rfl
theorem range_filter_map {α β : Type} (xs : List α) (d : α) (b : α → Bool) (v : α → β) : ((List.range xs.length).filter fun i => b (xs.getD i d)).map (fun i => v (xs.getD i d)) = (xs.filter b).map v := by
  have e : ((List.range xs.length).filter fun i => b (xs.getD i d)).map (fun i => v (xs.getD i d)) = (((List.range xs.length).map fun i => xs.getD i d).filter b).map v := by
    rw [List.filter_map, List.map_map]; rfl
  rw [e, range_map]
section
variable {J : It} {n : Nat} {G : Hp → Prop} {f : Nat → V} {g : TG} {tb : TS} {D : Ends} {σ : L2.St} {H : Hp}
theorem for_fn (w : Walk J n G (YFn f)) (Pv : Nat → L2.St → Hp → Prop) (h0 : Pv 0 σ H) (hG : ∀ i σ' H', i ≤ n → Pv i σ' H' → G H')
    (hs : ∀ i σ' H', i < n → Pv i σ' H' → g (f i) σ' H' fun σ2 H2 => tb { D with nx := Pv (i + 1), ct := Pv (i + 1), bk := D.nx } σ2 H2) (hd : ∀ σ' H', Pv n σ' H' → D.nx σ' H') :
    ∃ W : Nat → Nat → L2.St → Hp → Prop, (∃ m, W 0 m σ H) ∧ ∀ i m σ H, W i m σ H →
      (J.stop i H ∧ D.nx σ H) ∨ (J.go i H ∧ ∃ N : L2.St → Hp → Prop, (∀ σ' H', N σ' H' → ∃ m', m' < m ∧ W (i + 1) m' σ' H') ∧ ∀ x H', J.yld i H x H' → g x σ H' fun σ2 H2 => tb { D with nx := N, ct := N, bk := D.nx } σ2 H2) :=
  for_it w Pv h0 hG (fun i x σ' H' H'' hi p y => by
    obtain ⟨e1, e2⟩ := y
    subst e1 e2
    exact hs i σ' _ hi p) hd
/-- a loop that leaves the heap as it was -/
theorem for_fix (w : Walk J n G (YFn f)) (Pv : Nat → L2.St → Prop) (hG : G H) (h0 : Pv 0 σ)
    (hs : ∀ i σ', i < n → Pv i σ' → g (f i) σ' H fun σ2 H2 => tb { D with nx := fun σ3 H3 => H3 = H ∧ Pv (i + 1) σ3, ct := fun σ3 H3 => H3 = H ∧ Pv (i + 1) σ3, bk := D.nx } σ2 H2) (hd : ∀ σ', Pv n σ' → D.nx σ' H) :
    ∃ W : Nat → Nat → L2.St → Hp → Prop, (∃ m, W 0 m σ H) ∧ ∀ i m σ H, W i m σ H →
      (J.stop i H ∧ D.nx σ H) ∨ (J.go i H ∧ ∃ N : L2.St → Hp → Prop, (∀ σ' H', N σ' H' → ∃ m', m' < m ∧ W (i + 1) m' σ' H') ∧ ∀ x H', J.yld i H x H' → g x σ H' fun σ2 H2 => tb { D with nx := N, ct := N, bk := D.nx } σ2 H2) :=
  for_fn w (fun i σ' H' => H' = H ∧ Pv i σ') ⟨rfl, h0⟩ (fun _ _ _ _ p => p.1 ▸ hG) (fun i σ' H' hi p => by
    obtain ⟨e, p⟩ := p
    subst e
    exact hs i σ' hi p) fun σ' H' p => by
    obtain ⟨e, p⟩ := p
    subst e
    exact hd σ' p
end
/-- a loop over a list, each item with P -/
theorem for_list {K : PySem.W.Frag} {a : Addr} {xs : List V} {g : TG} {tb : TS} {D : Ends} {σ : L2.St} {H : Hp} (P : V → Prop) (Pv : L2.St → Prop) (hS : SqL K H a xs) (hP : ∀ x ∈ xs, P x) (h0 : Pv σ)
    (hs : ∀ x σ', P x → Pv σ' → g x σ' H fun σ2 H2 => tb { D with nx := fun σ3 H3 => H3 = H ∧ Pv σ3, ct := fun σ3 H3 => H3 = H ∧ Pv σ3, bk := D.nx } σ2 H2) (hd : ∀ σ', Pv σ' → D.nx σ' H) :
    ∃ W : Nat → Nat → L2.St → Hp → Prop, (∃ m, W 0 m σ H) ∧ ∀ i m σ H, W i m σ H →
      ((Itl K a).stop i H ∧ D.nx σ H) ∨ ((Itl K a).go i H ∧ ∃ N : L2.St → Hp → Prop, (∀ σ' H', N σ' H' → ∃ m', m' < m ∧ W (i + 1) m' σ' H') ∧ ∀ x H', (Itl K a).yld i H x H' → g x σ H' fun σ2 H2 => tb { D with nx := N, ct := N, bk := D.nx } σ2 H2) :=
  for_fix walk_listF (fun _ => Pv) hS h0 (fun i σ' hi p => hs _ σ' (by
    show P (xs.getD i .non)
    rw [List.getD_eq_getElem?_getD, List.getElem?_eq_getElem hi]
    exact hP _ (List.getElem_mem hi)) p) hd
theorem meet_fix {t u : TS} {D : Ends} {σ : L2.St} {H : Hp} (P : L2.St → Prop) (h1 : t { D with nx := fun σ1 H1 => H1 = H ∧ P σ1 } σ H) (h2 : ∀ σ1, P σ1 → u D σ1 H) : tMeet t u D σ H :=
  ⟨fun σ1 H1 => H1 = H ∧ P σ1, h1, fun σ1 H1 p => by
    obtain ⟨e, p⟩ := p
    subst e
    exact h2 σ1 p⟩
/-- a while: P by a measure, the heap by it -/
theorem while_fn {c : TT} {tb : TS} {D : Ends} {σ : L2.St} {H : Hp} (P : Nat → L2.St → Hp → Prop) (m : Nat) (h0 : P m σ H)
    (hs : ∀ m σ' H', P m σ' H' → c σ' H' fun b H1 => if b = true then tb { D with nx := fun σ2 H2 => ∃ m', m' < m ∧ P m' σ2 H2, ct := fun σ2 H2 => ∃ m', m' < m ∧ P m' σ2 H2, bk := D.nx } σ' H1 else D.nx σ' H1)
    (mono : ∀ σ' H' (Q Q' : Bool → Hp → Prop), (∀ b H1, Q b H1 → Q' b H1) → c σ' H' Q → c σ' H' Q') : tWhile c tb D σ H := by
  refine ⟨P, ⟨m, h0⟩, fun m σ' H' p => mono σ' H' _ _ (fun b H1 q => ?_) (hs m σ' H' p)⟩
  cases b with
  | false => simpa using q
  | true =>
    have q' : tb { D with nx := fun σ2 H2 => ∃ m', m' < m ∧ P m' σ2 H2, ct := fun σ2 H2 => ∃ m', m' < m ∧ P m' σ2 H2, bk := D.nx } σ' H1 := by simpa using q
    show if true = true then _ else _
    rw [if_pos rfl]
    exact ⟨_, fun _ _ n => n, q'⟩
/-- fresh things apart -/
theorem fresh_ne {H : Hp} {p q : Addr} {o : HO} (h : upd H q o p = none) : p ≠ q := fun e => by rw [e, upd_same] at h; cases h
theorem fresh_of {H : Hp} {p q : Addr} {o : HO} (h : upd H q o p = none) : H p = none := by
  have ne := fresh_ne h
  rw [upd_ne ne] at h; exact h
theorem sqL_new {K : PySem.W.Frag} {H : Hp} {a p : Addr} {o : HO} {xs : List V} (h : SqL K H a xs) (hp : H p = none) : SqL K (upd H p o) a xs := by
  rcases h with h | h
  · rcases h with h | ⟨ob, h⟩
    · exact .inl (.inl (by rw [upd_ne (ne_of_none h hp)]; exact h))
    · exact .inl (.inr ⟨ob, by rw [upd_ne (ne_of_none h hp)]; exact h⟩)
  · exact .inr h
theorem sqL_at {K : PySem.W.Frag} {H : Hp} {p : Addr} {xs : List V} : SqL K (upd H p (.lst xs)) p xs := .inl (.inl upd_same)
theorem sqT_at {K : PySem.W.Frag} {H : Hp} {p : Addr} {xs : List V} : SqT K (upd H p (.tup xs)) p xs := .inl (.inl upd_same)
/-- a text so many times -/
def MulFit (z : Str) (n : Int) : Prop := z.length ≤ 100 ∧ -100000 ≤ n ∧ n ≤ 100000
abbrev rMulS : R2 := fun x y H Q => ∃ z n, x = .str z ∧ y = .int n ∧ MulFit z n ∧ Q (.str (Txt.mul z n)) H
theorem op_mul_str {X : Cx} : OpR X (binaryOp .Mult) rMulS := by
  intro pins s σ H x y u v Q I rx ry h
  obtain ⟨z, n, rfl, rfl, ⟨h1, h2, h3⟩, q⟩ := h
  obtain ⟨t, rfl⟩ := rx
  obtain ⟨t', rfl⟩ := ry
  have e1 : ¬ n < -(2 ^ 63 : Int) := by omega
  have e2 : ¬ n ≥ 2 ^ 63 := by omega
  refine PySem.SB.mul (x := z) (n := n) ⟨by rw [decide_eq_false e1, decide_eq_false e2]; rfl, fun h4 _ => ?_, fun h4 _ => ?_⟩ (fun t' k => ⟨.str (Txt.mul z n), H, I.tok _, ⟨_, rfl⟩, q⟩)
  · have h5 : (100 : Int) ≤ (2 ^ 63 - 1) / n := (Int.le_ediv_iff_mul_le (by omega)).mpr (by omega)
    omega
  · have h6 : z.length * n.toNat ≤ 100 * 100000 := Nat.mul_le_mul h1 (by omega)
    show decide (z.length * n.toNat > 2 ^ 24) = false
    exact decide_eq_false (by omega)
theorem rIsi_of {K : PySem.W.Frag} {x : V} {a b : String} {r : Bool} {H : Hp} {Q : VK} (h : TyX K H x (.type a)) (hb : kitB a b = some r) (q : Q (.bl r) H) : rIsi K [x, .ty b] H Q := ⟨_, _, _, _, _, rfl, .ty _, h, kit_ty hb, q⟩
section
variable {K : PySem.W.Frag} {H : Hp} {Q : VK}
theorem isi_bl_bool {b : Bool} (q : Q (.bl true) H) : rIsi K [.bl b, .ty "bool"] H Q := rIsi_of (.base (.bl _)) (by decide +kernel) q
theorem isi_int_int {i : Int} (q : Q (.bl true) H) : rIsi K [.int i, .ty "int"] H Q := rIsi_of (.base (.int _)) (by decide +kernel) q
theorem isi_int_bool {i : Int} (q : Q (.bl false) H) : rIsi K [.int i, .ty "bool"] H Q := rIsi_of (.base (.int _)) (by decide +kernel) q
theorem isi_str_str {z : Str} (q : Q (.bl true) H) : rIsi K [.str z, .ty "str"] H Q := rIsi_of (.base (.str _)) (by decide +kernel) q
theorem isi_lst {p : Addr} {xs : List V} (h : H p = some (.lst xs)) (q : Q (.bl true) H) : rIsi K [.ref p, .ty "list"] H Q := rIsi_of (.base (.lst h)) (by decide +kernel) q
end
theorem isi1 {K : PySem.W.Frag} {σ : L2.St} {x : V} {b : String} {H : Hp} {Q : VK} (h : rIsi K [x, .ty b] H Q) : tCons (tC (V.ty b)) tNil σ H (fun xs H2 => rIsi K (x :: xs) H2 Q) := h
/-- the end of a law: what it raises may hang on the world -/
theorem walk_ofW {l : PySem.W.OpenLaw} {n k : Nat} {q : Program} {loose : List Str} {XP : (Str → Option Value) → Heap → Prop} {YP : World → Heap → Prop} {d : DefRec} {CX : World → CXT} {x : Str} (h1 : l.most = some n) (h2 : n ≤ sizeLine) (h3 : d.params.defaults = [])
    (h4 : Room k callerA)
    (F : ∀ (w : World) (mg : Str → Option Value) (fa : Addr) (h : Heap), YP w h → h.Ns mainGlobals mg → mg d.name = some (.ref fa) → ∃ (K : PySem.W.Frag) (fd : FuncData) (sp : Sp), K.In h ∧ (∀ (s : Shared) (u : Value), BindsTo s fd ⟨[u], []⟩ [(x, u)]) ∧
      (∀ (H : Hp) (a : Addr) (ns : List Int), ns.length ≤ n → Only H → SqL K H a (ns.map V.int) → sp [.ref a] H (fun v _ => v = .bl true) fun _ _ _ => False) ∧ ∀ base : Heap, K.In base → base.Ns mainGlobals mg → FnOk l.prog w K mg base (CX w) k fa fd [x] sp)
    (h5 : ∀ (w : World) (H : Hp) (s : Shared) (e : Value) (s1 : Shared), CX w [] H s (fun _ _ _ => False) e s1 → False) : PySem.W.WalkO q loose XP YP l.row.toRowW d [] (fun f vs => PySem.call f vs) := by
  refine Att.attach_call h1 h3 ?_
  intro w s0 s1 mg mb fa o pm cd doc a vs ns G Y _ _ _ hm hob hin hln hg
  obtain ⟨K, fd, sp, kx, b1, b2, b3⟩ := F w mg fa _ Y G.T.g hm
  exact law_call kx G.T.g G.T.b G.T.builtins G.T.nolimit hg hob hin (Nat.le_trans hln h2) h4 b3 b1 (fun H y z => b2 H a ns hln y z) (fun H e s2 => h5 w H s1 e s2)
theorem cx_none {P : Program} {w : World} {l : List Env} {H : Hp} {s : Shared} {e : Value} {s1 : Shared} (h : L2.CX P w l H s (fun _ _ _ => False) e s1) : False := by
  obtain ⟨_, _, _, _, _, _, _, _, _, _, _, _, z⟩ := h
  exact z
end Sm
/-! SmMath: plain mathematics of marks. -/
namespace Sm
open PySem PySem.Spec PyProof.Rows L2
theorem mulW {i j : Int} (a b : Nat) (h1 : i.natAbs < 2 ^ a) (h2 : j.natAbs < 2 ^ b) (ha : 0 < a := by decide) (hb : 0 < b := by decide) (h : a + b ≤ 1000000 := by decide) : CMulW i j := wide_mul h1 h2 ha hb h
theorem mulW64 {i j : Int} (h1 : -(2 ^ 64) < i ∧ i < 2 ^ 64) (h2 : -(2 ^ 64) < j ∧ j < 2 ^ 64) : CMulW i j := mulW 64 64 (by omega) (by omega)
theorem divW64 {i j : Int} (h1 : 0 < j) (h2 : j < 2 ^ 64) : CDivW i j := wide_div (b := 64) h1 (by omega) (by decide) (by decide)
/-! ### ifs -/
theorem iteD {p A B : Prop} [Decidable p] (h1 : p → A) (h2 : ¬ p → B) : if decide p = true then A else B := by
  by_cases h : p
  · rw [decide_eq_true h]; exact iteT (h1 h)
  · rw [decide_eq_false h]; exact iteF (h2 h)
theorem iteDN {p A B : Prop} [Decidable p] (h1 : ¬ p → A) (h2 : p → B) : if (!decide p) = true then A else B := by
  by_cases h : p
  · rw [decide_eq_true h]; exact iteF (h2 h)
  · rw [decide_eq_false h]; exact iteT (h1 h)
theorem iteEI {x y : Int} {A B : Prop} (h1 : x = y → A) (h2 : ¬ x = y → B) : if decide (V.int x = V.int y) = true then A else B :=
  iteD (fun h => h1 (V.int.inj h)) fun h => h2 fun e => h (by rw [e])
theorem iteNI {x y : Int} {A B : Prop} (h1 : ¬ x = y → A) (h2 : x = y → B) : if (!decide (V.int x = V.int y)) = true then A else B :=
  iteDN (fun h => h1 fun e => h (by rw [e])) fun h => h2 (V.int.inj h)
theorem iteES {x y : Str} {A B : Prop} (h1 : x = y → A) (h2 : ¬ x = y → B) : if decide (V.str x = V.str y) = true then A else B :=
  iteD (fun h => h1 (V.str.inj h)) fun h => h2 fun e => h (by rw [e])
theorem iteNS' {x y : Str} {A B : Prop} (h1 : ¬ x = y → A) (h2 : x = y → B) : if (!decide (V.str x = V.str y)) = true then A else B :=
  iteDN (fun h => h1 fun e => h (by rw [e])) fun h => h2 (V.str.inj h)
theorem sz : sizeLine = 16777216 := sizeLine_eq
/-! ### letters, texts -/
open SX
/-- a text of letters by their numbers -/
def txt (ds : List Nat) : Str := S (ds.map (97 + ·))
abbrev LET : Str := "abcdefghijklmnopqrstuvwxyz"
theorem let_S : LET = txt (List.range 26) := by decide +kernel
theorem txt_len (ds : List Nat) : (txt ds).length = ds.length := by unfold txt; rw [S_len, List.length_map]
theorem txt_inj {a b : List Nat} (h : txt a = txt b) : a = b := by
  have e := S_inj h
  exact List.map_inj_right (fun x y h => by omega) |>.mp e
theorem txt_cat (a b : List Nat) : txt a ++ txt b = txt (a ++ b) := by unfold txt; rw [S_cat, List.map_append]
theorem txt_tl (ds : List Nat) : (txt ds).cps.toList = ds.map (97 + ·) := rfl
theorem txt_nil : txt [] = ("" : Str) := by decide +kernel
theorem let_len : ("abcdefghijklmnopqrstuvwxyz" : Str).length = 26 := by decide +kernel
theorem S_nil : ("" : Str) = S [] := by decide +kernel
theorem S_a : ("a" : Str) = S [97] := by decide +kernel
theorem let_atN {i : Nat} (h : i < 26) : LET.cps.toList[i]? = some (97 + i) := by
  rw [let_S, txt_tl, List.getElem?_map, List.getElem?_range h]; rfl
theorem let_at {j : Int} (h0 : 0 ≤ j) (h : j < 26) : atI LET.cps.toList j = some (97 + j.toNat) := by
  obtain ⟨n, rfl⟩ := Int.eq_ofNat_of_zero_le h0
  exact atI_nat (let_atN (by omega))
theorem join_txt (ds : List Nat) : Txt.join ("" : Str) (ds.map fun d => txt [d]) = txt ds := by
  have e : (ds.map fun d => txt [d]) = ((ds.map fun d => [97 + d]).map S) := by rw [List.map_map]; rfl
  rw [e, show ("" : Str) = S [] by decide +kernel, join_S]
  refine congrArg S ?_
  clear e
  induction ds with
  | nil => rfl
  | cons a r ih =>
    cases r with
    | nil => rfl
    | cons b r =>
      show [97 + a] ++ ([] ++ TL.joinL [] ((b :: r).map fun d => [97 + d])) = _
      rw [ih]; rfl
theorem slice_mid {a : List Nat} {i j : Nat} (h1 : i ≤ j) (h2 : j ≤ a.length) : Txt.slice (S a) (some (i : Int)) (some (j : Int)) = S ((a.drop i).take (j - i)) := by
  have e := beq_iff_eq.mp (PyProof.Rows.slice_closesL (x := S a) (i := (i : Int)) (j := (j : Int)) (by omega) (by omega) (by rw [S_len]; omega))
  refine e.trans ?_
  show S (List.take _ (List.drop _ a)) = _
  rw [Int.toNat_natCast, show ((j : Int) - i).toNat = j - i by omega]
theorem slice_txt {ds : List Nat} {i j : Nat} (h1 : i ≤ j) (h2 : j ≤ ds.length) : Txt.slice (txt ds) (some (i : Int)) (some (j : Int)) = txt ((ds.drop i).take (j - i)) := by
  unfold txt
  rw [slice_mid h1 (by rw [List.length_map]; exact h2), ← List.map_drop, ← List.map_take]
/-! ### order of texts, sorted ones -/
theorem str_ext {x y : Str} (h : x.cps.toList = y.cps.toList) : x = y := by
  obtain ⟨a⟩ := x; obtain ⟨b⟩ := y
  have h' : a.toList = b.toList := h
  rw [Array.toList_inj.mp h']
theorem rising_pw : ∀ {l : List Str} {p : Str}, risingS p l = true → (p :: l).Pairwise fun a b => a.cps.toList ≤ b.cps.toList
  | [], p, _ => List.pairwise_singleton _ _
  | x :: r, p, h => by
    have h' : (!ltCps x.cps.toList p.cps.toList && risingS x r) = true := h
    rw [Bool.and_eq_true, ltCps_eq, Bool.not_eq_true', decide_eq_false_iff_not] at h'
    have ih := rising_pw h'.2
    refine List.pairwise_cons.mpr ⟨fun b hb => ?_, ih⟩
    have px : p.cps.toList ≤ x.cps.toList := h'.1
    rcases List.mem_cons.mp hb with rfl | hb
    · exact px
    · exact List.le_trans px ((List.pairwise_cons.mp ih).1 b hb)
theorem sorted_pw : ∀ {l : List Str}, sortedS l = true → l.Pairwise fun a b => a.cps.toList ≤ b.cps.toList
  | [], _ => List.Pairwise.nil
  | _ :: _, h => rising_pw h
theorem sorted_eq {xs ys : List Str} (hp : ys.Perm xs) (hs : sortedS ys = true) (hx : xs.Pairwise fun a b => a.cps.toList ≤ b.cps.toList) : ys = xs :=
  List.Perm.eq_of_pairwise (le := fun a b => a.cps.toList ≤ b.cps.toList) (fun a b _ _ h1 h2 => str_ext (List.le_antisymm h1 h2)) (sorted_pw hs) hx hp
/-! ### two lists of texts compared -/
theorem dpAll_strs {K : PySem.W.Frag} {H : Hp} : ∀ ys : List Str, DpAll K H (ys.map V.str) (ys.map PyData.str)
  | [] => .nil
  | y :: r => .cons (.str y) (dpAll_strs r)
structure Sh (n : Nat) (d : PyData) : Prop where
  lay : d.canLay0 = true
  dep : d.depth ≤ n
theorem Sh.shaped {n : Nat} {d : PyData} (h : Sh n d) (hn : n ≤ 64 := by decide) : SeqAt.shaped d = true := by
  show (d.canLay0 && decide (d.depth ≤ 64)) = true
  rw [h.lay, decide_eq_true (Nat.le_trans h.dep hn)]; rfl
theorem Sh.int {n : Nat} (i : Int) : Sh n (.int i) := ⟨by simp [PyData.canLay0], by simp [PyData.depth]⟩
theorem Sh.bl {n : Nat} (i : Bool) : Sh n (.bool i) := ⟨by simp [PyData.canLay0], by simp [PyData.depth]⟩
theorem Sh.non {n : Nat} : Sh n .none := ⟨by simp [PyData.canLay0], by simp [PyData.depth]⟩
theorem Sh.str {n : Nat} {x : Str} (h : PyData.strOk x = true) : Sh n (.str x) := ⟨by simpa [PyData.canLay0] using h, by simp [PyData.depth]⟩
theorem sh_all {n : Nat} : ∀ {ds : List PyData}, (∀ d ∈ ds, Sh n d) → PyData.canLayAll0 ds = true ∧ PyData.depthAll ds ≤ n
  | [], _ => ⟨by simp [PyData.canLayAll0], by simp [PyData.depthAll]⟩
  | d :: ds, h => by
    obtain ⟨a, b⟩ := sh_all fun x hx => h x (List.mem_cons_of_mem _ hx)
    have c := h d List.mem_cons_self
    exact ⟨by simp [PyData.canLayAll0, a, c.lay], by simp only [PyData.depthAll]; exact Nat.max_le.mpr ⟨c.dep, b⟩⟩
theorem Sh.list {n : Nat} {ds : List PyData} (h : ∀ d ∈ ds, Sh n d) : Sh (n + 1) (.list ds) := by
  obtain ⟨a, b⟩ := sh_all h
  exact ⟨by simpa [PyData.canLay0] using a, by simp only [PyData.depth]; omega⟩
theorem Sh.tup {n : Nat} {ds : List PyData} (h : ∀ d ∈ ds, Sh n d) : Sh (n + 1) (.tuple ds) := by
  obtain ⟨a, b⟩ := sh_all h
  exact ⟨by simpa [PyData.canLay0] using a, by simp only [PyData.depth]; omega⟩
theorem strOk_S {l : List Nat} (h : ∀ c ∈ l, c < 0x110000) : PyData.strOk (S l) = true := by
  show (S l).cps.all (· < 0x110000) = true
  rw [← Array.all_toList]
  exact List.all_eq_true.mpr fun c hc => decide_eq_true (h c hc)
theorem strOk_txt {ds : List Nat} (h : ∀ d ∈ ds, d < 1000) : PyData.strOk (txt ds) = true := strOk_S fun c hc => by
  obtain ⟨d, hd, rfl⟩ := List.mem_map.mp hc
  have := h d hd
  omega
theorem sh_strs {ys : List Str} (h : ∀ y ∈ ys, PyData.strOk y = true) : Sh 1 (.list (ys.map PyData.str)) := Sh.list fun d hd => by
  obtain ⟨y, hy, rfl⟩ := List.mem_map.mp hd
  exact Sh.str (h y hy)
theorem eqvAll_strs : ∀ xs ys : List Str, PyData.eqvAll (xs.map .str) (ys.map .str) = decide (xs = ys)
  | [], [] => by simp [PyData.eqvAll]
  | x :: xs, y :: ys => by
    rw [List.map_cons, List.map_cons, PyData.eqvAll, PyData.eqv, eqvAll_strs xs ys]
    by_cases h : x = y
    · subst h; simp
    · simp [h]
  | [], y :: ys => by simp [PyData.eqvAll]
  | x :: xs, [] => by simp [PyData.eqvAll]
theorem eqv_strs (xs ys : List Str) : PyData.eqv (.list (xs.map .str)) (.list (ys.map .str)) = decide (xs = ys) := by rw [PyData.eqv, eqvAll_strs]
/-! ### an item by its place -/
theorem pick {xs : List V} {e : Int} (P : V → Prop) (h0 : 0 ≤ e) (h1 : e < xs.length) (hP : ∀ x ∈ xs, P x) : ∃ x, atI xs e = some x ∧ P x := by
  obtain ⟨n, rfl⟩ := Int.eq_ofNat_of_zero_le h0
  have hn : n < xs.length := by omega
  exact ⟨xs[n], atI_nat (List.getElem?_eq_getElem hn), hP _ (List.getElem_mem hn)⟩
theorem all1 {α : Type} {P : α → Prop} {x : α} {r : List α} (h : P x) (t : ∀ y ∈ r, P y) : ∀ y ∈ x :: r, P y := fun y hy => by
  rcases List.mem_cons.mp hy with rfl | hy
  · exact h
  · exact t y hy
theorem all0 {α : Type} {P : α → Prop} : ∀ y ∈ ([] : List α), P y := fun _ h => nomatch h
/-! ### the law's own head -/
def sp_law (K : PySem.W.Frag) : Sp := fun vs H Q _ => ∃ (a : Addr) (ns : List Int), vs = [.ref a] ∧ SqL K H a (ns.map V.int) ∧ ns.length ≤ 63 ∧ Only H ∧ ∀ H', Q (.bl true) H'
theorem law_in {K : PySem.W.Frag} {H : Hp} {a : Addr} {ns : List Int} (hO : Only H) (hS : SqL K H a (ns.map V.int)) (hl : ns.length ≤ 63) : sp_law K [.ref a] H (fun v _ => v = .bl true) fun _ _ _ => False :=
  ⟨a, ns, rfl, hS, hl, hO, fun _ => rfl⟩
/-- the letters from b on whose number less 1 has rest d by h -/
def ends (L h d : Nat) : List Nat := ((List.range (L - 1)).filter fun i => i % h == d).map (· + 1)
theorem ends_le (L h d : Nat) : (ends L h d).length ≤ L := by
  unfold ends
  rw [List.length_map]
  exact Nat.le_trans (List.length_filter_le _ _) (by rw [List.length_range]; omega)
theorem filt_step {w d m m2 : Nat} (hd : m % w = d) (h1 : m < m2) (h2 : m2 ≤ m + w) : (List.range m2).filter (fun i => i % w == d) = (List.range m).filter (fun i => i % w == d) ++ [m] := by
  obtain ⟨k, rfl⟩ : ∃ k, m2 = m + 1 + k := ⟨m2 - (m + 1), by omega⟩
  induction k with
  | zero =>
    rw [Nat.add_zero, List.range_succ, List.filter_append, List.filter_cons, if_pos (beq_iff_eq.mpr hd)]; rfl
  | succ k ih =>
    have hne : ¬ ((m + 1 + k) % w == d) = true := fun h => by
      have e : (m + 1 + k) % w = m % w := (beq_iff_eq.mp h).trans hd.symm
      have z := Nat.sub_mod_eq_zero_of_mod_eq e
      rw [show m + 1 + k - m = k + 1 by omega, Nat.mod_eq_of_lt (by omega)] at z
      omega
    rw [show m + 1 + (k + 1) = (m + 1 + k) + 1 by omega, List.range_succ, List.filter_append, ih (by omega) (by omega), List.filter_cons, if_neg hne]
    show _ ++ [] = _
    rw [List.append_nil]
theorem filt_none {w d m : Nat} (h : m ≤ d) (hd : d < w) : (List.range m).filter (fun i => i % w == d) = [] := by
  rw [List.filter_eq_nil_iff]
  intro i hi
  have := List.mem_range.mp hi
  rw [Nat.mod_eq_of_lt (by omega), beq_iff_eq]
  omega
theorem ends_mem {L h d k : Nat} : k ∈ ends L h d ↔ 1 ≤ k ∧ k < L ∧ (k - 1) % h = d := by
  unfold ends
  rw [List.mem_map]
  constructor
  · rintro ⟨i, hi, rfl⟩
    obtain ⟨h1, h2⟩ := List.mem_filter.mp hi
    have := List.mem_range.mp h1
    exact ⟨by omega, by omega, by simpa using h2⟩
  · rintro ⟨h1, h2, h3⟩
    exact ⟨k - 1, List.mem_filter.mpr ⟨List.mem_range.mpr (by omega), by simpa using h3⟩, by omega⟩
theorem ends_ne {L h d : Nat} (h1 : d < h) (h2 : h < L) : ends L h d ≠ [] := fun e => by
  have : d + 1 ∈ ends L h d := ends_mem.mpr ⟨by omega, by omega, by rw [Nat.add_sub_cancel, Nat.mod_eq_of_lt h1]⟩
  rw [e] at this
  cases this
theorem nodup_filter {α : Type} {p : α → Bool} {l : List α} (h : l.Nodup) : (l.filter p).Nodup := List.filter_sublist.nodup h
theorem nodup_map {α β : Type} {f : α → β} (hf : ∀ x y, f x = f y → x = y) {l : List α} (h : l.Nodup) : (l.map f).Nodup :=
  List.Pairwise.map f (fun _ _ n e => n (hf _ _ e)) h
theorem ends_nodup (L h d : Nat) : (ends L h d).Nodup := nodup_map (fun _ _ e => by omega) (nodup_filter List.nodup_range)
/-- the ends of all hands ahead of n -/
def allEnds (L h : Nat) : Nat → List Nat
  | 0 => []
  | n + 1 => allEnds L h n ++ ends L h n
theorem allEnds_mem {L h : Nat} : ∀ {n k : Nat}, k ∈ allEnds L h n ↔ 1 ≤ k ∧ k < L ∧ (k - 1) % h < n
  | 0, k => ⟨fun h => (by cases h), fun h => by omega⟩
  | n + 1, k => by
    show k ∈ allEnds L h n ++ ends L h n ↔ _
    rw [List.mem_append, allEnds_mem, ends_mem]
    omega
theorem allEnds_nodup (L h : Nat) : ∀ n, (allEnds L h n).Nodup
  | 0 => List.nodup_nil
  | n + 1 => List.nodup_append.mpr ⟨allEnds_nodup L h n, ends_nodup L h n, fun a ha b hb e => by
      have h1 := (allEnds_mem.mp ha).2.2
      have h2 := (ends_mem.mp hb).2.2
      rw [← e] at h2
      omega⟩
theorem allEnds_len (L h n : Nat) : (allEnds L h n).length ≤ L - 1 := by
  have h1 := List.Nodup.length_le_of_subset (allEnds_nodup L h n) (l₂ := (List.range (L - 1)).map (· + 1)) fun k hk => by
    have := allEnds_mem.mp hk
    exact List.mem_map.mpr ⟨k - 1, List.mem_range.mpr (by omega), by omega⟩
  rw [List.length_map, List.length_range] at h1
  exact h1
theorem allEnds_perm {L h : Nat} (h0 : 0 < h) : (allEnds L h h).Perm ((List.range (L - 1)).map (· + 1)) := by
  refine (List.perm_ext_iff_of_nodup (allEnds_nodup L h h) (nodup_map (fun _ _ e => by omega) List.nodup_range)).mpr fun k => ?_
  rw [allEnds_mem, List.mem_map]
  constructor
  · rintro ⟨h1, h2, _⟩
    exact ⟨k - 1, List.mem_range.mpr (by omega), by omega⟩
  · rintro ⟨i, hi, rfl⟩
    have := List.mem_range.mp hi
    exact ⟨by omega, by omega, Nat.mod_lt _ h0⟩
theorem chars_txt (ds : List Nat) : chars (txt ds) = ds.map fun d => txt [d] := by
  show (List.map _ (txt ds).cps.toList) = _
  rw [txt_tl, List.map_map]; rfl
theorem letters_from_b (L : Nat) (h : L ≤ 26) (h1 : 1 ≤ L) : Txt.slice LET (some 1) (some (L : Int)) = txt ((List.range (L - 1)).map (· + 1)) := by
  rw [let_S]
  have e := slice_txt (ds := List.range 26) (i := 1) (j := L) h1 (by rw [List.length_range]; exact h)
  refine e.trans (congrArg txt ?_)
  apply List.ext_getElem?
  intro k
  rw [List.getElem?_map, List.getElem?_take, List.getElem?_drop]
  by_cases hk : k < L - 1
  · rw [if_pos hk, List.getElem?_range (show 1 + k < 26 by omega), List.getElem?_range hk]
    show some (1 + k) = some (k + 1)
    rw [Nat.add_comm]
  · rw [if_neg hk, List.getElem?_eq_none (l := List.range (L - 1)) (by rw [List.length_range]; omega)]
    rfl
theorem singles_pw {ds : List Nat} (h : ds.Pairwise (· < ·)) : (ds.map fun d => txt [d]).Pairwise fun a b => a.cps.toList ≤ b.cps.toList := by
  refine List.Pairwise.map _ (fun a b hab => ?_) h
  show [97 + a] ≤ [97 + b]
  exact List.le_of_lt (List.Lex.rel (by omega))
/-! ### marks as texts -/
/-- a sign is one of the first L letters -/
def isLet (L c : Nat) : Bool := decide (97 ≤ c) && decide (c < 97 + L)
/-- a text is a mark -/
def isMk (L : Nat) (l : List Nat) : Bool := !l.isEmpty && (!(l.getLast? == some 97) && l.all (isLet L))
theorem let_take {L : Nat} (h : L ≤ 26) : Txt.slice LET none (some (L : Int)) = txt (List.range L) := by
  rw [let_S]
  unfold txt
  rw [slice_to (by omega), Int.toNat_natCast, ← List.map_take, List.take_range]
  rw [show min L 26 = L by omega]
theorem mem_take {L c : Nat} : decide (c ∈ (txt (List.range L)).cps.toList) = isLet L c := by
  rw [txt_tl, Bool.eq_iff_iff, decide_eq_true_iff, isLet, Bool.and_eq_true, decide_eq_true_iff, decide_eq_true_iff, List.mem_map]
  constructor
  · rintro ⟨d, hd, rfl⟩
    have := List.mem_range.mp hd
    omega
  · rintro ⟨h1, h2⟩
    exact ⟨c - 97, List.mem_range.mpr (by omega), by omega⟩
theorem at_last {α : Type} {l : List α} (h : l ≠ []) : atI l (-1) = some (l.getLast h) := by
  have := atI_last l.dropLast (l.getLast h)
  rw [List.dropLast_concat_getLast] at this
  exact this
theorem at_len1 {α : Type} {l : List α} (h : l ≠ []) {j : Int} (e : j = (l.length : Int) - 1) : atI l j = some (l.getLast h) := by
  have hp : 0 < l.length := List.length_pos_iff.mpr h
  rw [e, show (l.length : Int) - 1 = ((l.length - 1 : Nat) : Int) by omega]
  refine atI_nat ?_
  rw [List.getLast_eq_getElem, List.getElem?_eq_getElem]
theorem S1_inj {c d : Nat} (h : (S [c] : Str) = S [d]) : c = d := by
  have := S_inj h
  simpa using this
theorem at_some {α : Type} {l : List α} {j : Int} (h0 : 0 ≤ j) (h1 : j < l.length) : ∃ c, atI l j = some c := by
  obtain ⟨n, rfl⟩ := Int.eq_ofNat_of_zero_le h0
  exact ⟨l[n]'(by omega), atI_nat (List.getElem?_eq_getElem (by omega))⟩
end Sm
namespace Sm
open PySem PySem.Spec PyProof.Rows L2 SX
local macro_rules | `(tactic| walk_at "len") => `(tactic| (intro hlen; first | (obtain ⟨e, _⟩ := hlen; subst e; rfl) | (obtain ⟨_, e, _⟩ := hlen; subst e; rfl) | (obtain ⟨_, _, e, _⟩ := hlen; subst e; rfl) | (obtain ⟨_, _, _, e, _⟩ := hlen; subst e; rfl) | (obtain ⟨_, _, _, _, e, _⟩ := hlen; subst e; rfl) | (obtain ⟨_, _, _, _, _, e, _⟩ := hlen; subst e; rfl) | (obtain ⟨_, _, _, _, _, _, e, _⟩ := hlen; subst e; rfl) | (obtain ⟨_, _, _, _, _, _, _, e, _⟩ := hlen; subst e; rfl) | (obtain ⟨_, _, _, _, _, _, _, _, e, _⟩ := hlen; subst e; rfl) | (obtain ⟨_, _, _, _, _, _, _, _, _, e, _⟩ := hlen; subst e; rfl) | (obtain ⟨_, _, _, _, _, _, _, _, _, _, e, _⟩ := hlen; subst e; rfl) | (obtain ⟨_, _, _, _, _, _, _, _, _, _, _, e, _⟩ := hlen; subst e; rfl) | (obtain ⟨_, _, _, _, _, _, _, _, _, _, _, _, e, _⟩ := hlen; subst e; rfl)))
local macro_rules | `(tactic| walk_at "ex") => `(tactic| first
  | assumption | exact Ex.refl _ | exact Rst.refl _ | exact upd_same
  | (refine Ex.new ?_ ?_ <;> walk_at "ex") | (refine Ex.back ?_ (by assumption) <;> walk_at "ex") | (refine Rst.new ?_ ?_ rfl <;> walk_at "ex")
  | (refine clo_new ?_ ?_ rfl <;> walk_at "ex"))
local macro_rules | `(tactic| walk_at "side") => `(tactic| first
  | with_reducible assumption | omega | (dsimp only; omega) | exact mulW64 (by omega) (by omega) | exact divW64 (by omega) (by omega) | decide | (rw [sz]; omega) | (refine ⟨?_, ?_⟩ <;> walk_at "side") | (rw [sz, txt_len]; omega) | walk_at "ex" | (rw [sz]; simp only [List.length_cons, List.length_nil]; omega) | decide +kernel)
local macro_rules | `(tactic| walk_at "go1") => `(tactic| first
  | refine ⟨_, rfl, ?_⟩
  | refine ⟨_, _, rfl, rfl, ?_⟩
  | refine ⟨_, _, rfl, ?_⟩
  | refine ⟨_, _, _, rfl, ?_⟩
  | refine ⟨rfl, ?_⟩
  | refine ⟨_, _, rfl, Or.inl ‹SqL _ _ _ _›, ?_⟩
  | refine isi1 (isi_bl_bool ?_) | refine isi1 (isi_int_int ?_) | refine isi1 (isi_int_bool ?_) | refine isi1 (isi_str_str ?_) | refine isi1 (isi_lst ‹_ = some (.lst _)› ?_)
  | refine ⟨_, _, _, _, rfl, rfl, ‹SqL _ _ _ _›, ‹atI _ _ = some _›, ?_⟩
  | refine ⟨_, _, _, rfl, rfl, (by walk_at "side"), ‹atI _ _ = some _›, ?_⟩)
local macro_rules | `(tactic| walk_at "go2") => `(tactic| first | walk_at "go1" | refine And.intro (by walk_at "side") ?_ | refine ⟨_, Trim.back (by walk_at "ex") ‹Clo _›, ?_⟩)
local macro_rules | `(tactic| walk_at "go") => `(tactic| repeat walk_at "go2")
local macro_rules | `(tactic| walk_at "if") => `(tactic| first | refine iteEI ?_ ?_ | refine iteNI ?_ ?_ | refine iteES ?_ ?_ | refine iteNS' ?_ ?_ | refine iteD ?_ ?_ | refine iteDN ?_ ?_ | refine ite2 ?_ ?_)
local macro_rules | `(tactic| walk_at "sq") => `(tactic| first | assumption | exact sqL_at | exact sqT_at | (refine sqL_new ?_ ?_ <;> walk_at "sq") | walk_at "ex")
local macro_rules | `(tactic| walk_at "draw") => `(tactic| refine ⟨_, _, _, _, rfl, (by walk_at "sq"), ‹_ ≤ 63›, (by omega), (by omega), (by omega), (by omega), ?_⟩)
local macro_rules | `(tactic| walk_at "tr") => `(tactic| first | exact tr_same | exact tr_some (by assumption) | (refine tr_upd ?_; walk_at "tr"))
local macro_rules | `(tactic| walk_at "ne") => `(tactic| first | assumption | (refine ne_fresh ?_ (by assumption); walk_at "tr") | (refine Ne.symm (ne_fresh ?_ (by assumption)); walk_at "tr"))
local macro_rules | `(tactic| walk_at "look") => `(tactic| first | exact upd_same | assumption | (refine Eq.trans (upd_ne ?_) ?_; (walk_at "ne"); (walk_at "look")))
structure Kx (K : PySem.W.Frag) : Prop where
  tt : True
/-! ### halves -/
def sp_halves (K : PySem.W.Frag) : Sp := fun vs H Q _ => ∃ L : Nat, vs = [.int L] ∧ 2 ≤ L ∧ L ≤ 26 ∧ Q (.int (Nat.log2 L)) H
def t_halves (K : PySem.W.Frag) (E : XK) : TS :=
  (tSeq (tAsg (tC (.int 0)) (gName 1))
    (tSeq (tAsg (tC (.int 2)) (gName 2))
    (tSeq (tWhile (tTest (tOp rLeI (tVar 2) (tVar 0))) (tSeq (tAsg (tOp rAddI (tVar 1) (tC (.int 1))) (gName 1))
    (tAsg (tOp rMulW (tVar 2) (tC (.int 2))) (gName 2))))
    (tRet (tVar 1)))))
theorem len_halves {K : PySem.W.Frag} (vs : List V) (H : Hp) (Q : VK) (E : XK) : sp_halves K vs H Q E → vs.length = (["letters"] : List Str).length := by
  walk_at "len"

theorem pow_le26 {p L : Nat} (hL : 2 ≤ L) (hL2 : L ≤ 26) (h : p ≤ Nat.log2 L) : 2 ^ p ≤ 26 := Nat.le_trans ((Nat.le_log2 (by omega)).mp h) hL2
theorem pure_halves {K : PySem.W.Frag} (T : Kx K) (vs : List V) (H : Hp) (Q : VK) (E : XK) (h : sp_halves K vs H Q E) : t_halves K E { nx := fun _ H' => Q .non H', rt := Q } (start ["letters", "power", "worth"] vs) H := by
  obtain ⟨L, rfl, hL, hL2, q⟩ := h
  walk_at "go"
  refine ⟨fun μ σ' H' => ∃ p : Nat, p ≤ Nat.log2 L ∧ μ = Nat.log2 L - p ∧ H' = H ∧ σ' = [some (.int L), some (.int p), some (.int ((2 ^ (p + 1) : Nat) : Int))], ⟨_, 0, Nat.zero_le _, rfl, rfl, rfl⟩, ?_⟩
  rintro μ σ' _ ⟨p, hp, rfl, rfl, rfl⟩
  have hw := pow_le26 hL hL2 hp
  have hw2 := Nat.pow_succ (m := p) (n := 2)
  walk_at "go"
  refine iteD (fun c => ?_) fun c => ?_
  · have c2 : p + 1 ≤ Nat.log2 L := (Nat.le_log2 (by omega)).mpr (by omega)
    refine ⟨_, fun _ _ z => z, ?_⟩
    walk_at "go"
    refine ⟨_, ?_, p + 1, c2, rfl, rfl, ?_⟩
    · show Nat.log2 L - (p + 1) < Nat.log2 L - p
      omega
    · rw [show ((2 ^ (p + 1 + 1) : Nat) : Int) = ((2 ^ (p + 1) : Nat) : Int) * 2 by rw [Nat.pow_succ (m := p + 1)]; omega]
      rfl
  · have e : p = Nat.log2 L := by
      have c2 : ¬ p + 1 ≤ Nat.log2 L := fun z => c (by have := (Nat.le_log2 (by omega)).mp z; omega)
      omega
    rw [e]
    walk_at "go"
    exact q
/-! ### most_long -/
def mostI (L : Nat) (n : Int) : Int := if n < 2 then n else 2 + (n - 2) / (Nat.log2 L : Int)
theorem log_pos {L : Nat} (h : 2 ≤ L) : 1 ≤ Nat.log2 L := (Nat.le_log2 (by omega)).mpr h
theorem log_le {L : Nat} (h : 2 ≤ L) (h2 : L ≤ 26) : Nat.log2 L ≤ 26 := Nat.le_trans (Nat.le_of_lt Nat.lt_two_pow_self) (Nat.le_trans ((Nat.le_log2 (by omega)).mp (Nat.le_refl _)) h2)
def sp_most_long (K : PySem.W.Frag) : Sp := fun vs H Q _ => ∃ (L : Nat) (n : Int), vs = [.int L, .int n] ∧ 2 ≤ L ∧ L ≤ 26 ∧ Q (.int (mostI L n)) H
def t_most_long (K : PySem.W.Frag) (E : XK) : TS :=
  (tSeq (tIfS (tTest (tOp rLtI (tVar 1) (tC (.int 2))))
    (tRet (tVar 1))
    tNext)
    (tRet (tOp rAddI (tC (.int 2)) (tOp rDivW (tOp rSubI (tVar 1) (tC (.int 2))) (tCall (sp_halves K) [] E (tCons (tVar 0) tNil))))))
theorem len_most_long {K : PySem.W.Frag} (vs : List V) (H : Hp) (Q : VK) (E : XK) : sp_most_long K vs H Q E → vs.length = (["letters", "many"] : List Str).length := by
  walk_at "len"

theorem pure_most_long {K : PySem.W.Frag} (T : Kx K) (vs : List V) (H : Hp) (Q : VK) (E : XK) (h : sp_most_long K vs H Q E) : t_most_long K E { nx := fun _ H' => Q .non H', rt := Q } (start ["letters", "many"] vs) H := by
  obtain ⟨L, n, rfl, hL, hL2, q⟩ := h
  unfold mostI at q
  have h1 := log_pos hL
  have h2 := log_le hL hL2
  walk_at "go"
  refine iteD (fun c => ?_) fun c => ?_
  · rw [if_pos c] at q
    walk_at "go"
    exact q
  · rw [if_neg c] at q
    walk_at "go"
    exact q
/-! ### end_long -/
def endI (L n f : Int) : Int := if n ≤ 1 + f then 1 else 2 + (n - 2 - f) / (L - 1)
def sp_end_long (K : PySem.W.Frag) : Sp := fun vs H Q _ => ∃ (L n f : Int), vs = [.int L, .int n, .int f] ∧ 2 ≤ L ∧ L ≤ 26 ∧ Q (.int (endI L n f)) H
def t_end_long (K : PySem.W.Frag) (E : XK) : TS :=
  (tSeq (tIfS (tTest (tOp rLeI (tVar 1) (tOp rAddI (tC (.int 1)) (tVar 2))))
    (tRet (tC (.int 1)))
    tNext)
    (tRet (tOp rAddI (tC (.int 2)) (tOp rDivW (tOp rSubI (tOp rSubI (tVar 1) (tC (.int 2))) (tVar 2)) (tOp rSubI (tVar 0) (tC (.int 1)))))))
theorem len_end_long {K : PySem.W.Frag} (vs : List V) (H : Hp) (Q : VK) (E : XK) : sp_end_long K vs H Q E → vs.length = (["letters", "number", "free"] : List Str).length := by
  walk_at "len"

theorem pure_end_long {K : PySem.W.Frag} (T : Kx K) (vs : List V) (H : Hp) (Q : VK) (E : XK) (h : sp_end_long K vs H Q E) : t_end_long K E { nx := fun _ H' => Q .non H', rt := Q } (start ["letters", "number", "free"] vs) H := by
  obtain ⟨L, n, f, rfl, hL, hL2, q⟩ := h
  unfold endI at q
  walk_at "go"
  refine iteD (fun c => ?_) fun c => ?_
  · rw [if_pos c] at q
    walk_at "go"
    exact q
  · rw [if_neg c] at q
    walk_at "go"
    exact q
/-! ### last_long -/
def sp_last_long (K : PySem.W.Frag) : Sp := fun vs H Q _ => ∃ (L n : Int), vs = [.int L, .int n] ∧ 2 ≤ L ∧ L ≤ 26 ∧ Q (.int (endI L n ((L - 1) / 2))) H
def t_last_long (K : PySem.W.Frag) (E : XK) : TS :=
  (tRet (tCall (sp_end_long K) [] E (tCons (tVar 0) (tCons (tVar 1) (tCons (tOp rDivW (tOp rSubI (tVar 0) (tC (.int 1))) (tC (.int 2))) tNil)))))
theorem len_last_long {K : PySem.W.Frag} (vs : List V) (H : Hp) (Q : VK) (E : XK) : sp_last_long K vs H Q E → vs.length = (["letters", "number"] : List Str).length := by
  walk_at "len"

theorem pure_last_long {K : PySem.W.Frag} (T : Kx K) (vs : List V) (H : Hp) (Q : VK) (E : XK) (h : sp_last_long K vs H Q E) : t_last_long K E { nx := fun _ H' => Q .non H', rt := Q } (start ["letters", "number"] vs) H := by
  obtain ⟨L, n, rfl, hL, hL2, q⟩ := h
  walk_at "go"
  exact q
/-! ### first_long -/
def sp_first_long (K : PySem.W.Frag) : Sp := fun vs H Q _ => ∃ (L n : Int), vs = [.int L, .int n] ∧ 2 ≤ L ∧ L ≤ 26 ∧ Q (.int (endI L n ((L - 2) / 2))) H
def t_first_long (K : PySem.W.Frag) (E : XK) : TS :=
  (tRet (tCall (sp_end_long K) [] E (tCons (tVar 0) (tCons (tVar 1) (tCons (tOp rDivW (tOp rSubI (tVar 0) (tC (.int 2))) (tC (.int 2))) tNil)))))
theorem len_first_long {K : PySem.W.Frag} (vs : List V) (H : Hp) (Q : VK) (E : XK) : sp_first_long K vs H Q E → vs.length = (["letters", "number"] : List Str).length := by
  walk_at "len"

theorem pure_first_long {K : PySem.W.Frag} (T : Kx K) (vs : List V) (H : Hp) (Q : VK) (E : XK) (h : sp_first_long K vs H Q E) : t_first_long K E { nx := fun _ H' => Q .non H', rt := Q } (start ["letters", "number"] vs) H := by
  obtain ⟨L, n, rfl, hL, hL2, q⟩ := h
  walk_at "go"
  exact q
/-! ### law_draw -/
def sp_law_draw (K : PySem.W.Frag) : Sp := fun vs H Q _ => ∃ (a : Addr) (ns : List Int) (k many : Int), vs = [.ref a, .int k, .int many] ∧ SqL K H a (ns.map V.int) ∧ ns.length ≤ 63 ∧ 0 ≤ k ∧ k < 1000000 ∧ 0 < many ∧ many < 2 ^ 63 ∧
  ∀ d : Int, 0 ≤ d → d < many → Q (.int d) H
def t_law_draw (K : PySem.W.Frag) (E : XK) : TS :=
  (tMeet (tAsg (tIf (tTest (tOp rGtI (tCB (rLenQ K) (tCons (tVar 0) tNil)) (tC (.int 0)))) (tOp (rIxL K) (tVar 0) (tOp rModI (tVar 1) (tCB (rLenQ K) (tCons (tVar 0) tNil)))) (tC (.int 0))) (gName 3))
    (tMeet (tIfS (tAnd (tTest (tOp rGtI (tCB (rLenQ K) (tCons (tVar 0) tNil)) (tC (.int 0)))) (tTest (tOp rEq (tOp rModI (tOp rDivW (tOp (rIxL K) (tVar 0) (tC (.int 0))) (tC (.int 7))) (tC (.int 2))) (tC (.int 1)))))
    (tSeq (tFor (iRng1 (tCons (tOp rModI (tOp rDivW (tVar 1) (tCB (rLenQ K) (tCons (tVar 0) tNil))) (tC (.int 60))) tNil)) (gName 4)
    (tAsg (tOp rDivW (tVar 3) (tC (.int 1000003))) (gName 3)))
    (tRet (tOp rModI (tOp rModI (tVar 3) (tC (.int 1000003))) (tVar 2))))
    tNext)
    (tSeq (tAsg (tOp rAddI (tOp rAddI (tOp rModI (tVar 3) (tC (.int 1000003))) (tOp rMulW (tOp rMulW (tC (.int 31)) (tVar 1)) (tVar 1))) (tC (.int 1))) (gName 5))
    (tRet (tOp rModI (tOp rModI (tOp rMulW (tOp rModI (tOp rMulW (tVar 5) (tC (.int 48271))) (tC (.int 999983))) (tC (.int 7919))) (tC (.int 524287))) (tVar 2))))))
theorem len_law_draw {K : PySem.W.Frag} (vs : List V) (H : Hp) (Q : VK) (E : XK) : sp_law_draw K vs H Q E → vs.length = (["script", "k", "many"] : List Str).length := by
  walk_at "len"

theorem pure_law_draw {K : PySem.W.Frag} (T : Kx K) (vs : List V) (H : Hp) (Q : VK) (E : XK) (h : sp_law_draw K vs H Q E) : t_law_draw K E { nx := fun _ H' => Q .non H', rt := Q } (start ["script", "k", "many", "cell", "j", "seed"] vs) H := by
  obtain ⟨a, ns, k, many, rfl, hS, hl, h0, h1, hm, hm2, q⟩ := h
  have hk : 0 ≤ 31 * k * k ∧ 31 * k * k < 2 ^ 60 := by
    have e : 31 * k * k ≤ 31 * 1000000 * 1000000 := Int.mul_le_mul (by omega) (by omega) h0 (by omega)
    exact ⟨Int.mul_nonneg (by omega) h0, by omega⟩
  have hd : ∀ j : Int, 0 ≤ j → j < (ns.map V.int).length → ∃ x, atI (ns.map V.int) j = some (.int x) := fun j j0 j1 => by
    obtain ⟨n, rfl⟩ := Int.eq_ofNat_of_zero_le j0
    rw [List.length_map] at j1
    exact ⟨ns[n]'(by omega), atI_nat (by rw [List.getElem?_map, List.getElem?_eq_getElem (by omega)]; rfl)⟩
  have el : (ns.map V.int).length ≤ 63 := by rw [List.length_map]; exact hl
  have fin : ∀ x : Int, Q (.int (x % many)) H := fun x => q _ (Int.emod_nonneg _ (by omega)) (Int.emod_lt_of_pos _ hm)
  refine ⟨fun σ' H' => ∃ c : Int, σ' = [some (.ref a), some (.int k), some (.int many), some (.int c), none, none] ∧ H = H', ?_, ?_⟩
  · walk_at "go"
    walk_at "if"
    · intro c
      obtain ⟨x, hx⟩ := hd (k % (ns.map V.int).length) (Int.emod_nonneg _ (by omega)) (Int.emod_lt_of_pos _ (by omega))
      walk_at "go"
      rfl
    · intro c
      exact ⟨0, rfl, rfl⟩
  · rintro _ _ ⟨c, rfl, rfl⟩
    refine ⟨fun σ' H' => σ' = [some (.ref a), some (.int k), some (.int many), some (.int c), none, none] ∧ H = H', ?_, ?_⟩
    · walk_at "go"
      walk_at "if"
      · intro c1
        obtain ⟨x, hx⟩ := hd 0 (by omega) (by omega)
        walk_at "go"
        walk_at "if"
        · intro _
          walk_at "go"
          refine for_fix walk_range1 (fun i σ' => ∃ x c, σ' = [some (.ref a), some (.int k), some (.int many), some (.int c), x, none]) trivial ⟨_, _, rfl⟩ ?_ ?_
          · rintro i σ' hi ⟨x, c, rfl⟩
            walk_at "go"
            exact ⟨_, _, rfl⟩
          · rintro σ' ⟨x, c, rfl⟩
            walk_at "go"
            exact fin _
        · intro _
          exact ⟨rfl, rfl⟩
      · intro _
        exact ⟨rfl, rfl⟩
    · rintro _ _ ⟨rfl, rfl⟩
      walk_at "go"
      exact fin _
/-! ### law_is_whole -/
def sp_law_is_whole (K : PySem.W.Frag) : Sp := fun vs H Q _ => ∃ a b : Int, vs = [.int a, .int b] ∧ a = b ∧ Q (.bl true) H
def t_law_is_whole (K : PySem.W.Frag) (E : XK) : TS :=
  (tRet (tAndV (tCB (rIsi K) (tCons (tVar 0) (tCons (tC (.ty "int")) tNil))) (tAndV (tNotV (tCB (rIsi K) (tCons (tVar 0) (tCons (tC (.ty "bool")) tNil)))) (tOp rEq (tVar 0) (tVar 1)))))
theorem len_law_is_whole {K : PySem.W.Frag} (vs : List V) (H : Hp) (Q : VK) (E : XK) : sp_law_is_whole K vs H Q E → vs.length = (["found", "due"] : List Str).length := by
  walk_at "len"

theorem pure_law_is_whole {K : PySem.W.Frag} (T : Kx K) (vs : List V) (H : Hp) (Q : VK) (E : XK) (h : sp_law_is_whole K vs H Q E) : t_law_is_whole K E { nx := fun _ H' => Q .non H', rt := Q } (start ["found", "due"] vs) H := by
  obtain ⟨a, _, rfl, rfl, q⟩ := h
  walk_at "go"
  rw [decide_eq_true rfl]
  exact q
/-! ### law_halves -/
def sp_law_halves (K : PySem.W.Frag) : Sp := fun vs H Q _ => ∃ L : Nat, vs = [.int L] ∧ 2 ≤ L ∧ L ≤ 26 ∧ Q (.int (Nat.log2 L)) H
def t_law_halves (K : PySem.W.Frag) (E : XK) : TS :=
  (tSeq (tAsg (tC (.int 0)) (gName 1))
    (tSeq (tAsg (tVar 0) (gName 2))
    (tSeq (tWhile (tTest (tOp rGtI (tVar 2) (tC (.int 1)))) (tSeq (tAsg (tOp rDivW (tVar 2) (tC (.int 2))) (gName 2))
    (tAsg (tOp rAddI (tVar 1) (tC (.int 1))) (gName 1))))
    (tRet (tVar 1)))))
theorem len_law_halves {K : PySem.W.Frag} (vs : List V) (H : Hp) (Q : VK) (E : XK) : sp_law_halves K vs H Q E → vs.length = (["letters"] : List Str).length := by
  walk_at "len"

theorem pure_law_halves {K : PySem.W.Frag} (T : Kx K) (vs : List V) (H : Hp) (Q : VK) (E : XK) (h : sp_law_halves K vs H Q E) : t_law_halves K E { nx := fun _ H' => Q .non H', rt := Q } (start ["letters", "power", "worth"] vs) H := by
  obtain ⟨L, rfl, hL, hL2, q⟩ := h
  walk_at "go"
  refine ⟨fun μ σ' H' => ∃ x p : Nat, 1 ≤ x ∧ p + Nat.log2 x = Nat.log2 L ∧ μ = x ∧ H' = H ∧ σ' = [some (.int L), some (.int p), some (.int x)], ⟨_, L, 0, by omega, by omega, rfl, rfl, rfl⟩, ?_⟩
  rintro μ σ' _ ⟨x, p, hx, hp, hμ, rfl, rfl⟩
  walk_at "go"
  refine iteD (fun c => ?_) fun c => ?_
  · have e : Nat.log2 x = Nat.log2 (x / 2) + 1 := by
      rw [Nat.log2_def, if_pos (by omega)]
    refine ⟨_, fun _ _ z => z, ?_⟩
    walk_at "go"
    exact ⟨x / 2, by omega, x / 2, p + 1, by omega, by omega, rfl, rfl, rfl⟩
  · have e : x = 1 := by omega
    subst e
    rw [show p = Nat.log2 L by rw [← hp]; rfl]
    walk_at "go"
    exact q
/-! ### law_end -/
def sp_law_end (K : PySem.W.Frag) : Sp := fun vs H Q _ => ∃ (L n f : Int), vs = [.int L, .int n, .int f] ∧ 2 ≤ L ∧ L ≤ 26 ∧ Q (.int (endI L n f)) H
def t_law_end (K : PySem.W.Frag) (E : XK) : TS :=
  (tSeq (tIfS (tTest (tOp rLtI (tVar 1) (tOp rAddI (tVar 2) (tC (.int 2)))))
    (tRet (tC (.int 1)))
    tNext)
    (tRet (tOp rAddI (tOp rDivW (tOp rSubI (tOp rSubI (tVar 1) (tVar 2)) (tC (.int 2))) (tOp rSubI (tVar 0) (tC (.int 1)))) (tC (.int 2)))))
theorem len_law_end {K : PySem.W.Frag} (vs : List V) (H : Hp) (Q : VK) (E : XK) : sp_law_end K vs H Q E → vs.length = (["letters", "number", "left"] : List Str).length := by
  walk_at "len"

theorem pure_law_end {K : PySem.W.Frag} (T : Kx K) (vs : List V) (H : Hp) (Q : VK) (E : XK) (h : sp_law_end K vs H Q E) : t_law_end K E { nx := fun _ H' => Q .non H', rt := Q } (start ["letters", "number", "left"] vs) H := by
  obtain ⟨L, n, f, rfl, hL, hL2, q⟩ := h
  unfold endI at q
  walk_at "go"
  refine iteD (fun c => ?_) fun c => ?_
  · rw [if_pos (by omega)] at q
    walk_at "go"
    exact q
  · rw [if_neg (by omega), Int.add_comm 2, show n - 2 - f = n - f - 2 by omega] at q
    walk_at "go"
    exact q
/-! ### law -/

def t_law (K : PySem.W.Frag) (E : XK) : TS :=
  (tSeq (tFor (iRng2 (tCons (tC (.int 2)) (tCons (tC (.int 27)) tNil))) (gName 1)
    (tSeq (tAsg (tOp rAddI (tC (.int 1)) (tOp rDivW (tOp rSubI (tVar 1) (tC (.int 2))) (tC (.int 2)))) (gName 2))
    (tFor (iRng1 (tCons (tC (.int 3)) tNil)) (gName 3)
    (tMeet (tAsg (tIf (tTest (tOp rGtI (tCB (rLenQ K) (tCons (tVar 0) tNil)) (tC (.int 0)))) (tOp (rIxL K) (tVar 0) (tOp rModI (tOp rAddI (tVar 1) (tVar 3)) (tCB (rLenQ K) (tCons (tVar 0) tNil)))) (tC (.int 0))) (gName 4))
    (tSeq (tAsg (tOp rModI (tVar 4) (tOp rPowI (tC (.int 10)) (tC (.int 59)))) (gName 5))
    (tSeq (tAsg (tTrimE (tOp (rIxL K) (tLst (tCons (tCall (sp_law_draw K) [] E (tCons (tVar 0) (tCons (tOp rAddI (tVar 1) (tOp rMulW (tC (.int 40)) (tVar 3))) (tCons (tC (.int 70)) tNil)))) (tCons (tVar 5) (tCons (tVar 3) tNil)))) (tCall (sp_law_draw K) [] E (tCons (tVar 0) (tCons (tOp rAddI (tOp rAddI (tC (.int 200)) (tVar 1)) (tOp rMulW (tC (.int 40)) (tVar 3))) (tCons (tC (.int 3)) tNil)))))) (gName 6))
    (tSeq (tAsg (tCall (sp_law_halves K) [] E (tCons (tVar 1) tNil)) (gName 7))
    (tSeq (tAsg (tCB rMin2 (tCons (tVar 6) (tCons (tC (.int 1)) tNil))) (gName 8))
    (tMeet (tIfS (tTest (tOp rGtI (tVar 6) (tC (.int 1))))
    (tAsg (tOp rAddI (tC (.int 2)) (tOp rDivW (tOp rSubI (tVar 6) (tC (.int 2))) (tVar 7))) (gName 8))
    tNext)
    (tSeq (tIfS (tOr (tNot (tB (tCall (sp_law_is_whole K) [] E (tCons (tCall (sp_halves K) [] E (tCons (tVar 1) tNil)) (tCons (tVar 7) tNil))))) (tNot (tB (tCall (sp_law_is_whole K) [] E (tCons (tCall (sp_most_long K) [] E (tCons (tVar 1) (tCons (tVar 6) tNil))) (tCons (tVar 8) tNil))))))
    (tRet (tC (.bl false)))
    tNext)
    (tSeq (tAsg (tOp rAddI (tVar 6) (tC (.int 1))) (gName 6))
    (tSeq (tIfS (tNot (tB (tCall (sp_law_is_whole K) [] E (tCons (tCall (sp_last_long K) [] E (tCons (tVar 1) (tCons (tVar 6) tNil))) (tCons (tCall (sp_law_end K) [] E (tCons (tVar 1) (tCons (tVar 6) (tCons (tOp rSubI (tOp rSubI (tVar 1) (tC (.int 1))) (tVar 2)) tNil)))) tNil)))))
    (tRet (tC (.bl false)))
    tNext)
    (tIfS (tNot (tB (tCall (sp_law_is_whole K) [] E (tCons (tCall (sp_first_long K) [] E (tCons (tVar 1) (tCons (tVar 6) tNil))) (tCons (tCall (sp_law_end K) [] E (tCons (tVar 1) (tCons (tVar 6) (tCons (tOp rSubI (tVar 2) (tC (.int 1))) tNil)))) tNil)))))
    (tRet (tC (.bl false)))
    tNext)))))))))))))
    (tRet (tC (.bl true))))
theorem len_law {K : PySem.W.Frag} (vs : List V) (H : Hp) (Q : VK) (E : XK) : sp_law K vs H Q E → vs.length = (["script"] : List Str).length := by
  walk_at "len"

def IntGe (v : V) : Prop := ∃ n : Int, v = .int n ∧ 0 ≤ n
theorem pure_law {K : PySem.W.Frag} (T : Kx K) (vs : List V) (H : Hp) (Q : VK) (E : XK) (h : sp_law K vs H Q E) : t_law K E { nx := fun _ H' => Q .non H', rt := Q } (start ["script", "letters", "middle", "k", "cell", "far", "number", "half", "due"] vs) H := by
  obtain ⟨a, ns, rfl, hS, hl, hO, q⟩ := h
  have hC := clo_only hO
  walk_at "go"
  refine for_fix walk_rangeF (fun i σ' => ∃ x1 x2 x3 x4 x5 x6 x7 x8, σ' = [some (.ref a), x1, x2, x3, x4, x5, x6, x7, x8]) trivial ⟨_, _, _, _, _, _, _, _, rfl⟩ ?_ ?_
  · rintro i σ' hi ⟨x1, x2, x3, x4, x5, x6, x7, x8, rfl⟩
    have hi : i < 25 := hi
    obtain ⟨L, hL, hL1, hL2⟩ : ∃ L : Nat, (2 : Int) + (i : Int) = (L : Int) ∧ 2 ≤ L ∧ L ≤ 26 := ⟨2 + i, by omega, by omega, by omega⟩
    rw [hL]
    walk_at "go"
    refine for_fix walk_range1 (fun j σ' => ∃ x3 x4 x5 x6 x7 x8, σ' = [some (.ref a), some (.int L), some (.int (1 + ((L : Int) - 2) / 2)), x3, x4, x5, x6, x7, x8]) trivial ⟨_, _, _, _, _, _, rfl⟩ ?_ ?_
    · rintro j σ' hj ⟨x3, x4, x5, x6, x7, x8, rfl⟩
      have hj : j < 3 := hj
      walk_at "go"
      refine meet_fix (fun σ' => ∃ cell x5 x6 x7 x8, σ' = [some (.ref a), some (.int L), some (.int (1 + ((L : Int) - 2) / 2)), some (.int (j : Int)), some (.int cell), x5, x6, x7, x8]) ?_ ?_
      · walk_at "go"
        walk_at "if"
        · intro c1
          rw [List.length_map] at c1
          obtain ⟨_, hx, n, rfl⟩ := pick (xs := ns.map V.int) (fun v => ∃ n : Int, v = .int n) (e := ((L : Int) + j) % (ns.map V.int).length) (Int.emod_nonneg _ (by rw [List.length_map]; omega)) (Int.emod_lt_of_pos _ (by rw [List.length_map]; omega)) (fun x hx => by
            obtain ⟨n, _, rfl⟩ := List.mem_map.mp hx
            exact ⟨n, rfl⟩)
          have hl9 := List.length_map (f := V.int) (as := ns)
          walk_at "go"
          exact ⟨_, _, _, _, _, rfl⟩
        · intro _
          exact ⟨rfl, _, _, _, _, _, rfl⟩
      · rintro _ ⟨cell, x5, x6, x7, x8, rfl⟩
        walk_at "go"
        refine ⟨show (0 : Int) < 10 ^ Int.toNat 59 by decide, ?_⟩
        walk_at "go"
        walk_at "draw"
        intro d1 d10 d11
        walk_at "go"
        intro p1 hp1
        walk_at "go"
        walk_at "draw"
        intro d2 d20 d21
        obtain ⟨_, hat, N, rfl, hN⟩ := pick (xs := [.int d1, .int (cell % 10 ^ Int.toNat 59), .int (j : Int)]) IntGe d20 (by simpa using d21)
          (all1 ⟨_, rfl, d10⟩ (all1 ⟨_, rfl, Int.emod_nonneg _ (by decide)⟩ (all1 ⟨_, rfl, by omega⟩ all0)))
        have hSp := sqL_at (K := K) (H := H) (p := p1) (xs := [.int d1, .int (cell % 10 ^ Int.toNat 59), .int (j : Int)])
        walk_at "go"
        have hlog := log_pos hL1
        have hlog2 := log_le hL1 hL2
        refine meet_fix (fun σ' => σ' = [some (.ref a), some (.int L), some (.int (1 + ((L : Int) - 2) / 2)), some (.int (j : Int)), some (.int cell), some (.int (cell % 10 ^ Int.toNat 59)), some (.int N), some (.int (Nat.log2 L)), some (.int (mostI L N))]) ?_ ?_
        · unfold mostI
          walk_at "go"
          refine iteD (fun c => ?_) fun c => ?_
          · walk_at "go"
            rw [if_neg (show ¬ N < 2 by omega)]
            rfl
          · rw [if_neg (show ¬ 1 < N by omega), if_pos (show N < 2 by omega)]
            exact ⟨rfl, rfl⟩
        · rintro _ rfl
          walk_at "go"
          refine ⟨congrArg (endI L (N + 1)) (by omega), ?_⟩
          walk_at "go"
          refine ⟨congrArg (endI L (N + 1)) (by omega), ?_⟩
          exact ⟨_, rfl, rfl, _, _, _, _, _, _, rfl⟩
    · rintro σ' ⟨x3, x4, x5, x6, x7, x8, rfl⟩
      exact ⟨rfl, _, _, _, _, _, _, _, _, rfl⟩
  · rintro σ' ⟨x1, x2, x3, x4, x5, x6, x7, x8, rfl⟩
    exact q _
end Sm
namespace Sm
open PySem PySem.Spec PyProof.Rows L2
def top (i : Nat) : Stmt := PySem.Challenge.pw_shelfmark_k35_growth_told.main.body.getD i (.Pass ⟨0, 0, 0, 0⟩)
abbrev s_halves : Stmt := top 1
theorem sc_halves : FnScope ["letters", "power", "worth"] ["letters"] (defScope s_halves) := ⟨rfl, rfl, rfl, by decide +kernel, rfl, by decide +kernel, by decide +kernel⟩
abbrev s_most_long : Stmt := top 2
theorem sc_most_long : FnScope ["letters", "many"] ["letters", "many"] (defScope s_most_long) := ⟨rfl, rfl, rfl, by decide +kernel, rfl, by decide +kernel, by decide +kernel⟩
abbrev s_end_long : Stmt := top 3
theorem sc_end_long : FnScope ["letters", "number", "free"] ["letters", "number", "free"] (defScope s_end_long) := ⟨rfl, rfl, rfl, by decide +kernel, rfl, by decide +kernel, by decide +kernel⟩
abbrev s_last_long : Stmt := top 4
theorem sc_last_long : FnScope ["letters", "number"] ["letters", "number"] (defScope s_last_long) := ⟨rfl, rfl, rfl, by decide +kernel, rfl, by decide +kernel, by decide +kernel⟩
abbrev s_first_long : Stmt := top 5
theorem sc_first_long : FnScope ["letters", "number"] ["letters", "number"] (defScope s_first_long) := ⟨rfl, rfl, rfl, by decide +kernel, rfl, by decide +kernel, by decide +kernel⟩
abbrev s_law_draw : Stmt := top 7
theorem sc_law_draw : FnScope ["script", "k", "many", "cell", "j", "seed"] ["script", "k", "many"] (defScope s_law_draw) := ⟨rfl, rfl, rfl, by decide +kernel, rfl, by decide +kernel, by decide +kernel⟩
abbrev s_law_is_whole : Stmt := top 8
theorem sc_law_is_whole : FnScope ["found", "due"] ["found", "due"] (defScope s_law_is_whole) := ⟨rfl, rfl, rfl, by decide +kernel, rfl, by decide +kernel, by decide +kernel⟩
abbrev s_law_halves : Stmt := top 9
theorem sc_law_halves : FnScope ["letters", "power", "worth"] ["letters"] (defScope s_law_halves) := ⟨rfl, rfl, rfl, by decide +kernel, rfl, by decide +kernel, by decide +kernel⟩
abbrev s_law_end : Stmt := top 10
theorem sc_law_end : FnScope ["letters", "number", "left"] ["letters", "number", "left"] (defScope s_law_end) := ⟨rfl, rfl, rfl, by decide +kernel, rfl, by decide +kernel, by decide +kernel⟩
abbrev s_law : Stmt := top 11
theorem sc_law : FnScope ["script", "letters", "middle", "k", "cell", "far", "number", "half", "due"] ["script"] (defScope s_law) := ⟨rfl, rfl, rfl, by decide +kernel, rfl, by decide +kernel, by decide +kernel⟩
structure Tx (K : PySem.W.Frag) (mg : Str → Option Value) : Prop where
  n_bool : mg "bool" = none
  n_int : mg "int" = none
  n_isinstance : mg "isinstance" = none
  n_len : mg "len" = none
  n_min : mg "min" = none
  n_range : mg "range" = none
  kx : Kx K
section
variable {P : Program} {w : World} {K : PySem.W.Frag} {mg : Str → Option Value} {base : Heap}
theorem ok_halves {f : Addr} {fd : FuncData} (F : FunD K "halves" "halves" (defArgs s_halves) (defBody s_halves) (defScope s_halves) [] [] f fd) (T : Tx K mg) : FnOk P w K mg base (L2.CX P w) 1 f fd ["letters"] (sp_halves K) := by
  refine F.ok sc_halves len_halves (fun cdv A outer s H vs Q E hr h => ⟨t_halves K E, ?_, pure_halves T.kx vs H Q E h⟩)
  have nd := sc_halves.nd
  have hu := hu_of hr
  have htk : Takes (cxOf (L2.CX P w) P w K mg base ["letters", "power", "worth"] "halves" (defScope s_halves) f cdv A outer s H E) (fun c d _ H => E c d H) := takes_of rfl rfl rfl rfl
  have hpx : Passes (L2.CX P w) (cxOf (L2.CX P w) P w K mg base ["letters", "power", "worth"] "halves" (defScope s_halves) f cdv A outer s H E) E := passes_call htk fun _ _ _ _ z => z
  have hps : PassesOwn (model P w) (A.deeper (envOfC "halves" (defScope s_halves) s.heap.objs.size f cdv)) (envOfC "halves" (defScope s_halves) s.heap.objs.size f cdv) (cxOf (L2.CX P w) P w K mg base ["letters", "power", "worth"] "halves" (defScope s_halves) f cdv A outer s H E).xe := passes_of (X := cxOf (L2.CX P w) P w K mg base ["letters", "power", "worth"] "halves" (defScope s_halves) f cdv A outer s H E) rfl
  exact (pss_cons (ps_set (i := 1) nd rfl (by first | exact Or.inl rfl | exact Or.inr rfl) pe_int)
    (pss_cons (ps_set (i := 2) nd rfl (by first | exact Or.inl rfl | exact Or.inr rfl) pe_int)
    (pss_cons (ps_while hps (pt_cmpR op_le (pv 2) (pv 0) (nomark _)) (pss_cons (ps_set (i := 1) nd rfl (by first | exact Or.inl rfl | exact Or.inr rfl) (pe_op op_add (pv 1) pe_int))
    (pss_one (ps_set (i := 2) nd rfl (by first | exact Or.inl rfl | exact Or.inr rfl) (pe_op op_mulW (pv 2) pe_int)))))
    (pss_one (ps_ret (pv 1))))))
theorem ok_most_long {f : Addr} {fd : FuncData} (F : FunD K "most_long" "most_long" (defArgs s_most_long) (defBody s_most_long) (defScope s_most_long) [] [] f fd) (T : Tx K mg) (G_halves : FnG P w K mg base (L2.CX P w) "halves" ["letters"] 1 (sp_halves K)) : FnOk P w K mg base (L2.CX P w) 2 f fd ["letters", "many"] (sp_most_long K) := by
  refine F.ok sc_most_long len_most_long (fun cdv A outer s H vs Q E hr h => ⟨t_most_long K E, ?_, pure_most_long T.kx vs H Q E h⟩)
  have nd := sc_most_long.nd
  have hu := hu_of hr
  have htk : Takes (cxOf (L2.CX P w) P w K mg base ["letters", "many"] "most_long" (defScope s_most_long) f cdv A outer s H E) (fun c d _ H => E c d H) := takes_of rfl rfl rfl rfl
  have hpx : Passes (L2.CX P w) (cxOf (L2.CX P w) P w K mg base ["letters", "many"] "most_long" (defScope s_most_long) f cdv A outer s H E) E := passes_call htk fun _ _ _ _ z => z
  have hps : PassesOwn (model P w) (A.deeper (envOfC "most_long" (defScope s_most_long) s.heap.objs.size f cdv)) (envOfC "most_long" (defScope s_most_long) s.heap.objs.size f cdv) (cxOf (L2.CX P w) P w K mg base ["letters", "many"] "most_long" (defScope s_most_long) f cdv A outer s H E).xe := passes_of (X := cxOf (L2.CX P w) P w K mg base ["letters", "many"] "most_long" (defScope s_most_long) f cdv A outer s H E) rfl
  exact (pss_cons (ps_if (pt_cmpR op_lt (pv 1) pe_int (nomark _))
    (pss_one (ps_ret (pv 1)))
    pss_nil)
    (pss_one (ps_ret (pe_op op_add pe_int (pe_op op_fdivW (pe_op op_sub (pv 1) pe_int) (pe_G G_halves hr (by decide) rfl hpx (pa_cons (pv 0) pa_nil)))))))
theorem ok_end_long {f : Addr} {fd : FuncData} (F : FunD K "end_long" "end_long" (defArgs s_end_long) (defBody s_end_long) (defScope s_end_long) [] [] f fd) (T : Tx K mg) : FnOk P w K mg base (L2.CX P w) 1 f fd ["letters", "number", "free"] (sp_end_long K) := by
  refine F.ok sc_end_long len_end_long (fun cdv A outer s H vs Q E hr h => ⟨t_end_long K E, ?_, pure_end_long T.kx vs H Q E h⟩)
  have nd := sc_end_long.nd
  have hu := hu_of hr
  have htk : Takes (cxOf (L2.CX P w) P w K mg base ["letters", "number", "free"] "end_long" (defScope s_end_long) f cdv A outer s H E) (fun c d _ H => E c d H) := takes_of rfl rfl rfl rfl
  have hpx : Passes (L2.CX P w) (cxOf (L2.CX P w) P w K mg base ["letters", "number", "free"] "end_long" (defScope s_end_long) f cdv A outer s H E) E := passes_call htk fun _ _ _ _ z => z
  have hps : PassesOwn (model P w) (A.deeper (envOfC "end_long" (defScope s_end_long) s.heap.objs.size f cdv)) (envOfC "end_long" (defScope s_end_long) s.heap.objs.size f cdv) (cxOf (L2.CX P w) P w K mg base ["letters", "number", "free"] "end_long" (defScope s_end_long) f cdv A outer s H E).xe := passes_of (X := cxOf (L2.CX P w) P w K mg base ["letters", "number", "free"] "end_long" (defScope s_end_long) f cdv A outer s H E) rfl
  exact (pss_cons (ps_if (pt_cmpR op_le (pv 1) (pe_op op_add pe_int (pv 2)) (nomark _))
    (pss_one (ps_ret pe_int))
    pss_nil)
    (pss_one (ps_ret (pe_op op_add pe_int (pe_op op_fdivW (pe_op op_sub (pe_op op_sub (pv 1) pe_int) (pv 2)) (pe_op op_sub (pv 0) pe_int))))))
theorem ok_last_long {f : Addr} {fd : FuncData} (F : FunD K "last_long" "last_long" (defArgs s_last_long) (defBody s_last_long) (defScope s_last_long) [] [] f fd) (T : Tx K mg) (G_end_long : FnG P w K mg base (L2.CX P w) "end_long" ["letters", "number", "free"] 1 (sp_end_long K)) : FnOk P w K mg base (L2.CX P w) 2 f fd ["letters", "number"] (sp_last_long K) := by
  refine F.ok sc_last_long len_last_long (fun cdv A outer s H vs Q E hr h => ⟨t_last_long K E, ?_, pure_last_long T.kx vs H Q E h⟩)
  have nd := sc_last_long.nd
  have hu := hu_of hr
  have htk : Takes (cxOf (L2.CX P w) P w K mg base ["letters", "number"] "last_long" (defScope s_last_long) f cdv A outer s H E) (fun c d _ H => E c d H) := takes_of rfl rfl rfl rfl
  have hpx : Passes (L2.CX P w) (cxOf (L2.CX P w) P w K mg base ["letters", "number"] "last_long" (defScope s_last_long) f cdv A outer s H E) E := passes_call htk fun _ _ _ _ z => z
  have hps : PassesOwn (model P w) (A.deeper (envOfC "last_long" (defScope s_last_long) s.heap.objs.size f cdv)) (envOfC "last_long" (defScope s_last_long) s.heap.objs.size f cdv) (cxOf (L2.CX P w) P w K mg base ["letters", "number"] "last_long" (defScope s_last_long) f cdv A outer s H E).xe := passes_of (X := cxOf (L2.CX P w) P w K mg base ["letters", "number"] "last_long" (defScope s_last_long) f cdv A outer s H E) rfl
  exact (pss_one (ps_ret (pe_G G_end_long hr (by decide) rfl hpx (pa_cons (pv 0) (pa_cons (pv 1) (pa_cons (pe_op op_fdivW (pe_op op_sub (pv 0) pe_int) pe_int) pa_nil))))))
theorem ok_first_long {f : Addr} {fd : FuncData} (F : FunD K "first_long" "first_long" (defArgs s_first_long) (defBody s_first_long) (defScope s_first_long) [] [] f fd) (T : Tx K mg) (G_end_long : FnG P w K mg base (L2.CX P w) "end_long" ["letters", "number", "free"] 1 (sp_end_long K)) : FnOk P w K mg base (L2.CX P w) 2 f fd ["letters", "number"] (sp_first_long K) := by
  refine F.ok sc_first_long len_first_long (fun cdv A outer s H vs Q E hr h => ⟨t_first_long K E, ?_, pure_first_long T.kx vs H Q E h⟩)
  have nd := sc_first_long.nd
  have hu := hu_of hr
  have htk : Takes (cxOf (L2.CX P w) P w K mg base ["letters", "number"] "first_long" (defScope s_first_long) f cdv A outer s H E) (fun c d _ H => E c d H) := takes_of rfl rfl rfl rfl
  have hpx : Passes (L2.CX P w) (cxOf (L2.CX P w) P w K mg base ["letters", "number"] "first_long" (defScope s_first_long) f cdv A outer s H E) E := passes_call htk fun _ _ _ _ z => z
  have hps : PassesOwn (model P w) (A.deeper (envOfC "first_long" (defScope s_first_long) s.heap.objs.size f cdv)) (envOfC "first_long" (defScope s_first_long) s.heap.objs.size f cdv) (cxOf (L2.CX P w) P w K mg base ["letters", "number"] "first_long" (defScope s_first_long) f cdv A outer s H E).xe := passes_of (X := cxOf (L2.CX P w) P w K mg base ["letters", "number"] "first_long" (defScope s_first_long) f cdv A outer s H E) rfl
  exact (pss_one (ps_ret (pe_G G_end_long hr (by decide) rfl hpx (pa_cons (pv 0) (pa_cons (pv 1) (pa_cons (pe_op op_fdivW (pe_op op_sub (pv 0) pe_int) pe_int) pa_nil))))))
theorem ok_law_draw {f : Addr} {fd : FuncData} (F : FunD K "_law_draw" "_law_draw" (defArgs s_law_draw) (defBody s_law_draw) (defScope s_law_draw) [] [] f fd) (T : Tx K mg) : FnOk P w K mg base (L2.CX P w) 1 f fd ["script", "k", "many"] (sp_law_draw K) := by
  refine F.ok sc_law_draw len_law_draw (fun cdv A outer s H vs Q E hr h => ⟨t_law_draw K E, ?_, pure_law_draw T.kx vs H Q E h⟩)
  have nd := sc_law_draw.nd
  have hu := hu_of hr
  have htk : Takes (cxOf (L2.CX P w) P w K mg base ["script", "k", "many", "cell", "j", "seed"] "_law_draw" (defScope s_law_draw) f cdv A outer s H E) (fun c d _ H => E c d H) := takes_of rfl rfl rfl rfl
  have hpx : Passes (L2.CX P w) (cxOf (L2.CX P w) P w K mg base ["script", "k", "many", "cell", "j", "seed"] "_law_draw" (defScope s_law_draw) f cdv A outer s H E) E := passes_call htk fun _ _ _ _ z => z
  have hps : PassesOwn (model P w) (A.deeper (envOfC "_law_draw" (defScope s_law_draw) s.heap.objs.size f cdv)) (envOfC "_law_draw" (defScope s_law_draw) s.heap.objs.size f cdv) (cxOf (L2.CX P w) P w K mg base ["script", "k", "many", "cell", "j", "seed"] "_law_draw" (defScope s_law_draw) f cdv A outer s H E).xe := passes_of (X := cxOf (L2.CX P w) P w K mg base ["script", "k", "many", "cell", "j", "seed"] "_law_draw" (defScope s_law_draw) f cdv A outer s H E) rfl
  exact (pss_meet (ps_set (i := 3) nd rfl (by first | exact Or.inl rfl | exact Or.inr rfl) (pe_ifExp (pt_cmpR op_gt (pe_callB call_len_seq (by rfl) T.n_len (by decide +kernel) (pa_cons (pv 0) pa_nil)) pe_int (nomark _)) (pe_ix ix_list (pv 0) (pe_op op_mod (pv 1) (pe_callB call_len_seq (by rfl) T.n_len (by decide +kernel) (pa_cons (pv 0) pa_nil))) (fun _ _ => rfl)) pe_int))
    (pss_meet (ps_if (PW.pt (pw_and (pt_cmpR op_gt (pe_callB call_len_seq (by rfl) T.n_len (by decide +kernel) (pa_cons (pv 0) pa_nil)) pe_int (nomark _)) (pw_and1 (pt_cmpR op_eq (pe_op op_mod (pe_op op_fdivW (pe_ix ix_list (pv 0) pe_int (fun _ _ => rfl)) pe_int) pe_int) pe_int (nomark _)))))
    (pss_cons (ps_for hps rfl (pi_range1 (by rfl) T.n_range (pa_cons (pe_op op_mod (pe_op op_fdivW (pv 1) (pe_callB call_len_seq (by rfl) T.n_len (by decide +kernel) (pa_cons (pv 0) pa_nil))) pe_int) pa_nil)) (pg_name (i := 4) nd rfl (by first | exact Or.inl rfl | exact Or.inr rfl))
    (pss_one (ps_set (i := 3) nd rfl (by first | exact Or.inl rfl | exact Or.inr rfl) (pe_op op_fdivW (pv 3) pe_int))))
    (pss_one (ps_ret (pe_op op_mod (pe_op op_mod (pv 3) pe_int) (pv 2)))))
    pss_nil)
    (pss_cons (ps_set (i := 5) nd rfl (by first | exact Or.inl rfl | exact Or.inr rfl) (pe_op op_add (pe_op op_add (pe_op op_mod (pv 3) pe_int) (pe_op op_mulW (pe_op op_mulW pe_int (pv 1)) (pv 1))) pe_int))
    (pss_one (ps_ret (pe_op op_mod (pe_op op_mod (pe_op op_mulW (pe_op op_mod (pe_op op_mulW (pv 5) pe_int) pe_int) pe_int) pe_int) (pv 2)))))))
theorem ok_law_is_whole {f : Addr} {fd : FuncData} (F : FunD K "_law_is_whole" "_law_is_whole" (defArgs s_law_is_whole) (defBody s_law_is_whole) (defScope s_law_is_whole) [] [] f fd) (T : Tx K mg) : FnOk P w K mg base (L2.CX P w) 1 f fd ["found", "due"] (sp_law_is_whole K) := by
  refine F.ok sc_law_is_whole len_law_is_whole (fun cdv A outer s H vs Q E hr h => ⟨t_law_is_whole K E, ?_, pure_law_is_whole T.kx vs H Q E h⟩)
  have nd := sc_law_is_whole.nd
  have hu := hu_of hr
  have htk : Takes (cxOf (L2.CX P w) P w K mg base ["found", "due"] "_law_is_whole" (defScope s_law_is_whole) f cdv A outer s H E) (fun c d _ H => E c d H) := takes_of rfl rfl rfl rfl
  have hpx : Passes (L2.CX P w) (cxOf (L2.CX P w) P w K mg base ["found", "due"] "_law_is_whole" (defScope s_law_is_whole) f cdv A outer s H E) E := passes_call htk fun _ _ _ _ z => z
  have hps : PassesOwn (model P w) (A.deeper (envOfC "_law_is_whole" (defScope s_law_is_whole) s.heap.objs.size f cdv)) (envOfC "_law_is_whole" (defScope s_law_is_whole) s.heap.objs.size f cdv) (cxOf (L2.CX P w) P w K mg base ["found", "due"] "_law_is_whole" (defScope s_law_is_whole) f cdv A outer s H E).xe := passes_of (X := cxOf (L2.CX P w) P w K mg base ["found", "due"] "_law_is_whole" (defScope s_law_is_whole) f cdv A outer s H E) rfl
  exact (pss_one (ps_ret (pe_and (pe_callB call_isi (by rfl) T.n_isinstance (by decide +kernel) (pa_cons (pv 0) (pa_cons (pe_bltn (by rfl) T.n_int (by decide +kernel) rfl) pa_nil))) (pe_and (pe_not (pe_callB call_isi (by rfl) T.n_isinstance (by decide +kernel) (pa_cons (pv 0) (pa_cons (pe_bltn (by rfl) T.n_bool (by decide +kernel) rfl) pa_nil)))) (pe_one (pe_cmpR op_eq (pv 0) (pv 1) (nomark _)))))))
theorem ok_law_halves {f : Addr} {fd : FuncData} (F : FunD K "_law_halves" "_law_halves" (defArgs s_law_halves) (defBody s_law_halves) (defScope s_law_halves) [] [] f fd) (T : Tx K mg) : FnOk P w K mg base (L2.CX P w) 1 f fd ["letters"] (sp_law_halves K) := by
  refine F.ok sc_law_halves len_law_halves (fun cdv A outer s H vs Q E hr h => ⟨t_law_halves K E, ?_, pure_law_halves T.kx vs H Q E h⟩)
  have nd := sc_law_halves.nd
  have hu := hu_of hr
  have htk : Takes (cxOf (L2.CX P w) P w K mg base ["letters", "power", "worth"] "_law_halves" (defScope s_law_halves) f cdv A outer s H E) (fun c d _ H => E c d H) := takes_of rfl rfl rfl rfl
  have hpx : Passes (L2.CX P w) (cxOf (L2.CX P w) P w K mg base ["letters", "power", "worth"] "_law_halves" (defScope s_law_halves) f cdv A outer s H E) E := passes_call htk fun _ _ _ _ z => z
  have hps : PassesOwn (model P w) (A.deeper (envOfC "_law_halves" (defScope s_law_halves) s.heap.objs.size f cdv)) (envOfC "_law_halves" (defScope s_law_halves) s.heap.objs.size f cdv) (cxOf (L2.CX P w) P w K mg base ["letters", "power", "worth"] "_law_halves" (defScope s_law_halves) f cdv A outer s H E).xe := passes_of (X := cxOf (L2.CX P w) P w K mg base ["letters", "power", "worth"] "_law_halves" (defScope s_law_halves) f cdv A outer s H E) rfl
  exact (pss_cons (ps_set (i := 1) nd rfl (by first | exact Or.inl rfl | exact Or.inr rfl) pe_int)
    (pss_cons (ps_set (i := 2) nd rfl (by first | exact Or.inl rfl | exact Or.inr rfl) (pv 0))
    (pss_cons (ps_while hps (pt_cmpR op_gt (pv 2) pe_int (nomark _)) (pss_cons (ps_set (i := 2) nd rfl (by first | exact Or.inl rfl | exact Or.inr rfl) (pe_op op_fdivW (pv 2) pe_int))
    (pss_one (ps_set (i := 1) nd rfl (by first | exact Or.inl rfl | exact Or.inr rfl) (pe_op op_add (pv 1) pe_int)))))
    (pss_one (ps_ret (pv 1))))))
theorem ok_law_end {f : Addr} {fd : FuncData} (F : FunD K "_law_end" "_law_end" (defArgs s_law_end) (defBody s_law_end) (defScope s_law_end) [] [] f fd) (T : Tx K mg) : FnOk P w K mg base (L2.CX P w) 1 f fd ["letters", "number", "left"] (sp_law_end K) := by
  refine F.ok sc_law_end len_law_end (fun cdv A outer s H vs Q E hr h => ⟨t_law_end K E, ?_, pure_law_end T.kx vs H Q E h⟩)
  have nd := sc_law_end.nd
  have hu := hu_of hr
  have htk : Takes (cxOf (L2.CX P w) P w K mg base ["letters", "number", "left"] "_law_end" (defScope s_law_end) f cdv A outer s H E) (fun c d _ H => E c d H) := takes_of rfl rfl rfl rfl
  have hpx : Passes (L2.CX P w) (cxOf (L2.CX P w) P w K mg base ["letters", "number", "left"] "_law_end" (defScope s_law_end) f cdv A outer s H E) E := passes_call htk fun _ _ _ _ z => z
  have hps : PassesOwn (model P w) (A.deeper (envOfC "_law_end" (defScope s_law_end) s.heap.objs.size f cdv)) (envOfC "_law_end" (defScope s_law_end) s.heap.objs.size f cdv) (cxOf (L2.CX P w) P w K mg base ["letters", "number", "left"] "_law_end" (defScope s_law_end) f cdv A outer s H E).xe := passes_of (X := cxOf (L2.CX P w) P w K mg base ["letters", "number", "left"] "_law_end" (defScope s_law_end) f cdv A outer s H E) rfl
  exact (pss_cons (ps_if (pt_cmpR op_lt (pv 1) (pe_op op_add (pv 2) pe_int) (nomark _))
    (pss_one (ps_ret pe_int))
    pss_nil)
    (pss_one (ps_ret (pe_op op_add (pe_op op_fdivW (pe_op op_sub (pe_op op_sub (pv 1) (pv 2)) pe_int) (pe_op op_sub (pv 0) pe_int)) pe_int))))
theorem ok_law {f : Addr} {fd : FuncData} (F : FunD K "law" "law" (defArgs s_law) (defBody s_law) (defScope s_law) [] [] f fd) (T : Tx K mg) (G_law_draw : FnG P w K mg base (L2.CX P w) "_law_draw" ["script", "k", "many"] 1 (sp_law_draw K)) (G_law_halves : FnG P w K mg base (L2.CX P w) "_law_halves" ["letters"] 1 (sp_law_halves K)) (G_halves : FnG P w K mg base (L2.CX P w) "halves" ["letters"] 1 (sp_halves K)) (G_law_is_whole : FnG P w K mg base (L2.CX P w) "_law_is_whole" ["found", "due"] 1 (sp_law_is_whole K)) (G_most_long : FnG P w K mg base (L2.CX P w) "most_long" ["letters", "many"] 2 (sp_most_long K)) (G_law_end : FnG P w K mg base (L2.CX P w) "_law_end" ["letters", "number", "left"] 1 (sp_law_end K)) (G_last_long : FnG P w K mg base (L2.CX P w) "last_long" ["letters", "number"] 2 (sp_last_long K)) (G_first_long : FnG P w K mg base (L2.CX P w) "first_long" ["letters", "number"] 2 (sp_first_long K)) : FnOk P w K mg base (L2.CX P w) 3 f fd ["script"] (sp_law K) := by
  refine F.ok sc_law len_law (fun cdv A outer s H vs Q E hr h => ⟨t_law K E, ?_, pure_law T.kx vs H Q E h⟩)
  have nd := sc_law.nd
  have hu := hu_of hr
  have htk : Takes (cxOf (L2.CX P w) P w K mg base ["script", "letters", "middle", "k", "cell", "far", "number", "half", "due"] "law" (defScope s_law) f cdv A outer s H E) (fun c d _ H => E c d H) := takes_of rfl rfl rfl rfl
  have hpx : Passes (L2.CX P w) (cxOf (L2.CX P w) P w K mg base ["script", "letters", "middle", "k", "cell", "far", "number", "half", "due"] "law" (defScope s_law) f cdv A outer s H E) E := passes_call htk fun _ _ _ _ z => z
  have hps : PassesOwn (model P w) (A.deeper (envOfC "law" (defScope s_law) s.heap.objs.size f cdv)) (envOfC "law" (defScope s_law) s.heap.objs.size f cdv) (cxOf (L2.CX P w) P w K mg base ["script", "letters", "middle", "k", "cell", "far", "number", "half", "due"] "law" (defScope s_law) f cdv A outer s H E).xe := passes_of (X := cxOf (L2.CX P w) P w K mg base ["script", "letters", "middle", "k", "cell", "far", "number", "half", "due"] "law" (defScope s_law) f cdv A outer s H E) rfl
  exact (pss_cons (ps_for hps rfl (pi_range2 (by rfl) T.n_range (pa_cons pe_int (pa_cons pe_int pa_nil))) (pg_name (i := 1) nd rfl (by first | exact Or.inl rfl | exact Or.inr rfl))
    (pss_cons (ps_set (i := 2) nd rfl (by first | exact Or.inl rfl | exact Or.inr rfl) (pe_op op_add pe_int (pe_op op_fdivW (pe_op op_sub (pv 1) pe_int) pe_int)))
    (pss_one (ps_for hps rfl (pi_range1 (by rfl) T.n_range (pa_cons pe_int pa_nil)) (pg_name (i := 3) nd rfl (by first | exact Or.inl rfl | exact Or.inr rfl))
    (pss_meet (ps_set (i := 4) nd rfl (by first | exact Or.inl rfl | exact Or.inr rfl) (pe_ifExp (pt_cmpR op_gt (pe_callB call_len_seq (by rfl) T.n_len (by decide +kernel) (pa_cons (pv 0) pa_nil)) pe_int (nomark _)) (pe_ix ix_list (pv 0) (pe_op op_mod (pe_op op_add (pv 1) (pv 3)) (pe_callB call_len_seq (by rfl) T.n_len (by decide +kernel) (pa_cons (pv 0) pa_nil))) (fun _ _ => rfl)) pe_int))
    (pss_cons (ps_set (i := 5) nd rfl (by first | exact Or.inl rfl | exact Or.inr rfl) (pe_op op_mod (pv 4) (pe_op op_pow pe_int pe_int)))
    (pss_cons (ps_set (i := 6) nd rfl (by first | exact Or.inl rfl | exact Or.inr rfl) (pe_trim (pe_ix ix_list (pe_lst (pa_cons (pe_G G_law_draw hr (by decide) rfl hpx (pa_cons (pv 0) (pa_cons (pe_op op_add (pv 1) (pe_op op_mulW pe_int (pv 3))) (pa_cons pe_int pa_nil)))) (pa_cons (pv 5) (pa_cons (pv 3) pa_nil)))) (pe_G G_law_draw hr (by decide) rfl hpx (pa_cons (pv 0) (pa_cons (pe_op op_add (pe_op op_add pe_int (pv 1)) (pe_op op_mulW pe_int (pv 3))) (pa_cons pe_int pa_nil)))) (fun _ _ => rfl))))
    (pss_cons (ps_set (i := 7) nd rfl (by first | exact Or.inl rfl | exact Or.inr rfl) (pe_G G_law_halves hr (by decide) rfl hpx (pa_cons (pv 1) pa_nil)))
    (pss_cons (ps_set (i := 8) nd rfl (by first | exact Or.inl rfl | exact Or.inr rfl) (pe_callB (call_min2 rfl) (by rfl) T.n_min (by decide +kernel) (pa_cons (pv 6) (pa_cons pe_int pa_nil))))
    (pss_meet (ps_if (pt_cmpR op_gt (pv 6) pe_int (nomark _))
    (pss_one (ps_set (i := 8) nd rfl (by first | exact Or.inl rfl | exact Or.inr rfl) (pe_op op_add pe_int (pe_op op_fdivW (pe_op op_sub (pv 6) pe_int) (pv 7)))))
    pss_nil)
    (pss_cons (ps_if (PW.pt (pw_or (pt_not (pt_val (pe_G G_law_is_whole hr (by decide) rfl hpx (pa_cons (pe_G G_halves hr (by decide) rfl hpx (pa_cons (pv 1) pa_nil)) (pa_cons (pv 7) pa_nil))))) (pw_or1 (pt_not (pt_val (pe_G G_law_is_whole hr (by decide) rfl hpx (pa_cons (pe_G G_most_long hr (by decide) rfl hpx (pa_cons (pv 1) (pa_cons (pv 6) pa_nil))) (pa_cons (pv 8) pa_nil))))))))
    (pss_one (ps_ret pe_bl))
    pss_nil)
    (pss_cons (ps_set (i := 6) nd rfl (by first | exact Or.inl rfl | exact Or.inr rfl) (pe_op op_add (pv 6) pe_int))
    (pss_cons (ps_if (pt_not (pt_val (pe_G G_law_is_whole hr (by decide) rfl hpx (pa_cons (pe_G G_last_long hr (by decide) rfl hpx (pa_cons (pv 1) (pa_cons (pv 6) pa_nil))) (pa_cons (pe_G G_law_end hr (by decide) rfl hpx (pa_cons (pv 1) (pa_cons (pv 6) (pa_cons (pe_op op_sub (pe_op op_sub (pv 1) pe_int) (pv 2)) pa_nil)))) pa_nil)))))
    (pss_one (ps_ret pe_bl))
    pss_nil)
    (pss_one (ps_if (pt_not (pt_val (pe_G G_law_is_whole hr (by decide) rfl hpx (pa_cons (pe_G G_first_long hr (by decide) rfl hpx (pa_cons (pv 1) (pa_cons (pv 6) pa_nil))) (pa_cons (pe_G G_law_end hr (by decide) rfl hpx (pa_cons (pv 1) (pa_cons (pv 6) (pa_cons (pe_op op_sub (pv 2) pe_int) pa_nil)))) pa_nil)))))
    (pss_one (ps_ret pe_bl))
    pss_nil)))))))))))))))
    (pss_one (ps_ret pe_bl)))
end
end Sm
namespace Sm
open PySem PySem.Spec PyProof.Rows L2
def d_halves : He.DefD := ⟨("halves", none), "halves", "halves", defArgs s_halves, defBody s_halves, defScope s_halves, [], []⟩
def d_most_long : He.DefD := ⟨("most_long", none), "most_long", "most_long", defArgs s_most_long, defBody s_most_long, defScope s_most_long, [], []⟩
def d_end_long : He.DefD := ⟨("end_long", none), "end_long", "end_long", defArgs s_end_long, defBody s_end_long, defScope s_end_long, [], []⟩
def d_last_long : He.DefD := ⟨("last_long", none), "last_long", "last_long", defArgs s_last_long, defBody s_last_long, defScope s_last_long, [], []⟩
def d_first_long : He.DefD := ⟨("first_long", none), "first_long", "first_long", defArgs s_first_long, defBody s_first_long, defScope s_first_long, [], []⟩
def d_law_draw : He.DefD := ⟨("_law_draw", none), "_law_draw", "_law_draw", defArgs s_law_draw, defBody s_law_draw, defScope s_law_draw, [], []⟩
def d_law_is_whole : He.DefD := ⟨("_law_is_whole", none), "_law_is_whole", "_law_is_whole", defArgs s_law_is_whole, defBody s_law_is_whole, defScope s_law_is_whole, [], []⟩
def d_law_halves : He.DefD := ⟨("_law_halves", none), "_law_halves", "_law_halves", defArgs s_law_halves, defBody s_law_halves, defScope s_law_halves, [], []⟩
def d_law_end : He.DefD := ⟨("_law_end", none), "_law_end", "_law_end", defArgs s_law_end, defBody s_law_end, defScope s_law_end, [], []⟩
def d_law : He.DefD := ⟨("law", none), "law", "law", defArgs s_law, defBody s_law, defScope s_law, [], []⟩
def fn : List He.DefD := [d_halves, d_most_long, d_end_long, d_last_long, d_first_long, d_law_draw, d_law_is_whole, d_law_halves, d_law_end, d_law]
def fa : List He.Fa := [.free "bool", .free "int", .free "isinstance", .free "len", .free "min", .free "range", .glo "halves", .glo "most_long", .glo "end_long", .glo "last_long", .glo "first_long", .glo "_law_draw", .glo "_law_is_whole", .glo "_law_halves", .glo "_law_end", .glo "law"]
abbrev R : PySem.W.OpenRow := PySem.W.OpenLaw.row PySem.Challenge.rw_shelfmark_k35_growth_told
abbrev hk : PySem.W.Hook := He.hookD 4 fa fn
def ob (s : PySem.W.SharedT) : He.AlD := He.obsDG 4 fa fn (HandSHeadRun.getT s)
theorem ob_eq (s : PySem.W.SharedT) : ob s = hk.obs s.abs := He.obsDG_eq (HandSHeadRun.getT_eq s)
theorem run (w : World) : HandSHeadRun.RunEq R (PySem.W.view R.prog [11]) hk ob 8206 ["halves", "most_long", "end_long", "last_long", "first_long", "_law_draw", "_law_is_whole", "_law_halves", "_law_end"] w := by
  intro os
  kernel_rfl
theorem tx {w : World} {K : PySem.W.Frag} {h : Heap} {mg : Str → Option Value} (X : K.In h) (G : h.Ns mainGlobals mg) (c : He.SaysD fa fn K) : Tx K mg where
  n_bool := He.free_ok X G (c.fact 0 rfl)
  n_int := He.free_ok X G (c.fact 1 rfl)
  n_isinstance := He.free_ok X G (c.fact 2 rfl)
  n_len := He.free_ok X G (c.fact 3 rfl)
  n_min := He.free_ok X G (c.fact 4 rfl)
  n_range := He.free_ok X G (c.fact 5 rfl)
  kx := ⟨trivial⟩
theorem facts {P : Program} {w : World} {K : PySem.W.Frag} {h : Heap} {mg : Str → Option Value} {f : Addr} (X : K.In h) (G : h.Ns mainGlobals mg) (hfa : mg ("law" : Str) = some (.ref f)) (c : He.SaysD fa fn K) :
    ∃ fd : FuncData, (∀ (s : Shared) (v : Value), BindsTo s fd ⟨[v], []⟩ [("script", v)]) ∧ ∀ base : Heap, K.In base → base.Ns mainGlobals mg → FnOk P w K mg base (L2.CX P w) 3 f fd ["script"] (sp_law K) := by
  have T : Tx K mg := tx (w := w) X G c
  obtain ⟨fd_halves, F_halves⟩ := c.def_ 0 (d := d_halves) rfl
  obtain ⟨fd_most_long, F_most_long⟩ := c.def_ 1 (d := d_most_long) rfl
  obtain ⟨fd_end_long, F_end_long⟩ := c.def_ 2 (d := d_end_long) rfl
  obtain ⟨fd_last_long, F_last_long⟩ := c.def_ 3 (d := d_last_long) rfl
  obtain ⟨fd_first_long, F_first_long⟩ := c.def_ 4 (d := d_first_long) rfl
  obtain ⟨fd_law_draw, F_law_draw⟩ := c.def_ 5 (d := d_law_draw) rfl
  obtain ⟨fd_law_is_whole, F_law_is_whole⟩ := c.def_ 6 (d := d_law_is_whole) rfl
  obtain ⟨fd_law_halves, F_law_halves⟩ := c.def_ 7 (d := d_law_halves) rfl
  obtain ⟨fd_law_end, F_law_end⟩ := c.def_ 8 (d := d_law_end) rfl
  obtain ⟨fd_law, F_law⟩ := c.def_ 9 (d := d_law) rfl
  have e := hfa.symm.trans (He.glo_ok X G (c.fact 15 (f := .glo "law") rfl))
  cases e
  have b := FunD.bindsA (ps := ["script"]) F_law fun _ _ _ _ _ _ us hl => match us, hl with | [_], _ => rfl
  refine ⟨fd_law, fun s v => b s [v] rfl, fun base _ _ => ?_⟩
  have G_halves : FnG P w K mg base (L2.CX P w) "halves" ["letters"] 1 (sp_halves K) := ⟨⟨_, fd_halves, He.glo_ok X G (c.fact 6 (f := .glo "halves") rfl), F_halves.kp, F_halves.bindsN (fun _ _ _ _ _ _ us hl => match us, hl with | [_], _ => rfl), ok_halves F_halves T ⟩⟩
  have G_most_long : FnG P w K mg base (L2.CX P w) "most_long" ["letters", "many"] 2 (sp_most_long K) := ⟨⟨_, fd_most_long, He.glo_ok X G (c.fact 7 (f := .glo "most_long") rfl), F_most_long.kp, F_most_long.bindsN (fun _ _ _ _ _ _ us hl => match us, hl with | [_, _], _ => rfl), ok_most_long F_most_long T G_halves⟩⟩
  have G_end_long : FnG P w K mg base (L2.CX P w) "end_long" ["letters", "number", "free"] 1 (sp_end_long K) := ⟨⟨_, fd_end_long, He.glo_ok X G (c.fact 8 (f := .glo "end_long") rfl), F_end_long.kp, F_end_long.bindsN (fun _ _ _ _ _ _ us hl => match us, hl with | [_, _, _], _ => rfl), ok_end_long F_end_long T ⟩⟩
  have G_last_long : FnG P w K mg base (L2.CX P w) "last_long" ["letters", "number"] 2 (sp_last_long K) := ⟨⟨_, fd_last_long, He.glo_ok X G (c.fact 9 (f := .glo "last_long") rfl), F_last_long.kp, F_last_long.bindsN (fun _ _ _ _ _ _ us hl => match us, hl with | [_, _], _ => rfl), ok_last_long F_last_long T G_end_long⟩⟩
  have G_first_long : FnG P w K mg base (L2.CX P w) "first_long" ["letters", "number"] 2 (sp_first_long K) := ⟨⟨_, fd_first_long, He.glo_ok X G (c.fact 10 (f := .glo "first_long") rfl), F_first_long.kp, F_first_long.bindsN (fun _ _ _ _ _ _ us hl => match us, hl with | [_, _], _ => rfl), ok_first_long F_first_long T G_end_long⟩⟩
  have G_law_draw : FnG P w K mg base (L2.CX P w) "_law_draw" ["script", "k", "many"] 1 (sp_law_draw K) := ⟨⟨_, fd_law_draw, He.glo_ok X G (c.fact 11 (f := .glo "_law_draw") rfl), F_law_draw.kp, F_law_draw.bindsN (fun _ _ _ _ _ _ us hl => match us, hl with | [_, _, _], _ => rfl), ok_law_draw F_law_draw T ⟩⟩
  have G_law_is_whole : FnG P w K mg base (L2.CX P w) "_law_is_whole" ["found", "due"] 1 (sp_law_is_whole K) := ⟨⟨_, fd_law_is_whole, He.glo_ok X G (c.fact 12 (f := .glo "_law_is_whole") rfl), F_law_is_whole.kp, F_law_is_whole.bindsN (fun _ _ _ _ _ _ us hl => match us, hl with | [_, _], _ => rfl), ok_law_is_whole F_law_is_whole T ⟩⟩
  have G_law_halves : FnG P w K mg base (L2.CX P w) "_law_halves" ["letters"] 1 (sp_law_halves K) := ⟨⟨_, fd_law_halves, He.glo_ok X G (c.fact 13 (f := .glo "_law_halves") rfl), F_law_halves.kp, F_law_halves.bindsN (fun _ _ _ _ _ _ us hl => match us, hl with | [_], _ => rfl), ok_law_halves F_law_halves T ⟩⟩
  have G_law_end : FnG P w K mg base (L2.CX P w) "_law_end" ["letters", "number", "left"] 1 (sp_law_end K) := ⟨⟨_, fd_law_end, He.glo_ok X G (c.fact 14 (f := .glo "_law_end") rfl), F_law_end.kp, F_law_end.bindsN (fun _ _ _ _ _ _ us hl => match us, hl with | [_, _, _], _ => rfl), ok_law_end F_law_end T ⟩⟩
  exact ok_law F_law T G_law_draw G_law_halves G_halves G_law_is_whole G_most_long G_law_end G_last_long G_first_long
end Sm
open PySem PySem.W PySem.Calls PyProof.Rows
set_option maxRecDepth 100000 in
set_option maxHeartbeats 0 in
theorem PySem.Challenge.cw_shelfmark_k35_growth_told_holds : PySem.Challenge.rw_shelfmark_k35_growth_told.Holds := by
  w_on; o_law
  refine HandSHeadRun.head_any (r := OpenLaw.row PySem.Challenge.rw_shelfmark_k35_growth_told) (q := view (OpenLaw.row PySem.Challenge.rw_shelfmark_k35_growth_told).prog [11]) (H := Sm.hk) (ob := Sm.ob) (M := 8206) (loose := ["halves", "most_long", "end_long", "last_long", "first_long", "_law_draw", "_law_is_whole", "_law_halves", "_law_end"]) (d := HandSHeadRun.topDef (OpenLaw.row PySem.Challenge.rw_shelfmark_k35_growth_told).prog 11) (kwd := []) Sm.ob_eq
    (by kernel_rfl) (fun s => by kernel_rfl) Sm.run (by kernel_rfl) (by kernel_rfl) (by kernel_rfl) (by rfl) (by first | assumption | decide +kernel) (by decide +kernel) ⟨rfl, rfl, rfl, rfl, rfl, by decide +kernel⟩ ?hw ?hc
  case hw => w_witness2
  case hc =>
    refine Sm.walk_ofW (l := PySem.Challenge.rw_shelfmark_k35_growth_told) (n := 63) (k := 3) (x := "script") (CX := fun w => L2.CX (PySem.Challenge.rw_shelfmark_k35_growth_told).prog w) rfl (by decide) (by kernel_rfl) ⟨rfl, by decide, by decide⟩ ?F (fun _ _ _ _ _ z => Sm.cx_none z)
    case F =>
      intro w mg fa h Y G hmg0
      obtain ⟨K, KX, c⟩ := Y
      have hmg : mg ("law" : PySem.Str) = some (.ref fa) := by
        have e : (HandSHeadRun.topDef (OpenLaw.row PySem.Challenge.rw_shelfmark_k35_growth_told).prog 11).name = ("law" : PySem.Str) := by kernel_rfl
        rw [← e]
        exact hmg0
      obtain ⟨fd, hb, hF⟩ := Sm.facts (P := (PySem.Challenge.rw_shelfmark_k35_growth_told).prog) (w := w) KX G hmg c
      exact ⟨K, fd, Sm.sp_law K, KX, hb, fun H a ns hl hO hS => Sm.law_in hO hS hl, hF⟩
