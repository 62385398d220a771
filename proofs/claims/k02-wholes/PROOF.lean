import PyProof.Rows.All
import Wide.All
import OpenK.AllK
import Wide.FinOn
import HandS.ForMost
import HandS.ForExc
import HandS.Wide
import HandS.StrMore
import HandS.SortInts
import HandS.CallSlots
import HandS.Defaults
import HandS.HeadHook1
import HandS.Walk
import HandS.Codes
import HandS.IsInst
import HandS.Head0
import HandS.Head1
import HandS.Head2
import HandS.HeadEnd
import HandS.HeadHook2
import PySem.Challenge.RW_shelfmark_k02_wholes
set_option Elab.async false
set_option linter.all false
set_option maxRecDepth 100000
set_option maxHeartbeats 8000000
/-! SmBase: forgetting new objects (Trim), calls by promises (FnG), steps. -/
namespace Sm
open PySem PySem.Spec PyProof.Rows L2

/-! ### forgetting what is new -/
def okO (H : Hp) (a : Addr) : HO → Prop
  | .dT _ => False
  | .ins _ dx _ => H dx = some (.own a)
  | .frz _ u => okO H a u
  | _ => True
/-- each tracked instance's own dict is tracked, no dict with tuple keys -/
def Clo (H : Hp) : Prop := ∀ a o, H a = some o → okO H a o
structure Trim (H H1 H2 : Hp) : Prop where
  sub : ∀ a o, H2 a = some o → H1 a = some o
  tup : ∀ a xs, H a = some (.tup xs) → H2 a = some (.tup xs)
  frz : ∀ a o u, H a = some (.frz o u) → H2 a = some (.frz o u)
  tbl : ∀ a ps, H a = some (.tbl ps) → ∃ more, H2 a = some (.tbl (ps ++ more))
  clo : Clo H2
def Ex (H H' : Hp) : Prop := ∀ a o, H a = some o → H' a = some o
theorem Ex.refl (H : Hp) : Ex H H := fun _ _ h => h
theorem Ex.trans {H H1 H2 : Hp} (a : Ex H H1) (b : Ex H1 H2) : Ex H H2 := fun x o h => b x o (a x o h)
theorem Ex.new {H H' : Hp} {p : Addr} {o : HO} (e : Ex H H') (h : H p = none) : Ex H (upd H' p o) := fun a u ha => by
  rw [upd_ne (ne_of_none ha h)]
  exact e a u ha
theorem Ex.back {H H' : Hp} {p : Addr} (e : Ex H H') (h : H' p = none) : H p = none := by
  cases q : H p with
  | none => rfl
  | some o =>
    rw [e p o q] at h
    cases h
theorem Trim.back {H H' : Hp} (e : Ex H H') (c : Clo H) : Trim H H' H :=
  ⟨e, fun _ _ h => h, fun _ _ _ h => h, fun _ ps h => ⟨#[], by rw [h, Array.append_empty]⟩, c⟩
/-- one new object stays -/
theorem Trim.keep {H H' : Hp} {p : Addr} {o : HO} (e : Ex H H') (hp : H p = none) (h : H' p = some o) (c : Clo H) (ho : okO (upd H p o) p o) : Trim H H' (upd H p o) := by
  refine ⟨fun a u q => ?_, fun a xs q => ?_, fun a ob u q => ?_, fun a ps q => ⟨#[], ?_⟩, fun a u q => ?_⟩
  · by_cases ha : a = p
    · rw [ha, upd_same] at q; cases q; rw [ha]; exact h
    · rw [upd_ne ha] at q; exact e a u q
  · rw [upd_ne (ne_of_none q hp)]; exact q
  · rw [upd_ne (ne_of_none q hp)]; exact q
  · rw [upd_ne (ne_of_none q hp), q, Array.append_empty]
  · by_cases ha : a = p
    · rw [ha, upd_same] at q; cases q; rw [ha]; exact ho
    · rw [upd_ne ha] at q
      have z := c a u q
      clear q ha
      induction u with
      | dT _ => exact z
      | ins C dx fs =>
        have z' : H dx = some (.own a) := z
        show upd H p o dx = some (.own a)
        rw [upd_ne (ne_of_none z' hp)]; exact z'
      | frz ob v ih => exact ih z
      | _ => trivial
theorem okO_objOk {P : Program} {w : World} {H H1 : Hp} {h : Heap} {a : Addr} : ∀ {o : HO}, okO H a o → ObjOk P w H1 h a o → ObjOk P w H h a o := by
  intro o
  induction o with
  | ins C dx fs =>
    intro z x
    obtain ⟨_, x2, x3, x4, x5⟩ := x
    exact ⟨z, x2, x3, x4, x5⟩
  | dT _ => intro z; exact False.elim z
  | frz ob u ih =>
    intro z x
    obtain ⟨e, q⟩ := x
    exact ⟨e, ih z q⟩
  | _ => intro _ x; exact x
theorem hok_trim {P : Program} {w : World} {H H1 H2 : Hp} {h : Heap} (t : Trim H H1 H2) (x : HOk P w H1 h) : HOk P w H2 h := fun a o e => okO_objOk (t.clo a o e) (x a o (t.sub a o e))
theorem Trim.gone {H H1 H2 : Hp} (t : Trim H H1 H2) {a : Addr} (h : H1 a = none) : H2 a = none := by
  cases q : H2 a with
  | none => rfl
  | some o =>
    rw [t.sub a o q] at h
    cases h
section
variable {X : Cx} {pins : List (Addr × Obj)} {σ σ0 : L2.St} {H H1 H2 : Hp} {s s0 : Shared}
theorem inv_trim (I0 : Inv X pins σ0 H s0) (I : Inv X pins σ H1 s) (t : Trim H H1 H2) : Inv X pins σ H2 s where
  ok := I.ok
  os := I.os
  bare := I.bare
  base := ⟨fun b o e n hb hx => I.base.keep b o e n hb hx, fun b o e n hb hx => I.base.slot b o e n hb hx, fun b o e n hx => t.gone (I.base.free b o e n hx), I.base.there,
    fun b xs e => t.tup b xs (I0.base.tups b xs e), fun b o u e => t.frz b o u (I0.base.frzs b o u e), fun b ps e => by
      obtain ⟨m1, e1⟩ := I0.base.tbls b ps e
      obtain ⟨m2, e2⟩ := t.tbl b _ e1
      exact ⟨m1 ++ m2, by rw [e2, Array.append_assoc]⟩⟩
  loc := I.loc
  cell := I.cell
  free := t.gone I.free
  freeC := fun x c e => t.gone (I.freeC x c e)
  pin := fun p hp => by
    obtain ⟨a, b, c⟩ := I.pin p hp
    exact ⟨a, t.gone b, c⟩
  hok := hok_trim t I.hok
  len := I.len
/-- a statement behind which new objects may be forgotten -/
def tTrim (t : TS) : TS := fun D σ H => t ⟨fun σ1 H1 => ∃ H2, Trim H H1 H2 ∧ D.nx σ1 H2, fun v H1 => ∃ H2, Trim H H1 H2 ∧ D.rt v H2, fun σ1 H1 => ∃ H2, Trim H H1 H2 ∧ D.bk σ1 H2, fun σ1 H1 => ∃ H2, Trim H H1 H2 ∧ D.ct σ1 H2⟩ σ H
theorem ps_trim {st : Stmt} {t : TS} (h : PS X st t) : PS X st (tTrim t) := ⟨fun pins s σ H D I q => by
  refine thn (h.run pins s σ H _ I q) fun f s' z => ?_
  cases f with
  | next =>
    obtain ⟨σ', H', I', H2, tr, d⟩ := z
    exact ⟨σ', H2, inv_trim I I' tr, d⟩
  | brk =>
    obtain ⟨σ', H', I', H2, tr, d⟩ := z
    exact ⟨σ', H2, inv_trim I I' tr, d⟩
  | cont =>
    obtain ⟨σ', H', I', H2, tr, d⟩ := z
    exact ⟨σ', H2, inv_trim I I' tr, d⟩
  | ret u =>
    obtain ⟨v, σ', H', I', r, H2, tr, d⟩ := z
    exact ⟨v, σ', H2, inv_trim I I' tr, r, d⟩⟩
def tTrimE (t : TE) : TE := fun σ H Q => t σ H fun v H1 => ∃ H2, Trim H H1 H2 ∧ Q v H2
theorem pe_trim {e : Expr} {t : TE} (h : PE X e t) : PE X e (tTrimE t) := ⟨fun pins s σ H Q I q => by
  refine thn (h.run pins s σ H _ I q) fun f s' z => ?_
  obtain ⟨v, H', I', r, H2, tr, d⟩ := z
  exact ⟨v, H2, inv_trim I I' tr, r, d⟩⟩
end

/-- what a state's tuples, locked things stay in -/
structure Rst (H0 H : Hp) : Prop where
  ex : ∀ a o, H0 a = some o → H a = some o
  tup : ∀ a xs, H a = some (.tup xs) → H0 a = some (.tup xs)
  frz : ∀ a o u, H a = some (.frz o u) → H0 a = some (.frz o u)
  tbl : ∀ a ps, H a = some (.tbl ps) → H0 a = some (.tbl ps)
def softO : HO → Bool
  | .tup _ => false
  | .frz _ _ => false
  | .tbl _ => false
  | _ => true
theorem Rst.refl (H : Hp) : Rst H H := ⟨fun _ _ h => h, fun _ _ h => h, fun _ _ _ h => h, fun _ _ h => h⟩
theorem Rst.new {H0 H : Hp} {p : Addr} {o : HO} (r : Rst H0 H) (h : H0 p = none) (s : softO o = true) : Rst H0 (upd H p o) := by
  refine ⟨fun a u q => ?_, fun a xs q => ?_, fun a ob u q => ?_, fun a ps q => ?_⟩
  · rw [upd_ne (ne_of_none q h)]; exact r.ex a u q
  · by_cases ha : a = p
    · rw [ha, upd_same] at q; cases q; cases s
    · rw [upd_ne ha] at q; exact r.tup a xs q
  · by_cases ha : a = p
    · rw [ha, upd_same] at q; cases q; cases s
    · rw [upd_ne ha] at q; exact r.frz a ob u q
  · by_cases ha : a = p
    · rw [ha, upd_same] at q; cases q; cases s
    · rw [upd_ne ha] at q; exact r.tbl a ps q
theorem Trim.to {H0 H H1 H2 : Hp} (r : Rst H0 H) (e : Ex H0 H2) (s : Ex H2 H1) (c : Clo H2) : Trim H H1 H2 :=
  ⟨s, fun a xs h => e a _ (r.tup a xs h), fun a o u h => e a _ (r.frz a o u h), fun a ps h => ⟨#[], by rw [e a _ (r.tbl a ps h), Array.append_empty]⟩, c⟩
theorem Trim.refl {H : Hp} (c : Clo H) : Trim H H H := Trim.to (Rst.refl H) (Ex.refl H) (Ex.refl H) c
/-- nothing that is tracked is a hard one -/
theorem clo_upd {H : Hp} {p : Addr} {o : HO} (c : Clo H) (hp : H p = none) (ho : okO (upd H p o) p o) : Clo (upd H p o) := (Trim.keep (H' := upd H p o) (Ex.new (Ex.refl H) hp) hp upd_same c ho).clo
/-- a thing at p that owns nothing is replaced -/
def plainO : HO → Bool
  | .lst _ => true
  | .tup _ => true
  | .dK _ => true
  | .set _ _ => true
  | .xd _ => true
  | .rng _ _ => true
  | .ext _ => true
  | _ => false
theorem okO_plain {H : Hp} {p : Addr} {o : HO} (h : plainO o = true) : okO H p o := by
  cases o with
  | dT _ => cases h
  | ins _ _ _ => cases h
  | frz _ _ => cases h
  | _ => trivial
theorem clo_new {H : Hp} {p : Addr} {o : HO} (c : Clo H) (hp : H p = none) (ho : plainO o = true) : Clo (upd H p o) := clo_upd c hp (okO_plain ho)
theorem okO_upd {H : Hp} {p a : Addr} {o : HO} (np : ∀ x, H p ≠ some (.own x)) : ∀ {u : HO}, okO H a u → okO (upd H p o) a u := by
  intro u
  induction u with
  | dT _ => intro z; exact z
  | ins C dx fs =>
    intro z
    have z' : H dx = some (.own a) := z
    show upd H p o dx = some (.own a)
    rw [upd_ne (fun e => np a (by rw [← e]; exact z'))]
    exact z'
  | frz ob v ih => intro z; exact ih z
  | _ => intro _; trivial
theorem clo_set {H : Hp} {p : Addr} {o : HO} (c : Clo H) (np : ∀ x, H p ≠ some (.own x)) (ho : plainO o = true) : Clo (upd H p o) := fun a u q => by
  by_cases ha : a = p
  · rw [ha, upd_same] at q; cases q; rw [ha]; exact okO_plain ho
  · rw [upd_ne ha] at q
    exact okO_upd np (c a u q)
theorem Ex.both {H H' : Hp} {p : Addr} {o : HO} (e : Ex H H') : Ex (upd H p o) (upd H' p o) := fun a u h => by
  by_cases ha : a = p
  · rw [ha, upd_same] at h ⊢; exact h
  · rw [upd_ne ha] at h ⊢; exact e a u h
theorem ne_fresh {H : Hp} {a b : Addr} (h : H a ≠ none) (h' : H b = none) : a ≠ b := fun e => h (by rw [e]; exact h')
theorem tr_some {H : Hp} {a : Addr} {o : HO} (h : H a = some o) : H a ≠ none := by rw [h]; exact fun z => nomatch z
theorem tr_same {H : Hp} {a : Addr} {o : HO} : upd H a o a ≠ none := tr_some upd_same
theorem tr_upd {H : Hp} {a b : Addr} {o : HO} (h : H b ≠ none) : upd H a o b ≠ none := by
  by_cases e : b = a
  · rw [e]; exact tr_same
  · rw [upd_ne e]; exact h
/-- all but the last new thing forgotten -/
theorem Trim.last {H0 H H' : Hp} {p : Addr} {o : HO} (r : Rst H0 H) (e : Ex H0 H') (hp : H0 p = none) (c : Clo H0) (ho : plainO o = true) : Trim H (upd H' p o) (upd H0 p o) :=
  Trim.to r (Ex.new (Ex.refl _) hp) (Ex.both e) (clo_new c hp ho)
theorem Trim.base {H0 H H' : Hp} (r : Rst H0 H) (e : Ex H0 H') (c : Clo H0) : Trim H H' H0 := Trim.to r (Ex.refl _) e c
theorem clo_only {H : Hp} (h : Only H) : Clo H := fun a o e => by
  rcases h a with z | ⟨ob, xs, z⟩
  · rw [z] at e; cases e
  · rw [z] at e; cases e; trivial

/-! ### own defs by name -/
structure FnG (P : Program) (w : World) (K : PySem.W.Frag) (mg : Str → Option Value) (base : Heap) (CX : CXT) (x : Str) (ps : List Str) (k : Nat) (sp : Sp) : Prop where
  ex : ∃ f fd, mg x = some (.ref f) ∧ PySem.W.keepIn K (.ref f) = true ∧ Binds K fd ps [] ∧ FnOk P w K mg base CX k f fd ps sp
section
variable {X : Cx} {CX : CXT} {j k : Nat} {ps : List Str} {sp : Sp} {x : Str} {p pos : Pos} {e : Expr} {es : List Expr} {t : TA} {E : XK}
theorem pe_G (G : FnG X.prog X.w X.K X.mg X.base CX x ps k sp) (hr : Room j X.A) (hjk : k ≤ j) (hg : Gl X x) (hx : Passes CX X E) (ha : PA X (e :: es) t)
    (hdb : (x == ("__debug__" : Str)) = false := by decide) (he : starEach (e :: es) X.env = (false, eval e X.env) :: starEach es X.env := by rfl) (hpl : (backTo pos (starEach es X.env)).any (·.1) = false := by rfl) :
    PE X (.Call (.Name x p) (e :: es) [] pos) (tCall sp [] E t) := by
  obtain ⟨f, fd, hm, hk, hb, F⟩ := G.ex
  exact pe_call F (hr.mono hjk) hg hm hk hb .nil hx ha hdb he hpl
theorem pe_G0 (G : FnG X.prog X.w X.K X.mg X.base CX x ps k sp) (hr : Room j X.A) (hjk : k ≤ j) (hg : Gl X x) (hx : Passes CX X E) (hdb : (x == ("__debug__" : Str)) = false := by decide) :
    PE X (.Call (.Name x p) [] [] pos) (tCall sp [] E tNil) := by
  obtain ⟨f, fd, hm, hk, hb, F⟩ := G.ex
  exact pe_call0 F (hr.mono hjk) hg hm hk hb .nil hx hdb
end

/-! ### blocks, tests that forget -/
section
variable {X : Cx}
theorem pss_trim {st : List Stmt} {t : TS} (h : PSs X st t) : PSs X st (tTrim t) := ⟨fun pins s σ H D I q => by
  refine thn (h.run pins s σ H _ I q) fun f s' z => ?_
  cases f with
  | next =>
    obtain ⟨σ', H', I', H2, tr, d⟩ := z
    exact ⟨σ', H2, inv_trim I I' tr, d⟩
  | brk =>
    obtain ⟨σ', H', I', H2, tr, d⟩ := z
    exact ⟨σ', H2, inv_trim I I' tr, d⟩
  | cont =>
    obtain ⟨σ', H', I', H2, tr, d⟩ := z
    exact ⟨σ', H2, inv_trim I I' tr, d⟩
  | ret u =>
    obtain ⟨v, σ', H', I', r, H2, tr, d⟩ := z
    exact ⟨v, σ', H2, inv_trim I I' tr, r, d⟩⟩
def tTrimT (t : TT) : TT := fun σ H Q => t σ H fun b H1 => ∃ H2, Trim H H1 H2 ∧ Q b H2
theorem pt_trim {e : Expr} {t : TT} (h : PT X e t) : PT X e (tTrimT t) := ⟨fun pins s σ H Q I q => by
  refine thn (h.run pins s σ H _ I q) fun b s' z => ?_
  obtain ⟨H', I', H2, tr, d⟩ := z
  exact ⟨H2, inv_trim I I' tr, d⟩⟩
theorem pe_GS {k j : Nat} {ps : List Str} {sp : Sp} {x : Str} {p pos : Pos} {e : Expr} {es : List Expr} {t : TA} {E : L2.St → XK} (G : FnG X.prog X.w X.K X.mg X.base (L2.CX X.prog X.w) x ps k sp) (hr : Room j X.A) (hjk : k ≤ j) (hg : Gl X x) (hx : ∀ σ, PassesAt (L2.CX X.prog X.w) X σ (E σ)) (ha : PA X (e :: es) t)
    (hdb : (x == ("__debug__" : Str)) = false := by decide) (he : starEach (e :: es) X.env = (false, eval e X.env) :: starEach es X.env := by rfl) (hpl : (backTo pos (starEach es X.env)).any (·.1) = false := by rfl) :
    PE X (.Call (.Name x p) (e :: es) [] pos) (tCallSD sp [] E t) := by
  obtain ⟨f, fd, hm, hk, hb, F⟩ := G.ex
  exact pe_callSD F (hr.mono hjk) hg hm hk hb .nil hx ha hdb he hpl
end
/-- a meeting of ways: Mid holds behind the first statement -/
def tMeet (t u : TS) : TS := fun D σ H => ∃ Mid : L2.St → Hp → Prop, t { D with nx := Mid } σ H ∧ ∀ σ1 H1, Mid σ1 H1 → u D σ1 H1
theorem pss_meet {X : Cx} {st : Stmt} {rest : List Stmt} {t u : TS} (h1 : PS X st t) (h2 : PSs X rest u) : PSs X (st :: rest) (tMeet t u) := ⟨fun pins s σ H D I h => by
  obtain ⟨Mid, a, b⟩ := h
  refine wpAny_execs_cons (thn (h1.run pins s σ H _ I a) fun f s1 hf => ?_)
  cases f with
  | next =>
    obtain ⟨σ1, H1, I1, q⟩ := hf
    exact h2.run pins s1 σ1 H1 D I1 (b σ1 H1 q)
  | brk => exact hf
  | cont => exact hf
  | ret v => exact hf⟩
/-! ### readings by name -/
abbrev rAddI : R2 := rI0 fun i j => .int (i + j)
abbrev rSubI : R2 := rI0 fun i j => .int (i - j)
abbrev rMulW : R2 := rI CMulW fun i j => .int (i * j)
abbrev rDivW : R2 := rI CDivW fun i j => .int (i / j)
abbrev rModI : R2 := rI (fun _ j => 0 < j) fun i j => .int (i % j)
abbrev rPowI : R2 := rI CPow fun i j => .int (i ^ j.toNat)
abbrev rShrI : R2 := rI (fun _ j => 0 ≤ j) fun i j => .int (i / 2 ^ j.toNat)
abbrev rLtI : R2 := rI0 fun i j => .bl (decide (i < j))
abbrev rLeI : R2 := rI0 fun i j => .bl (decide (i ≤ j))
abbrev rGtI : R2 := rI0 fun i j => .bl (decide (j < i))
abbrev rGeI : R2 := rI0 fun i j => .bl (decide (j ≤ i))
abbrev rLtS : R2 := fun x y H Q => ∃ i j, x = .str i ∧ y = .str j ∧ Q (.bl (decide (i.cps.toList < j.cps.toList))) H
abbrev rLeS : R2 := fun x y H Q => ∃ i j, x = .str i ∧ y = .str j ∧ Q (.bl (!decide (j.cps.toList < i.cps.toList))) H
abbrev rGtS : R2 := fun x y H Q => ∃ i j, x = .str i ∧ y = .str j ∧ Q (.bl (decide (j.cps.toList < i.cps.toList))) H
abbrev rGeS : R2 := fun x y H Q => ∃ i j, x = .str i ∧ y = .str j ∧ Q (.bl (!decide (i.cps.toList < j.cps.toList))) H
abbrev rAddS1 : R2 := fun x y H Q => ∃ i j, x = .str i ∧ y = .str j ∧ i.length + j.length ≤ sizeLine ∧ Q (.str (i ++ j)) H
abbrev rInC : R2 := fun x y H Q => ∃ (c : Nat) (z : Str), x = .str ⟨#[c]⟩ ∧ y = .str z ∧ Q (.bl (decide (c ∈ z.cps.toList))) H
abbrev rNotInC : R2 := fun x y H Q => ∃ (c : Nat) (z : Str), x = .str ⟨#[c]⟩ ∧ y = .str z ∧ Q (.bl (!decide (c ∈ z.cps.toList))) H
abbrev rNotN : R2 := fun x y H Q => y = .non ∧ Q (.bl (!decide (x = .non))) H
abbrev rIsN : R2 := fun x y H Q => y = .non ∧ Q (.bl (decide (x = .non))) H
abbrev rNegI : V → Hp → VK → Prop := rU fun i => .int (-i)
abbrev rLenQ (K : PySem.W.Frag) : List V → Hp → VK → Prop := fun xs H Q => ∃ p ys, xs = [.ref p] ∧ (SqL K H p ys ∨ SqT K H p ys) ∧ Q (.int ys.length) H
abbrev rLenS1 : List V → Hp → VK → Prop := fun xs H Q => ∃ z, xs = [.str z] ∧ z.length ≤ sizeLine ∧ Q (.int z.length) H
abbrev rListQ (K : PySem.W.Frag) : List V → Hp → VK → Prop := fun xs H Q => ∃ p ys, xs = [.ref p] ∧ (SqL K H p ys ∨ SqT K H p ys) ∧ ∀ l, H l = none → Q (.ref l) (upd H l (.lst ys))
abbrev rDivmod : List V → Hp → VK → Prop := fun xs H Q => ∃ i j, xs = [.int i, .int j] ∧ CDiv i j ∧ ∀ p, H p = none → Q (.ref p) (upd H p (.tup [.int (i / j), .int (i % j)]))
abbrev rMin2 : List V → Hp → VK → Prop := fun xs H Q => ∃ i j, xs = [.int i, .int j] ∧ Q (.int (if j < i then j else i)) H
abbrev rMax2 : List V → Hp → VK → Prop := fun xs H Q => ∃ i j, xs = [.int i, .int j] ∧ Q (.int (if j > i then j else i)) H
abbrev rInt1 : List V → Hp → VK → Prop := fun xs H Q => (∃ i, xs = [.int i] ∧ Q (.int i) H) ∨ ∃ k, xs = [.bl k] ∧ Q (.int (if k then 1 else 0)) H
abbrev rJoin (K : PySem.W.Frag) : V → List V → Hp → VK → Prop := fun x xs H Q => ∃ a p, ∃ ys : List Str, x = .str a ∧ xs = [.ref p] ∧ (SqL K H p (ys.map V.str) ∨ SqT K H p (ys.map V.str)) ∧ (ys.map (·.length)).sum + ys.length * a.length ≤ 16777216 ∧ Q (.str (Txt.join a ys)) H
abbrev rSlX : V → Option Int → Option Int → Hp → VK → Prop := fun x lo hi H Q => ∃ z, x = .str z ∧ z.length ≤ sizeLine ∧ Q (.str (Txt.slice z lo hi)) H
abbrev rRstrip : V → List V → Hp → VK → Prop := fun x xs H Q => ∃ a b, x = .str a ∧ xs = [.str b] ∧ a.length ≤ sizeLine ∧ Q (.str (Txt.rstripChars a b)) H
abbrev tTru (K : PySem.W.Frag) (ta : TE) : TT := fun σ H Q => ta σ H fun x H' => ∃ k, TruV K x H' k ∧ Q k H'
def tTry (K : PySem.W.Frag) (c : Value) (ts : Addr → Value → Option Addr → TS) (Wout : WX) (tb : WX → TS) : TS := fun D σ H => tb (wOnly K c ts Wout D) D σ H
def tTryAs (K : PySem.W.Frag) (c : Value) (i : Nat) (ts : Addr → Value → Option Addr → TS) (Wout : WX) (tb : WX → TS) : TS := fun D σ H => tb (wAs K c i ts Wout D) D σ H
def tRaiseO (K : PySem.W.Frag) (x : Str) (W : WX) : TS := fun _ σ H => W (.ref (He.ga K x)) none σ H
section
variable {X : Cx} {x n : Str} {c : Value} {i : Nat} {body suite : List Stmt} {b₀ : Stmt} {np pos pos' : Pos} {tb : WX → TS} {ts : Addr → Value → Option Addr → TS} {Wout : WX}
theorem ps_try1 (hs : X.stack = X.env :: X.outer) (hf : X.env.frame = some X.env.locals) (hc : Names X x c) (tk : Takes X Wout)
    (hb : ∀ (W : WX) (pn : List (Addr × Obj)) (xe : Value → Shared → Prop), Takes (X.tr pn xe) W → PassesOwn (model X.prog X.w) X.A X.env xe → PSs (X.tr pn xe) body (tb W))
    (hsu : ∀ (a : Addr) (oe : Obj) (cls : Value) (d : Option Addr) (pn : List (Addr × Obj)), Zc cls d oe → (∃ vs, oe.data = .fields vs) → PSs (X.suite a ((a, oe) :: pn)) (b₀ :: suite) (ts a cls d)) :
    PS X (.Try body [.ExceptHandler (some (.Name x np)) none (b₀ :: suite) pos'] [] [] pos) (tTry X.K c ts Wout tb) := ps_try_only hs hf hc tk hb hsu
theorem ps_try1As (hs : X.stack = X.env :: X.outer) (hf : X.env.frame = some X.env.locals) (hN : X.N.Nodup) (hi : X.N[i]? = some n) (hln : X.env.kindOf n = some .local) (hc : Names X x c) (tk : Takes X Wout)
    (hb : ∀ (W : WX) (pn : List (Addr × Obj)) (xe : Value → Shared → Prop), Takes (X.tr pn xe) W → PassesOwn (model X.prog X.w) X.A X.env xe → PSs (X.tr pn xe) body (tb W))
    (hsu : ∀ (a : Addr) (oe : Obj) (cls : Value) (d : Option Addr) (pn : List (Addr × Obj)), Zc cls d oe → (∃ vs, oe.data = .fields vs) → PSs (X.suite a ((a, oe) :: pn)) (b₀ :: suite) (ts a cls d)) :
    PS X (.Try body [.ExceptHandler (some (.Name x np)) (some n) (b₀ :: suite) pos'] [] [] pos) (tTryAs X.K c i ts Wout tb) := ps_try_as hs hf hN hi hln hc tk hb hsu
end
/-! ### own rules -/
def chars (z : Str) : List Str := z.cps.toList.map fun c => ⟨#[c]⟩
abbrev rListS : List V → Hp → VK → Prop := fun xs H Q => ∃ z, xs = [.str z] ∧ z.length ≤ sizeLine ∧ ∀ l, H l = none → Q (.ref l) (upd H l (.lst ((chars z).map V.str)))
section
variable {X : Cx}
theorem Room.units65 {k : Nat} {A : Around} (r : Room k A) : A.units + 65 < cLine := by have := r.un; omega
/-- s.index(c), found -/
def rIndexS : L2.St → V → List V → Hp → VK → Prop := fun _ x xs H Q => ∃ (a b : Str) (k : Nat), x = .str a ∧ xs = [.str b] ∧ Txt.index0 a b = some k ∧ Q (.int (k : Nat)) H
theorem mt_indexS (hc : X.calm = true) : MtS X "str.index" rIndexS := fun pins s σ H x xs v us Q I rx rs h => by
  obtain ⟨a, b, k, e1, e2, e3, q⟩ := h
  exact mt_indexX hc takes0 pins s σ H x xs v us Q I rx rs ⟨a, b, e1, e2, fun k' e => by rw [e3] at e; cases e; exact q, fun e => by rw [e3] at e; cases e⟩
theorem paired_ix {α β : Type} {F : α → β → Prop} : ∀ {xs : List α} {ys : List β}, xs.length = ys.length → (∀ (i : Nat) (x : α) (y : β), xs[i]? = some x → ys[i]? = some y → F x y) → Paired F xs ys
  | [], [], _, _ => .nil
  | [], _ :: _, h, _ => by cases h
  | _ :: _, [], h, _ => by cases h
  | x :: xs, y :: ys, h, k => .cons (k 0 x y rfl rfl) (paired_ix (Nat.succ.inj h) fun i a b ha hb => k (i + 1) a b (by simpa using ha) (by simpa using hb))
theorem call_listS (hc : X.calm = true) : CallR X (.type "list") rListS := by
  intro pins s σ H xs us Q I r h
  obtain ⟨z, rfl, hz, q⟩ := h
  obtain ⟨u, rfl, t, rfl⟩ := vals1 r
  refine PySem.call_list_str (I.ok.hd hc) z t (fun h' tk acc c' k e it => ?_) (hn := hz)
  obtain ⟨it1, it2⟩ := it
  refine ⟨.ref s.heap.objs.size, upd H s.heap.objs.size (.lst ((chars z).map V.str)), I.laid (t' := tk) k (Nat.le_refl _) ⟨?_, acc.toList, c', ?_, e⟩, rfl, q _ (I.hok.fresh (Nat.le_refl _))⟩
  · rw [List.length_map]
    show (List.map _ _).length ≤ _
    rw [List.length_map, Array.length_toList]
    exact hz
  · refine paired_ix ?_ fun i x y hx hy => ?_
    · rw [List.length_map]
      show (List.map _ _).length = _
      rw [List.length_map, Array.length_toList, Array.length_toList, it1]
    · rw [Array.getElem?_toList] at hy
      obtain ⟨c, u, hc', rfl⟩ := it2 i y hy
      rw [List.getElem?_map] at hx
      have hx2 : (chars z)[i]? = some ⟨#[c]⟩ := by
        show (List.map _ _)[i]? = _
        rw [List.getElem?_map, Array.getElem?_toList, hc']
        rfl
      rw [hx2] at hx
      cases hx
      exact ⟨u, rfl⟩
end
/-! ### sorted, texts, any number of them -/
def sv : Value → List Nat
  | .str z _ => z.cps.toList
  | _ => []
def svS : Value → Str
  | .str z _ => z
  | _ => ⟨#[]⟩
def ltSv (v u : Value) : Bool := decide (sv v < sv u)
theorem swo_str : SrtO.Swo ltSv := by
  refine ⟨fun x y h => ?_, fun x y z h1 h2 => ?_⟩
  · have a := of_decide_eq_true (p := sv x < sv y) h
    exact decide_eq_false (p := sv y < sv x) (List.lt_asymm a)
  · have a := of_decide_eq_false (p := sv y < sv x) h1
    have b := of_decide_eq_false (p := sv z < sv y) h2
    exact decide_eq_false (p := sv z < sv x) (List.not_lt.mpr (List.le_trans (List.not_lt.mp a) (List.not_lt.mp b)))
theorem strs_mem : ∀ {vs : List Value} {ns : List Str}, StrsAre vs ns → ∀ v ∈ vs, ∃ i t, v = Value.str i t
  | _, _, .nil, v, h => absurd h (by simp)
  | _, _, .cons n t r, v, h => by
    rcases List.mem_cons.mp h with e | h
    · exact ⟨n, t, e⟩
    · exact strs_mem r v h
theorem strs_sv : ∀ {vs : List Value}, (∀ v ∈ vs, ∃ i t, v = Value.str i t) → StrsAre vs (vs.map svS)
  | [], _ => .nil
  | v :: vs, h => by
    obtain ⟨i, t, e⟩ := h v List.mem_cons_self
    subst e
    exact .cons i t (strs_sv fun u hu => h u (List.mem_cons_of_mem _ hu))
theorem sv_strs : ∀ {vs : List Value} {ns : List Str}, StrsAre vs ns → vs.map svS = ns
  | _, _, .nil => rfl
  | _, _, .cons n t r => congrArg (n :: ·) (sv_strs r)
section
variable {prog : Program} {w : World} {A : Around} {s : Shared}
theorem str_cmp {vs : List Value} {ns : List Str} (hI : StrsAre vs ns) : SrtO.Cmp prog w A s oneType' (fun p => p.1 ∈ vs) (SrtO.lt2 ltSv) := by
  intro p q hm hm'
  obtain ⟨a, t, e⟩ := strs_mem hI _ hm
  obtain ⟨b, u, e'⟩ := strs_mem hI _ hm'
  show wpAny (model prog w) A (keyLt' oneType' p.1 q.1) (fun r s' => s' = s ∧ r = ltSv p.1 q.1) (fun _ _ => False) s
  rw [e, e', keyLt'_oneType]
  exact oneLt_str ⟨rfl, rfl⟩
theorem strs_sortable {a : Addr} {vs : List Value} {ns : List Str} (hI : StrsAre vs ns) (h2 : 2 ≤ vs.length) : SrtO.SortableO prog w A s a vs ltSv := by
  intro h' _
  refine ⟨oneType', fun Q E hq => ?_, str_cmp hI⟩
  match vs, hI, h2 with
  | v1 :: v2 :: rest, hI, _ =>
    rw [keyKind_strs hI]
    exact wpAny_pure hq
  | [], _, h => exact absurd h (by decide)
  | [v], _, h => exact absurd h (by simp)
theorem strs_out {vs out : List Value} {ns : List Str} (hI : StrsAre vs ns) (hs : SrtO.Srtd ltSv out) (hb : SrtO.Stb ltSv out vs) : StrsAre out (out.map svS) ∧ (out.map svS).Perm ns ∧ (out.map svS).Pairwise fun a b => a.cps.toList ≤ b.cps.toList := by
  have hm := fun v hv => strs_mem hI v (hb.perm.mem_iff.mp hv)
  refine ⟨strs_sv hm, ?_, ?_⟩
  · have q := hb.perm.map svS
    rw [sv_strs hI] at q
    exact q
  · refine List.pairwise_map.mpr (List.Pairwise.imp_of_mem (fun {x y} hx hy h => ?_) hs)
    obtain ⟨a, t, rfl⟩ := hm x hx
    obtain ⟨b, u, rfl⟩ := hm y hy
    exact List.not_lt.mp (of_decide_eq_false (p := sv (.str b u) < sv (.str a t)) h)
end
def rSortedSO (K : PySem.W.Frag) : List V → Hp → VK → Prop := fun vs H Q => ∃ (a : Addr) (ns : List Str), vs = [V.ref a] ∧ SqL K H a (ns.map V.str) ∧
  ∀ (ns' : List Str) (p : Addr), ns'.Perm ns → (ns'.Pairwise fun a b => a.cps.toList ≤ b.cps.toList) → H p = none → Q (.ref p) (upd H p (.lst (ns'.map V.str)))
theorem cr_sortedSO {X : Cx} : CallR X (.builtin "sorted") (rSortedSO X.K) := by
  intro pins s σ H vs us Q I r h
  obtain ⟨a, ns, rfl, hs, q⟩ := h
  obtain ⟨its, rv, hl, hz⟩ := I.list hs
  rw [Vals.ref1 r]
  have hi := rv.strs
  refine SrtO.sorted_ord swo_str hl.isList (by rw [← rv.length]; exact hz) (fun h2 h₁ a' _ _ => strs_sortable hi h2) fun out h1 h2 => ?_
  obtain ⟨k1, k2, k3⟩ := strs_out hi h1 h2
  obtain ⟨ep, he'⟩ := PyProof.Rows.sortedAll_at s.heap its out.toArray
  have hlen : ((out.map svS).map V.str).length ≤ sizeLine := by
    rw [List.length_map, k2.length_eq]
    rw [List.length_map] at hz
    exact hz
  exact ⟨.ref _, upd H (s.heap.objs.size + 1) (.lst ((out.map svS).map V.str)), I.laid (t' := s.toks) (fun _ _ => PyProof.Rows.sortedAll_old) (Nat.le_succ _) ⟨hlen, out, ep, vals_of_strs k1, he'⟩, rfl, q _ _ k2 k3 (I.hok.fresh (Nat.le_succ _))⟩
/-! ### loops and comprehensions over what is walked -/
theorem walk_listF {K : PySem.W.Frag} {a : Addr} {xs : List V} : Walk (Itl K a) xs.length (fun H => SqL K H a xs) (YFn fun i => xs.getD i .non) :=
  walk_list.mono (fun _ h => h) fun i H x H' hi _ y => ⟨y.1, by show x = xs.getD i .non; rw [List.getD_eq_getElem?_getD, y.2]; rfl⟩
theorem walk_tupF {K : PySem.W.Frag} {a : Addr} {xs : List V} : Walk (Itt K a) xs.length (fun H => SqT K H a xs) (YFn fun i => xs.getD i .non) :=
  walk_tup.mono (fun _ h => h) fun i H x H' hi _ y => ⟨y.1, by show x = xs.getD i .non; rw [List.getD_eq_getElem?_getD, y.2]; rfl⟩
theorem walk_strF {z : Str} : Walk (Its z) z.cps.size (fun _ => True) (YFn fun i => .str ⟨#[z.cps.toList.getD i 0]⟩) :=
  walk_str.mono (fun _ h => h) fun i H x H' hi _ y => ⟨y.1, by
    obtain ⟨_, c, h1, h2⟩ := y
    show x = .str ⟨#[z.cps.toList.getD i 0]⟩
    rw [h2, List.getD_eq_getElem?_getD, Array.getElem?_toList, h1]; rfl⟩
theorem walk_range1 {n : Nat} : Walk (Itr 0 n) n (fun _ => True) (YFn fun i => .int (i : Int)) :=
  walk_range.mono (fun _ h => h) fun i H x H' _ _ y => ⟨y.1, by
    have e : x = .int (0 + (i : Int)) := y.2
    rw [e, Int.zero_add]⟩
theorem walk_rangeF {lo : Int} {n : Nat} : Walk (Itr lo n) n (fun _ => True) (YFn fun i => .int (lo + (i : Int))) :=
  walk_range.mono (fun _ h => h) fun i H x H' _ _ y => ⟨y.1, y.2⟩
/-- a comprehension whose turns leave nothing but the list -/
theorem lc_fn {J : It} {n : Nat} {G : Hp → Prop} {f : Nat → V} (w : Walk J n G (YFn f)) {g : TG} {tt : TT} {te : TE} {vs : List Nat} {σ : L2.St} {H1 : Hp} {D : Addr} {Qd : Hp → Prop} (b : Nat → Bool) (v : Nat → V) (hn : n ≤ 1000000)
    (hG : ∀ acc, G (upd H1 D (.lst acc)))
    (turn : ∀ i acc, i < n → acc.length ≤ i → ∀ N : Hp → Prop, (b i = true → N (upd H1 D (.lst (acc ++ [v i])))) → (b i = false → N (upd H1 D (.lst acc))) →
      g (f i) (wipe σ vs) (upd H1 D (.lst acc)) fun σ2 H2 => wipe σ2 vs = wipe σ vs ∧ tt σ2 H2 fun c H3 =>
        if c = true then te σ2 H3 fun y H4 => ∃ acc, H4 D = some (.lst acc) ∧ acc.length < sizeLine ∧ N (upd H4 D (.lst (acc ++ [y]))) else N H3)
    (hq : Qd (upd H1 D (.lst (((List.range n).filter b).map v)))) :
    ∃ W : Nat → Nat → Hp → Prop, (∃ m, W 0 m (upd H1 D (.lst []))) ∧ ∀ i m H, W i m H →
      (J.stop i H ∧ Qd H) ∨ (J.go i H ∧ ∃ Nx : Hp → Prop, (∀ H', Nx H' → ∃ m', m' < m ∧ W (i + 1) m' H') ∧ ∀ x H', J.yld i H x H' → g x (wipe σ vs) H' fun σ2 H2 => wipe σ2 vs = wipe σ vs ∧ tt σ2 H2 fun b H3 =>
        if b = true then te σ2 H3 fun y H4 => ∃ acc, H4 D = some (.lst acc) ∧ acc.length < sizeLine ∧ Nx (upd H4 D (.lst (acc ++ [y]))) else Nx H3) := by
  refine lc_it w (fun i H => H = upd H1 D (.lst (((List.range i).filter b).map v))) rfl (fun i H _ h => by rw [h]; exact hG _) ?_ (fun H h => by rw [h]; exact hq)
  rintro i x H H' hi rfl ⟨rfl, rfl⟩
  refine turn i _ hi ?_ (fun H' => H' = upd H1 D (.lst (((List.range (i + 1)).filter b).map v))) (fun hb => ?_) fun hb => ?_
  · rw [List.length_map]
    exact Nat.le_trans (List.length_filter_le _ _) (by rw [List.length_range]; exact Nat.le_refl _)
  · rw [List.range_succ, List.filter_append, List.map_append, List.filter_cons, if_pos hb]; rfl
  · rw [List.range_succ, List.filter_append, List.map_append, List.filter_cons, if_neg (by rw [hb]; decide)]
    show _ = upd H1 D (.lst (_ ++ []))
    rw [List.append_nil]
theorem filt_all {α : Type} (l : List α) : l.filter (fun _ => true) = l := List.filter_eq_self.mpr fun _ _ => rfl
/-- the turn's end -/
theorem lc_end {H1 : Hp} {D : Addr} {acc : List V} {y : V} {n : Nat} {N : Hp → Prop} (hn : acc.length ≤ n) (hz : n < 1000000) (h : N (upd H1 D (.lst (acc ++ [y])))) :
    ∃ acc', (upd H1 D (.lst acc)) D = some (.lst acc') ∧ acc'.length < sizeLine ∧ N (upd (upd H1 D (.lst acc)) D (.lst (acc' ++ [y]))) :=
  ⟨acc, upd_same, by rw [sizeLine_eq]; omega, by rw [upd_upd]; exact h⟩
theorem range_map {α : Type} (xs : List α) (d : α) : (List.range xs.length).map (fun i => xs.getD i d) = xs := by
  apply List.ext_getElem?
  intro i
  rw [List.getElem?_map]
  by_cases h : i < xs.length
  · rw [List.getElem?_range h, List.getElem?_eq_getElem h]
    show some (xs.getD i d) = _
    rw [List.getD_eq_getElem?_getD, List.getElem?_eq_getElem h]; rfl
  · rw [List.getElem?_eq_none (by rw [List.length_range]; omega), List.getElem?_eq_none (by omega)]; rfl
theorem range_filter_map {α β : Type} (xs : List α) (d : α) (b : α → Bool) (v : α → β) : ((List.range xs.length).filter fun i => b (xs.getD i d)).map (fun i => v (xs.getD i d)) = (xs.filter b).map v := by
  have e : ((List.range xs.length).filter fun i => b (xs.getD i d)).map (fun i => v (xs.getD i d)) = (((List.range xs.length).map fun i => xs.getD i d).filter b).map v := by
    rw [List.filter_map, List.map_map]; rfl
  rw [e, range_map]
section
variable {J : It} {n : Nat} {G : Hp → Prop} {f : Nat → V} {g : TG} {tb : TS} {D : Ends} {σ : L2.St} {H : Hp}
theorem for_fn (w : Walk J n G (YFn f)) (Pv : Nat → L2.St → Hp → Prop) (h0 : Pv 0 σ H) (hG : ∀ i σ' H', i ≤ n → Pv i σ' H' → G H')
    (hs : ∀ i σ' H', i < n → Pv i σ' H' → g (f i) σ' H' fun σ2 H2 => tb { D with nx := Pv (i + 1), ct := Pv (i + 1), bk := D.nx } σ2 H2) (hd : ∀ σ' H', Pv n σ' H' → D.nx σ' H') :
    ∃ W : Nat → Nat → L2.St → Hp → Prop, (∃ m, W 0 m σ H) ∧ ∀ i m σ H, W i m σ H →
      (J.stop i H ∧ D.nx σ H) ∨ (J.go i H ∧ ∃ N : L2.St → Hp → Prop, (∀ σ' H', N σ' H' → ∃ m', m' < m ∧ W (i + 1) m' σ' H') ∧ ∀ x H', J.yld i H x H' → g x σ H' fun σ2 H2 => tb { D with nx := N, ct := N, bk := D.nx } σ2 H2) :=
  for_it w Pv h0 hG (fun i x σ' H' H'' hi p y => by
    obtain ⟨e1, e2⟩ := y
    subst e1 e2
    exact hs i σ' _ hi p) hd
/-- a loop that leaves the heap as it was -/
theorem for_fix (w : Walk J n G (YFn f)) (Pv : Nat → L2.St → Prop) (hG : G H) (h0 : Pv 0 σ)
    (hs : ∀ i σ', i < n → Pv i σ' → g (f i) σ' H fun σ2 H2 => tb { D with nx := fun σ3 H3 => H3 = H ∧ Pv (i + 1) σ3, ct := fun σ3 H3 => H3 = H ∧ Pv (i + 1) σ3, bk := D.nx } σ2 H2) (hd : ∀ σ', Pv n σ' → D.nx σ' H) :
    ∃ W : Nat → Nat → L2.St → Hp → Prop, (∃ m, W 0 m σ H) ∧ ∀ i m σ H, W i m σ H →
      (J.stop i H ∧ D.nx σ H) ∨ (J.go i H ∧ ∃ N : L2.St → Hp → Prop, (∀ σ' H', N σ' H' → ∃ m', m' < m ∧ W (i + 1) m' σ' H') ∧ ∀ x H', J.yld i H x H' → g x σ H' fun σ2 H2 => tb { D with nx := N, ct := N, bk := D.nx } σ2 H2) :=
  for_fn w (fun i σ' H' => H' = H ∧ Pv i σ') ⟨rfl, h0⟩ (fun _ _ _ _ p => p.1 ▸ hG) (fun i σ' H' hi p => by
    obtain ⟨e, p⟩ := p
    subst e
    exact hs i σ' hi p) fun σ' H' p => by
    obtain ⟨e, p⟩ := p
    subst e
    exact hd σ' p
end
/-- a loop over a list, each item with P -/
theorem for_list {K : PySem.W.Frag} {a : Addr} {xs : List V} {g : TG} {tb : TS} {D : Ends} {σ : L2.St} {H : Hp} (P : V → Prop) (Pv : L2.St → Prop) (hS : SqL K H a xs) (hP : ∀ x ∈ xs, P x) (h0 : Pv σ)
    (hs : ∀ x σ', P x → Pv σ' → g x σ' H fun σ2 H2 => tb { D with nx := fun σ3 H3 => H3 = H ∧ Pv σ3, ct := fun σ3 H3 => H3 = H ∧ Pv σ3, bk := D.nx } σ2 H2) (hd : ∀ σ', Pv σ' → D.nx σ' H) :
    ∃ W : Nat → Nat → L2.St → Hp → Prop, (∃ m, W 0 m σ H) ∧ ∀ i m σ H, W i m σ H →
      ((Itl K a).stop i H ∧ D.nx σ H) ∨ ((Itl K a).go i H ∧ ∃ N : L2.St → Hp → Prop, (∀ σ' H', N σ' H' → ∃ m', m' < m ∧ W (i + 1) m' σ' H') ∧ ∀ x H', (Itl K a).yld i H x H' → g x σ H' fun σ2 H2 => tb { D with nx := N, ct := N, bk := D.nx } σ2 H2) :=
  for_fix walk_listF (fun _ => Pv) hS h0 (fun i σ' hi p => hs _ σ' (by
    show P (xs.getD i .non)
    rw [List.getD_eq_getElem?_getD, List.getElem?_eq_getElem hi]
    exact hP _ (List.getElem_mem hi)) p) hd
theorem meet_fix {t u : TS} {D : Ends} {σ : L2.St} {H : Hp} (P : L2.St → Prop) (h1 : t { D with nx := fun σ1 H1 => H1 = H ∧ P σ1 } σ H) (h2 : ∀ σ1, P σ1 → u D σ1 H) : tMeet t u D σ H :=
  ⟨fun σ1 H1 => H1 = H ∧ P σ1, h1, fun σ1 H1 p => by
    obtain ⟨e, p⟩ := p
    subst e
    exact h2 σ1 p⟩
/-- a while: P by a measure, the heap by it -/
theorem while_fn {c : TT} {tb : TS} {D : Ends} {σ : L2.St} {H : Hp} (P : Nat → L2.St → Hp → Prop) (m : Nat) (h0 : P m σ H)
    (hs : ∀ m σ' H', P m σ' H' → c σ' H' fun b H1 => if b = true then tb { D with nx := fun σ2 H2 => ∃ m', m' < m ∧ P m' σ2 H2, ct := fun σ2 H2 => ∃ m', m' < m ∧ P m' σ2 H2, bk := D.nx } σ' H1 else D.nx σ' H1)
    (mono : ∀ σ' H' (Q Q' : Bool → Hp → Prop), (∀ b H1, Q b H1 → Q' b H1) → c σ' H' Q → c σ' H' Q') : tWhile c tb D σ H := by
  refine ⟨P, ⟨m, h0⟩, fun m σ' H' p => mono σ' H' _ _ (fun b H1 q => ?_) (hs m σ' H' p)⟩
  cases b with
  | false => simpa using q
  | true =>
    have q' : tb { D with nx := fun σ2 H2 => ∃ m', m' < m ∧ P m' σ2 H2, ct := fun σ2 H2 => ∃ m', m' < m ∧ P m' σ2 H2, bk := D.nx } σ' H1 := by simpa using q
    show if true = true then _ else _
    rw [if_pos rfl]
    exact ⟨_, fun _ _ n => n, q'⟩
/-- fresh things apart -/
theorem fresh_ne {H : Hp} {p q : Addr} {o : HO} (h : upd H q o p = none) : p ≠ q := fun e => by rw [e, upd_same] at h; cases h
theorem fresh_of {H : Hp} {p q : Addr} {o : HO} (h : upd H q o p = none) : H p = none := by
  have ne := fresh_ne h
  rw [upd_ne ne] at h; exact h
theorem sqL_new {K : PySem.W.Frag} {H : Hp} {a p : Addr} {o : HO} {xs : List V} (h : SqL K H a xs) (hp : H p = none) : SqL K (upd H p o) a xs := by
  rcases h with h | h
  · rcases h with h | ⟨ob, h⟩
    · exact .inl (.inl (by rw [upd_ne (ne_of_none h hp)]; exact h))
    · exact .inl (.inr ⟨ob, by rw [upd_ne (ne_of_none h hp)]; exact h⟩)
  · exact .inr h
theorem sqL_at {K : PySem.W.Frag} {H : Hp} {p : Addr} {xs : List V} : SqL K (upd H p (.lst xs)) p xs := .inl (.inl upd_same)
theorem sqT_at {K : PySem.W.Frag} {H : Hp} {p : Addr} {xs : List V} : SqT K (upd H p (.tup xs)) p xs := .inl (.inl upd_same)
/-- a text so many times -/
def MulFit (z : Str) (n : Int) : Prop := z.length ≤ 100 ∧ -100000 ≤ n ∧ n ≤ 100000
abbrev rMulS : R2 := fun x y H Q => ∃ z n, x = .str z ∧ y = .int n ∧ MulFit z n ∧ Q (.str (Txt.mul z n)) H
theorem op_mul_str {X : Cx} : OpR X (binaryOp .Mult) rMulS := by
  intro pins s σ H x y u v Q I rx ry h
  obtain ⟨z, n, rfl, rfl, ⟨h1, h2, h3⟩, q⟩ := h
  obtain ⟨t, rfl⟩ := rx
  obtain ⟨t', rfl⟩ := ry
  have e1 : ¬ n < -(2 ^ 63 : Int) := by omega
  have e2 : ¬ n ≥ 2 ^ 63 := by omega
  refine PySem.SB.mul (x := z) (n := n) ⟨by rw [decide_eq_false e1, decide_eq_false e2]; rfl, fun h4 _ => ?_, fun h4 _ => ?_⟩ (fun t' k => ⟨.str (Txt.mul z n), H, I.tok _, ⟨_, rfl⟩, q⟩)
  · have h5 : (100 : Int) ≤ (2 ^ 63 - 1) / n := (Int.le_ediv_iff_mul_le (by omega)).mpr (by omega)
    omega
  · have h6 : z.length * n.toNat ≤ 100 * 100000 := Nat.mul_le_mul h1 (by omega)
    show decide (z.length * n.toNat > 2 ^ 24) = false
    exact decide_eq_false (by omega)
theorem rIsi_of {K : PySem.W.Frag} {x : V} {a b : String} {r : Bool} {H : Hp} {Q : VK} (h : TyX K H x (.type a)) (hb : kitB a b = some r) (q : Q (.bl r) H) : rIsi K [x, .ty b] H Q := ⟨_, _, _, _, _, rfl, .ty _, h, kit_ty hb, q⟩
section
variable {K : PySem.W.Frag} {H : Hp} {Q : VK}
theorem isi_bl_bool {b : Bool} (q : Q (.bl true) H) : rIsi K [.bl b, .ty "bool"] H Q := rIsi_of (.base (.bl _)) (by decide +kernel) q
theorem isi_int_int {i : Int} (q : Q (.bl true) H) : rIsi K [.int i, .ty "int"] H Q := rIsi_of (.base (.int _)) (by decide +kernel) q
theorem isi_int_bool {i : Int} (q : Q (.bl false) H) : rIsi K [.int i, .ty "bool"] H Q := rIsi_of (.base (.int _)) (by decide +kernel) q
theorem isi_str_str {z : Str} (q : Q (.bl true) H) : rIsi K [.str z, .ty "str"] H Q := rIsi_of (.base (.str _)) (by decide +kernel) q
theorem isi_lst {p : Addr} {xs : List V} (h : H p = some (.lst xs)) (q : Q (.bl true) H) : rIsi K [.ref p, .ty "list"] H Q := rIsi_of (.base (.lst h)) (by decide +kernel) q
end
theorem isi1 {K : PySem.W.Frag} {σ : L2.St} {x : V} {b : String} {H : Hp} {Q : VK} (h : rIsi K [x, .ty b] H Q) : tCons (tC (V.ty b)) tNil σ H (fun xs H2 => rIsi K (x :: xs) H2 Q) := h
theorem gTupN2 {K : PySem.W.Frag} {a : Addr} {v w : V} {i j : Nat} {σ : L2.St} {H : Hp} {Q : L2.St → Hp → Prop} (h : SqT K H a [v, w]) (q : Q ((σ.set i (some v)).set j (some w)) H) : gTup K 2 (gCons (gName i) (gCons (gName j) gNil)) (.ref a) σ H Q :=
  ⟨a, _, rfl, h, rfl, v, _, rfl, w, _, rfl, rfl, q⟩
theorem gTupN3 {K : PySem.W.Frag} {a : Addr} {v w x : V} {i j k : Nat} {σ : L2.St} {H : Hp} {Q : L2.St → Hp → Prop} (h : SqT K H a [v, w, x]) (q : Q (((σ.set i (some v)).set j (some w)).set k (some x)) H) : gTup K 3 (gCons (gName i) (gCons (gName j) (gCons (gName k) gNil))) (.ref a) σ H Q :=
  ⟨a, _, rfl, h, rfl, v, _, rfl, w, _, rfl, x, _, rfl, rfl, q⟩
theorem tyV_list {K : PySem.W.Frag} {H : Hp} {p : Addr} {xs : List V} (h : H p = some (.lst xs)) : tyV K "list" (.ref p) H := .inl ⟨rfl, xs, .inl (.inl h)⟩
theorem app_to {H : Hp} {p : Addr} {xs : List V} {y : V} {Q : VK} (h : H p = some (.lst xs)) (hz : xs.length < sizeLine) (q : Q .non (upd H p (.lst (xs ++ [y])))) : rAppend (.ref p) [y] H Q := ⟨p, xs, y, rfl, rfl, h, hz, q⟩
theorem app_new {H : Hp} {p : Addr} {xs : List V} {y : V} {Q : VK} (hz : xs.length < sizeLine) (q : Q .non (upd H p (.lst (xs ++ [y])))) : rAppend (.ref p) [y] (upd H p (.lst xs)) Q := ⟨p, xs, y, rfl, rfl, upd_same, hz, by rw [upd_upd]; exact q⟩
theorem rev_new {H : Hp} {p : Addr} {xs : List V} {Q : VK} (q : Q .non (upd H p (.lst xs.reverse))) : rReverse (.ref p) [] (upd H p (.lst xs)) Q := ⟨p, xs, rfl, rfl, upd_same, by rw [upd_upd]; exact q⟩
/-- the end of a law: what it raises may hang on the world -/
theorem walk_ofW {l : PySem.W.OpenLaw} {n k : Nat} {q : Program} {loose : List Str} {XP : (Str → Option Value) → Heap → Prop} {YP : World → Heap → Prop} {d : DefRec} {CX : World → CXT} {x : Str} (h1 : l.most = some n) (h2 : n ≤ sizeLine) (h3 : d.params.defaults = [])
    (h4 : Room k callerA)
    (F : ∀ (w : World) (mg : Str → Option Value) (fa : Addr) (h : Heap), YP w h → h.Ns mainGlobals mg → mg d.name = some (.ref fa) → ∃ (K : PySem.W.Frag) (fd : FuncData) (sp : Sp), K.In h ∧ (∀ (s : Shared) (u : Value), BindsTo s fd ⟨[u], []⟩ [(x, u)]) ∧
      (∀ (H : Hp) (a : Addr) (ns : List Int), ns.length ≤ n → Only H → SqL K H a (ns.map V.int) → sp [.ref a] H (fun v _ => v = .bl true) fun _ _ _ => False) ∧ ∀ base : Heap, K.In base → base.Ns mainGlobals mg → FnOk l.prog w K mg base (CX w) k fa fd [x] sp)
    (h5 : ∀ (w : World) (H : Hp) (s : Shared) (e : Value) (s1 : Shared), CX w [] H s (fun _ _ _ => False) e s1 → False) : PySem.W.WalkO q loose XP YP l.row.toRowW d [] (fun f vs => PySem.call f vs) := by
  refine Att.attach_call h1 h3 ?_
  intro w s0 s1 mg mb fa o pm cd doc a vs ns G Y _ _ _ hm hob hin hln hg
  obtain ⟨K, fd, sp, kx, b1, b2, b3⟩ := F w mg fa _ Y G.T.g hm
  exact law_call kx G.T.g G.T.b G.T.builtins G.T.nolimit hg hob hin (Nat.le_trans hln h2) h4 b3 b1 (fun H y z => b2 H a ns hln y z) (fun H e s2 => h5 w H s1 e s2)
theorem cx_none {P : Program} {w : World} {l : List Env} {H : Hp} {s : Shared} {e : Value} {s1 : Shared} (h : L2.CX P w l H s (fun _ _ _ => False) e s1) : False := by
  obtain ⟨_, _, _, _, _, _, _, _, _, _, _, _, z⟩ := h
  exact z
end Sm
/-! SmMath: plain mathematics of marks. -/
namespace Sm
open PySem PySem.Spec PyProof.Rows L2
theorem mulW {i j : Int} (a b : Nat) (h1 : i.natAbs < 2 ^ a) (h2 : j.natAbs < 2 ^ b) (ha : 0 < a := by decide) (hb : 0 < b := by decide) (h : a + b ≤ 1000000 := by decide) : CMulW i j := wide_mul h1 h2 ha hb h
theorem mulW64 {i j : Int} (h1 : -(2 ^ 64) < i ∧ i < 2 ^ 64) (h2 : -(2 ^ 64) < j ∧ j < 2 ^ 64) : CMulW i j := mulW 64 64 (by omega) (by omega)
theorem divW64 {i j : Int} (h1 : 0 < j) (h2 : j < 2 ^ 64) : CDivW i j := wide_div (b := 64) h1 (by omega) (by decide) (by decide)
/-! ### ifs -/
theorem iteD {p A B : Prop} [Decidable p] (h1 : p → A) (h2 : ¬ p → B) : if decide p = true then A else B := by
  by_cases h : p
  · rw [decide_eq_true h]; exact iteT (h1 h)
  · rw [decide_eq_false h]; exact iteF (h2 h)
theorem iteDN {p A B : Prop} [Decidable p] (h1 : ¬ p → A) (h2 : p → B) : if (!decide p) = true then A else B := by
  by_cases h : p
  · rw [decide_eq_true h]; exact iteF (h2 h)
  · rw [decide_eq_false h]; exact iteT (h1 h)
theorem iteEI {x y : Int} {A B : Prop} (h1 : x = y → A) (h2 : ¬ x = y → B) : if decide (V.int x = V.int y) = true then A else B :=
  iteD (fun h => h1 (V.int.inj h)) fun h => h2 fun e => h (by rw [e])
theorem iteNI {x y : Int} {A B : Prop} (h1 : ¬ x = y → A) (h2 : x = y → B) : if (!decide (V.int x = V.int y)) = true then A else B :=
  iteDN (fun h => h1 fun e => h (by rw [e])) fun h => h2 (V.int.inj h)
theorem iteES {x y : Str} {A B : Prop} (h1 : x = y → A) (h2 : ¬ x = y → B) : if decide (V.str x = V.str y) = true then A else B :=
  iteD (fun h => h1 (V.str.inj h)) fun h => h2 fun e => h (by rw [e])
theorem iteNS' {x y : Str} {A B : Prop} (h1 : ¬ x = y → A) (h2 : x = y → B) : if (!decide (V.str x = V.str y)) = true then A else B :=
  iteDN (fun h => h1 fun e => h (by rw [e])) fun h => h2 (V.str.inj h)
theorem sz : sizeLine = 16777216 := sizeLine_eq
/-! ### letters, texts -/
open SX
/-- a text of letters by their numbers -/
def txt (ds : List Nat) : Str := S (ds.map (97 + ·))
abbrev LET : Str := "abcdefghijklmnopqrstuvwxyz"
theorem let_S : LET = txt (List.range 26) := by decide +kernel
theorem txt_len (ds : List Nat) : (txt ds).length = ds.length := by unfold txt; rw [S_len, List.length_map]
theorem txt_inj {a b : List Nat} (h : txt a = txt b) : a = b := by
  have e := S_inj h
  exact List.map_inj_right (fun x y h => by omega) |>.mp e
theorem txt_cat (a b : List Nat) : txt a ++ txt b = txt (a ++ b) := by unfold txt; rw [S_cat, List.map_append]
theorem txt_tl (ds : List Nat) : (txt ds).cps.toList = ds.map (97 + ·) := rfl
theorem txt_nil : txt [] = ("" : Str) := by decide +kernel
theorem let_len : ("abcdefghijklmnopqrstuvwxyz" : Str).length = 26 := by decide +kernel
theorem S_nil : ("" : Str) = S [] := by decide +kernel
theorem S_a : ("a" : Str) = S [97] := by decide +kernel
theorem let_atN {i : Nat} (h : i < 26) : LET.cps.toList[i]? = some (97 + i) := by
  rw [let_S, txt_tl, List.getElem?_map, List.getElem?_range h]; rfl
theorem let_at {j : Int} (h0 : 0 ≤ j) (h : j < 26) : atI LET.cps.toList j = some (97 + j.toNat) := by
  obtain ⟨n, rfl⟩ := Int.eq_ofNat_of_zero_le h0
  exact atI_nat (let_atN (by omega))
theorem join_txt (ds : List Nat) : Txt.join ("" : Str) (ds.map fun d => txt [d]) = txt ds := by
  have e : (ds.map fun d => txt [d]) = ((ds.map fun d => [97 + d]).map S) := by rw [List.map_map]; rfl
  rw [e, show ("" : Str) = S [] by decide +kernel, join_S]
  refine congrArg S ?_
  clear e
  induction ds with
  | nil => rfl
  | cons a r ih =>
    cases r with
    | nil => rfl
    | cons b r =>
      show [97 + a] ++ ([] ++ TL.joinL [] ((b :: r).map fun d => [97 + d])) = _
      rw [ih]; rfl
theorem slice_mid {a : List Nat} {i j : Nat} (h1 : i ≤ j) (h2 : j ≤ a.length) : Txt.slice (S a) (some (i : Int)) (some (j : Int)) = S ((a.drop i).take (j - i)) := by
  have e := beq_iff_eq.mp (PyProof.Rows.slice_closesL (x := S a) (i := (i : Int)) (j := (j : Int)) (by omega) (by omega) (by rw [S_len]; omega))
  refine e.trans ?_
  show S (List.take _ (List.drop _ a)) = _
  rw [Int.toNat_natCast, show ((j : Int) - i).toNat = j - i by omega]
theorem slice_txt {ds : List Nat} {i j : Nat} (h1 : i ≤ j) (h2 : j ≤ ds.length) : Txt.slice (txt ds) (some (i : Int)) (some (j : Int)) = txt ((ds.drop i).take (j - i)) := by
  unfold txt
  rw [slice_mid h1 (by rw [List.length_map]; exact h2), ← List.map_drop, ← List.map_take]
/-! ### order of texts, sorted ones -/
theorem str_ext {x y : Str} (h : x.cps.toList = y.cps.toList) : x = y := by
  obtain ⟨a⟩ := x; obtain ⟨b⟩ := y
  have h' : a.toList = b.toList := h
  rw [Array.toList_inj.mp h']
theorem rising_pw : ∀ {l : List Str} {p : Str}, risingS p l = true → (p :: l).Pairwise fun a b => a.cps.toList ≤ b.cps.toList
  | [], p, _ => List.pairwise_singleton _ _
  | x :: r, p, h => by
    have h' : (!ltCps x.cps.toList p.cps.toList && risingS x r) = true := h
    rw [Bool.and_eq_true, ltCps_eq, Bool.not_eq_true', decide_eq_false_iff_not] at h'
    have ih := rising_pw h'.2
    refine List.pairwise_cons.mpr ⟨fun b hb => ?_, ih⟩
    have px : p.cps.toList ≤ x.cps.toList := h'.1
    rcases List.mem_cons.mp hb with rfl | hb
    · exact px
    · exact List.le_trans px ((List.pairwise_cons.mp ih).1 b hb)
theorem sorted_pw : ∀ {l : List Str}, sortedS l = true → l.Pairwise fun a b => a.cps.toList ≤ b.cps.toList
  | [], _ => List.Pairwise.nil
  | _ :: _, h => rising_pw h
theorem sorted_eq {xs ys : List Str} (hp : ys.Perm xs) (hs : sortedS ys = true) (hx : xs.Pairwise fun a b => a.cps.toList ≤ b.cps.toList) : ys = xs :=
  List.Perm.eq_of_pairwise (le := fun a b => a.cps.toList ≤ b.cps.toList) (fun a b _ _ h1 h2 => str_ext (List.le_antisymm h1 h2)) (sorted_pw hs) hx hp
theorem sorted_eqP {xs ys : List Str} (hp : ys.Perm xs) (hs : ys.Pairwise fun a b => a.cps.toList ≤ b.cps.toList) (hx : xs.Pairwise fun a b => a.cps.toList ≤ b.cps.toList) : ys = xs :=
  List.Perm.eq_of_pairwise (le := fun a b => a.cps.toList ≤ b.cps.toList) (fun a b _ _ h1 h2 => str_ext (List.le_antisymm h1 h2)) hs hx hp
/-! ### two lists of texts compared -/
theorem dpAll_strs {K : PySem.W.Frag} {H : Hp} : ∀ ys : List Str, DpAll K H (ys.map V.str) (ys.map PyData.str)
  | [] => .nil
  | y :: r => .cons (.str y) (dpAll_strs r)
structure Sh (n : Nat) (d : PyData) : Prop where
  lay : d.canLay0 = true
  dep : d.depth ≤ n
theorem Sh.shaped {n : Nat} {d : PyData} (h : Sh n d) (hn : n ≤ 64 := by decide) : SeqAt.shaped d = true := by
  show (d.canLay0 && decide (d.depth ≤ 64)) = true
  rw [h.lay, decide_eq_true (Nat.le_trans h.dep hn)]; rfl
theorem Sh.int {n : Nat} (i : Int) : Sh n (.int i) := ⟨by simp [PyData.canLay0], by simp [PyData.depth]⟩
theorem Sh.bl {n : Nat} (i : Bool) : Sh n (.bool i) := ⟨by simp [PyData.canLay0], by simp [PyData.depth]⟩
theorem Sh.non {n : Nat} : Sh n .none := ⟨by simp [PyData.canLay0], by simp [PyData.depth]⟩
theorem Sh.str {n : Nat} {x : Str} (h : PyData.strOk x = true) : Sh n (.str x) := ⟨by simpa [PyData.canLay0] using h, by simp [PyData.depth]⟩
theorem sh_all {n : Nat} : ∀ {ds : List PyData}, (∀ d ∈ ds, Sh n d) → PyData.canLayAll0 ds = true ∧ PyData.depthAll ds ≤ n
  | [], _ => ⟨by simp [PyData.canLayAll0], by simp [PyData.depthAll]⟩
  | d :: ds, h => by
    obtain ⟨a, b⟩ := sh_all fun x hx => h x (List.mem_cons_of_mem _ hx)
    have c := h d List.mem_cons_self
    exact ⟨by simp [PyData.canLayAll0, a, c.lay], by simp only [PyData.depthAll]; exact Nat.max_le.mpr ⟨c.dep, b⟩⟩
theorem Sh.list {n : Nat} {ds : List PyData} (h : ∀ d ∈ ds, Sh n d) : Sh (n + 1) (.list ds) := by
  obtain ⟨a, b⟩ := sh_all h
  exact ⟨by simpa [PyData.canLay0] using a, by simp only [PyData.depth]; omega⟩
theorem Sh.tup {n : Nat} {ds : List PyData} (h : ∀ d ∈ ds, Sh n d) : Sh (n + 1) (.tuple ds) := by
  obtain ⟨a, b⟩ := sh_all h
  exact ⟨by simpa [PyData.canLay0] using a, by simp only [PyData.depth]; omega⟩
theorem strOk_S {l : List Nat} (h : ∀ c ∈ l, c < 0x110000) : PyData.strOk (S l) = true := by
  show (S l).cps.all (· < 0x110000) = true
  rw [← Array.all_toList]
  exact List.all_eq_true.mpr fun c hc => decide_eq_true (h c hc)
theorem strOk_txt {ds : List Nat} (h : ∀ d ∈ ds, d < 1000) : PyData.strOk (txt ds) = true := strOk_S fun c hc => by
  obtain ⟨d, hd, rfl⟩ := List.mem_map.mp hc
  have := h d hd
  omega
theorem sh_strs {ys : List Str} (h : ∀ y ∈ ys, PyData.strOk y = true) : Sh 1 (.list (ys.map PyData.str)) := Sh.list fun d hd => by
  obtain ⟨y, hy, rfl⟩ := List.mem_map.mp hd
  exact Sh.str (h y hy)
theorem eqvAll_strs : ∀ xs ys : List Str, PyData.eqvAll (xs.map .str) (ys.map .str) = decide (xs = ys)
  | [], [] => by simp [PyData.eqvAll]
  | x :: xs, y :: ys => by
    rw [List.map_cons, List.map_cons, PyData.eqvAll, PyData.eqv, eqvAll_strs xs ys]
    by_cases h : x = y
    · subst h; simp
    · simp [h]
  | [], y :: ys => by simp [PyData.eqvAll]
  | x :: xs, [] => by simp [PyData.eqvAll]
theorem eqv_strs (xs ys : List Str) : PyData.eqv (.list (xs.map .str)) (.list (ys.map .str)) = decide (xs = ys) := by rw [PyData.eqv, eqvAll_strs]
/-! ### an item by its place -/
theorem pick {xs : List V} {e : Int} (P : V → Prop) (h0 : 0 ≤ e) (h1 : e < xs.length) (hP : ∀ x ∈ xs, P x) : ∃ x, atI xs e = some x ∧ P x := by
  obtain ⟨n, rfl⟩ := Int.eq_ofNat_of_zero_le h0
  have hn : n < xs.length := by omega
  exact ⟨xs[n], atI_nat (List.getElem?_eq_getElem hn), hP _ (List.getElem_mem hn)⟩
theorem all1 {α : Type} {P : α → Prop} {x : α} {r : List α} (h : P x) (t : ∀ y ∈ r, P y) : ∀ y ∈ x :: r, P y := fun y hy => by
  rcases List.mem_cons.mp hy with rfl | hy
  · exact h
  · exact t y hy
theorem all0 {α : Type} {P : α → Prop} : ∀ y ∈ ([] : List α), P y := fun _ h => nomatch h
/-! ### the law's own head -/
def sp_law (K : PySem.W.Frag) : Sp := fun vs H Q _ => ∃ (a : Addr) (ns : List Int), vs = [.ref a] ∧ SqL K H a (ns.map V.int) ∧ ns.length ≤ 63 ∧ Only H ∧ ∀ H', Q (.bl true) H'
theorem law_in {K : PySem.W.Frag} {H : Hp} {a : Addr} {ns : List Int} (hO : Only H) (hS : SqL K H a (ns.map V.int)) (hl : ns.length ≤ 63) : sp_law K [.ref a] H (fun v _ => v = .bl true) fun _ _ _ => False :=
  ⟨a, ns, rfl, hS, hl, hO, fun _ => rfl⟩
/-- the letters from b on whose number less 1 has rest d by h -/
def ends (L h d : Nat) : List Nat := ((List.range (L - 1)).filter fun i => i % h == d).map (· + 1)
theorem ends_le (L h d : Nat) : (ends L h d).length ≤ L := by
  unfold ends
  rw [List.length_map]
  exact Nat.le_trans (List.length_filter_le _ _) (by rw [List.length_range]; omega)
theorem filt_step {w d m m2 : Nat} (hd : m % w = d) (h1 : m < m2) (h2 : m2 ≤ m + w) : (List.range m2).filter (fun i => i % w == d) = (List.range m).filter (fun i => i % w == d) ++ [m] := by
  obtain ⟨k, rfl⟩ : ∃ k, m2 = m + 1 + k := ⟨m2 - (m + 1), by omega⟩
  induction k with
  | zero =>
    rw [Nat.add_zero, List.range_succ, List.filter_append, List.filter_cons, if_pos (beq_iff_eq.mpr hd)]; rfl
  | succ k ih =>
    have hne : ¬ ((m + 1 + k) % w == d) = true := fun h => by
      have e : (m + 1 + k) % w = m % w := (beq_iff_eq.mp h).trans hd.symm
      have z := Nat.sub_mod_eq_zero_of_mod_eq e
      rw [show m + 1 + k - m = k + 1 by omega, Nat.mod_eq_of_lt (by omega)] at z
      omega
    rw [show m + 1 + (k + 1) = (m + 1 + k) + 1 by omega, List.range_succ, List.filter_append, ih (by omega) (by omega), List.filter_cons, if_neg hne]
    show _ ++ [] = _
    rw [List.append_nil]
theorem filt_none {w d m : Nat} (h : m ≤ d) (hd : d < w) : (List.range m).filter (fun i => i % w == d) = [] := by
  rw [List.filter_eq_nil_iff]
  intro i hi
  have := List.mem_range.mp hi
  rw [Nat.mod_eq_of_lt (by omega), beq_iff_eq]
  omega
theorem ends_mem {L h d k : Nat} : k ∈ ends L h d ↔ 1 ≤ k ∧ k < L ∧ (k - 1) % h = d := by
  unfold ends
  rw [List.mem_map]
  constructor
  · rintro ⟨i, hi, rfl⟩
    obtain ⟨h1, h2⟩ := List.mem_filter.mp hi
    have := List.mem_range.mp h1
    exact ⟨by omega, by omega, by simpa using h2⟩
  · rintro ⟨h1, h2, h3⟩
    exact ⟨k - 1, List.mem_filter.mpr ⟨List.mem_range.mpr (by omega), by simpa using h3⟩, by omega⟩
theorem ends_ne {L h d : Nat} (h1 : d < h) (h2 : h < L) : ends L h d ≠ [] := fun e => by
  have : d + 1 ∈ ends L h d := ends_mem.mpr ⟨by omega, by omega, by rw [Nat.add_sub_cancel, Nat.mod_eq_of_lt h1]⟩
  rw [e] at this
  cases this
theorem nodup_filter {α : Type} {p : α → Bool} {l : List α} (h : l.Nodup) : (l.filter p).Nodup := List.filter_sublist.nodup h
theorem nodup_map {α β : Type} {f : α → β} (hf : ∀ x y, f x = f y → x = y) {l : List α} (h : l.Nodup) : (l.map f).Nodup :=
  List.Pairwise.map f (fun _ _ n e => n (hf _ _ e)) h
theorem ends_nodup (L h d : Nat) : (ends L h d).Nodup := nodup_map (fun _ _ e => by omega) (nodup_filter List.nodup_range)
/-- the ends of all hands ahead of n -/
def allEnds (L h : Nat) : Nat → List Nat
  | 0 => []
  | n + 1 => allEnds L h n ++ ends L h n
theorem allEnds_mem {L h : Nat} : ∀ {n k : Nat}, k ∈ allEnds L h n ↔ 1 ≤ k ∧ k < L ∧ (k - 1) % h < n
  | 0, k => ⟨fun h => (by cases h), fun h => by omega⟩
  | n + 1, k => by
    show k ∈ allEnds L h n ++ ends L h n ↔ _
    rw [List.mem_append, allEnds_mem, ends_mem]
    omega
theorem allEnds_nodup (L h : Nat) : ∀ n, (allEnds L h n).Nodup
  | 0 => List.nodup_nil
  | n + 1 => List.nodup_append.mpr ⟨allEnds_nodup L h n, ends_nodup L h n, fun a ha b hb e => by
      have h1 := (allEnds_mem.mp ha).2.2
      have h2 := (ends_mem.mp hb).2.2
      rw [← e] at h2
      omega⟩
theorem allEnds_len (L h n : Nat) : (allEnds L h n).length ≤ L - 1 := by
  have h1 := List.Nodup.length_le_of_subset (allEnds_nodup L h n) (l₂ := (List.range (L - 1)).map (· + 1)) fun k hk => by
    have := allEnds_mem.mp hk
    exact List.mem_map.mpr ⟨k - 1, List.mem_range.mpr (by omega), by omega⟩
  rw [List.length_map, List.length_range] at h1
  exact h1
theorem allEnds_perm {L h : Nat} (h0 : 0 < h) : (allEnds L h h).Perm ((List.range (L - 1)).map (· + 1)) := by
  refine (List.perm_ext_iff_of_nodup (allEnds_nodup L h h) (nodup_map (fun _ _ e => by omega) List.nodup_range)).mpr fun k => ?_
  rw [allEnds_mem, List.mem_map]
  constructor
  · rintro ⟨h1, h2, _⟩
    exact ⟨k - 1, List.mem_range.mpr (by omega), by omega⟩
  · rintro ⟨i, hi, rfl⟩
    have := List.mem_range.mp hi
    exact ⟨by omega, by omega, Nat.mod_lt _ h0⟩
theorem chars_txt (ds : List Nat) : chars (txt ds) = ds.map fun d => txt [d] := by
  show (List.map _ (txt ds).cps.toList) = _
  rw [txt_tl, List.map_map]; rfl
theorem letters_from_b (L : Nat) (h : L ≤ 26) (h1 : 1 ≤ L) : Txt.slice LET (some 1) (some (L : Int)) = txt ((List.range (L - 1)).map (· + 1)) := by
  rw [let_S]
  have e := slice_txt (ds := List.range 26) (i := 1) (j := L) h1 (by rw [List.length_range]; exact h)
  refine e.trans (congrArg txt ?_)
  apply List.ext_getElem?
  intro k
  rw [List.getElem?_map, List.getElem?_take, List.getElem?_drop]
  by_cases hk : k < L - 1
  · rw [if_pos hk, List.getElem?_range (show 1 + k < 26 by omega), List.getElem?_range hk]
    show some (1 + k) = some (k + 1)
    rw [Nat.add_comm]
  · rw [if_neg hk, List.getElem?_eq_none (l := List.range (L - 1)) (by rw [List.length_range]; omega)]
    rfl
theorem singles_pw {ds : List Nat} (h : ds.Pairwise (· < ·)) : (ds.map fun d => txt [d]).Pairwise fun a b => a.cps.toList ≤ b.cps.toList := by
  refine List.Pairwise.map _ (fun a b hab => ?_) h
  show [97 + a] ≤ [97 + b]
  exact List.le_of_lt (List.Lex.rel (by omega))
/-! ### marks as texts -/
/-- a sign is one of the first L letters -/
def isLet (L c : Nat) : Bool := decide (97 ≤ c) && decide (c < 97 + L)
/-- a text is a mark -/
def isMk (L : Nat) (l : List Nat) : Bool := !l.isEmpty && (!(l.getLast? == some 97) && l.all (isLet L))
theorem let_take {L : Nat} (h : L ≤ 26) : Txt.slice LET none (some (L : Int)) = txt (List.range L) := by
  rw [let_S]
  unfold txt
  rw [slice_to (by omega), Int.toNat_natCast, ← List.map_take, List.take_range]
  rw [show min L 26 = L by omega]
theorem mem_take {L c : Nat} : decide (c ∈ (txt (List.range L)).cps.toList) = isLet L c := by
  rw [txt_tl, Bool.eq_iff_iff, decide_eq_true_iff, isLet, Bool.and_eq_true, decide_eq_true_iff, decide_eq_true_iff, List.mem_map]
  constructor
  · rintro ⟨d, hd, rfl⟩
    have := List.mem_range.mp hd
    omega
  · rintro ⟨h1, h2⟩
    exact ⟨c - 97, List.mem_range.mpr (by omega), by omega⟩
theorem at_last {α : Type} {l : List α} (h : l ≠ []) : atI l (-1) = some (l.getLast h) := by
  have := atI_last l.dropLast (l.getLast h)
  rw [List.dropLast_concat_getLast] at this
  exact this
theorem at_len1 {α : Type} {l : List α} (h : l ≠ []) {j : Int} (e : j = (l.length : Int) - 1) : atI l j = some (l.getLast h) := by
  have hp : 0 < l.length := List.length_pos_iff.mpr h
  rw [e, show (l.length : Int) - 1 = ((l.length - 1 : Nat) : Int) by omega]
  refine atI_nat ?_
  rw [List.getLast_eq_getElem, List.getElem?_eq_getElem]
theorem S1_inj {c d : Nat} (h : (S [c] : Str) = S [d]) : c = d := by
  have := S_inj h
  simpa using this
theorem at_some {α : Type} {l : List α} {j : Int} (h0 : 0 ≤ j) (h1 : j < l.length) : ∃ c, atI l j = some c := by
  obtain ⟨n, rfl⟩ := Int.eq_ofNat_of_zero_le h0
  exact ⟨l[n]'(by omega), atI_nat (List.getElem?_eq_getElem (by omega))⟩
/-! ### figures, wholes, marks -/
/-- figures, first the lightest -/
def low (L n : Nat) : Nat → List Nat
  | 0 => []
  | k + 1 => low L n k ++ [n / L ^ k % L]
def digs (L n k : Nat) : List Nat := (low L n k).reverse
def trim (ds : List Nat) : List Nat := (ds.reverse.dropWhile (· == 0)).reverse
def markOf (L n k : Nat) : List Nat := trim (digs L n k)
def whole (L : Nat) (ds : List Nat) : Nat → Nat
  | 0 => 0
  | k + 1 => whole L ds k * L + ds.getD k 0
theorem low_len (L n : Nat) : ∀ k, (low L n k).length = k
  | 0 => rfl
  | k + 1 => by show (low L n k ++ _).length = _; rw [List.length_append, low_len L n k]; rfl
theorem low_cons (L n : Nat) : ∀ k, low L n (k + 1) = n % L :: low L (n / L) k
  | 0 => by show [] ++ [n / L ^ 0 % L] = _; rw [Nat.pow_zero, Nat.div_one]; rfl
  | k + 1 => by
    show low L n (k + 1) ++ [n / L ^ (k + 1) % L] = _
    rw [low_cons L n k, Nat.pow_succ, Nat.mul_comm, ← Nat.div_div_eq_div_mul]; rfl
theorem digs_len (L n k : Nat) : (digs L n k).length = k := by unfold digs; rw [List.length_reverse, low_len]
theorem digs_succ (L n k : Nat) : digs L n (k + 1) = digs L (n / L) k ++ [n % L] := by unfold digs; rw [low_cons, List.reverse_cons]
theorem low_lt {L n : Nat} (hL : 0 < L) : ∀ k, ∀ d ∈ low L n k, d < L
  | 0, d, h => nomatch h
  | k + 1, d, h => by
    rcases List.mem_append.mp h with h | h
    · exact low_lt hL k d h
    · rw [List.mem_singleton.mp h]; exact Nat.mod_lt _ hL
theorem digs_lt {L n k : Nat} (hL : 0 < L) : ∀ d ∈ digs L n k, d < L := fun d h => low_lt hL k d (List.mem_reverse.mp h)
theorem trim_snoc0 (ds : List Nat) : trim (ds ++ [0]) = trim ds := by unfold trim; rw [List.reverse_append]; rfl
theorem trim_last {ds : List Nat} (h : ∀ hn : ds ≠ [], ds.getLast hn ≠ 0) : trim ds = ds := by
  rcases List.eq_nil_or_concat ds with rfl | ⟨as, d, rfl⟩
  · rfl
  · have hd : d ≠ 0 := by simpa using h (by simp)
    unfold trim
    rw [List.concat_eq_append, List.reverse_append, List.reverse_singleton, List.singleton_append, List.dropWhile_cons, if_neg (by simpa using hd), List.reverse_cons, List.reverse_reverse]
theorem trim_rep (ds : List Nat) : ∀ m, trim (ds ++ List.replicate m 0) = trim ds
  | 0 => by rw [List.replicate_zero, List.append_nil]
  | m + 1 => by rw [List.replicate_succ', ← List.append_assoc, trim_snoc0, trim_rep ds m]
theorem trim_spec (ds : List Nat) : ∃ m, ds = trim ds ++ List.replicate m 0 := by
  suffices ∀ k (ds : List Nat), ds.length = k → ∃ m, ds = trim ds ++ List.replicate m 0 from this _ ds rfl
  intro k
  induction k with
  | zero => intro ds h; rw [List.length_eq_zero_iff.mp h]; exact ⟨0, rfl⟩
  | succ k ih =>
    intro ds h
    rcases List.eq_nil_or_concat ds with rfl | ⟨as, d, rfl⟩
    · exact ⟨0, rfl⟩
    · rw [List.concat_eq_append] at h ⊢
      by_cases hd : d = 0
      · subst hd
        obtain ⟨m, e⟩ := ih as (by simpa using h)
        refine ⟨m + 1, ?_⟩
        rw [trim_snoc0, List.replicate_succ', ← List.append_assoc, ← e]
      · refine ⟨0, ?_⟩
        rw [trim_last (fun _ => by simpa using hd), List.replicate_zero, List.append_nil]
theorem trim_ok (ds : List Nat) (h : trim ds ≠ []) : (trim ds).getLast h ≠ 0 := by
  intro e
  unfold trim at h e
  rw [List.getLast_reverse] at e
  have := List.head_dropWhile_not (fun x : Nat => x == 0) (l := ds.reverse) (by simpa using h)
  rw [e] at this
  simp at this
theorem trim_sub (ds : List Nat) : ∀ d ∈ trim ds, d ∈ ds := fun d h => by
  obtain ⟨m, e⟩ := trim_spec ds
  rw [e]; exact List.mem_append_left _ h
theorem trim_len (ds : List Nat) : (trim ds).length ≤ ds.length := by
  obtain ⟨m, e⟩ := trim_spec ds
  have := congrArg List.length e
  rw [List.length_append] at this
  omega
theorem getD_rep (ds : List Nat) (m j : Nat) : (ds ++ List.replicate m 0).getD j 0 = ds.getD j 0 := by
  rw [List.getD_eq_getElem?_getD, List.getD_eq_getElem?_getD, List.getElem?_append]
  by_cases h : j < ds.length
  · rw [if_pos h]
  · rw [if_neg h, List.getElem?_eq_none (l := ds) (by omega), List.getElem?_replicate]
    split <;> rfl
theorem trim_getD (ds : List Nat) (j : Nat) : (trim ds).getD j 0 = ds.getD j 0 := by
  obtain ⟨m, e⟩ := trim_spec ds
  conv => rhs; rw [e]
  rw [getD_rep]
theorem whole_congr {L : Nat} {a b : List Nat} : ∀ {k}, (∀ j, j < k → a.getD j 0 = b.getD j 0) → whole L a k = whole L b k
  | 0, _ => rfl
  | k + 1, h => by
    show whole L a k * L + a.getD k 0 = whole L b k * L + b.getD k 0
    rw [whole_congr fun j hj => h j (by omega), h k (by omega)]
theorem whole_trim (L : Nat) (ds : List Nat) (k : Nat) : whole L (trim ds) k = whole L ds k := whole_congr fun j _ => trim_getD ds j
theorem whole_nil (L : Nat) : ∀ k, whole L [] k = 0
  | 0 => rfl
  | k + 1 => by show whole L [] k * L + 0 = 0; rw [whole_nil L k, Nat.zero_mul]
theorem whole_cons (L d : Nat) (ds : List Nat) : ∀ k, whole L (d :: ds) (k + 1) = d * L ^ k + whole L ds k
  | 0 => by show 0 * L + d = d * L ^ 0 + 0; rw [Nat.zero_mul, Nat.pow_zero, Nat.mul_one, Nat.zero_add, Nat.add_zero]
  | k + 1 => by
    show whole L (d :: ds) (k + 1) * L + (d :: ds).getD (k + 1) 0 = d * L ^ (k + 1) + (whole L ds k * L + ds.getD k 0)
    rw [whole_cons L d ds k, Nat.add_mul, Nat.pow_succ, Nat.mul_assoc, Nat.add_assoc]; rfl
theorem getD_lt {L : Nat} (hL : 0 < L) {ds : List Nat} (h : ∀ d ∈ ds, d < L) (j : Nat) : ds.getD j 0 < L := by
  rw [List.getD_eq_getElem?_getD]
  cases e : ds[j]? with
  | none => exact hL
  | some d => exact h d (List.mem_of_getElem? e)
theorem whole_lt {L : Nat} (hL : 0 < L) {ds : List Nat} (h : ∀ d ∈ ds, d < L) : ∀ k, whole L ds k < L ^ k
  | 0 => by show 0 < L ^ 0; rw [Nat.pow_zero]; decide
  | k + 1 => by
    show whole L ds k * L + ds.getD k 0 < L ^ (k + 1)
    have h1 := whole_lt hL h k
    have h2 := getD_lt hL h k
    rw [Nat.pow_succ]
    have := Nat.mul_le_mul_right L (show whole L ds k + 1 ≤ L ^ k from h1)
    rw [Nat.add_mul, Nat.one_mul] at this
    omega
theorem whole_digs {L : Nat} : ∀ (k n : Nat), whole L (digs L n k) k = n % L ^ k
  | 0, n => by rw [Nat.pow_zero, Nat.mod_one]; rfl
  | k + 1, n => by
    show whole L (digs L n (k + 1)) k * L + (digs L n (k + 1)).getD k 0 = _
    have e1 : (digs L n (k + 1)).getD k 0 = n % L := by
      rw [digs_succ, List.getD_eq_getElem?_getD, List.getElem?_append_right (by rw [digs_len]; exact Nat.le_refl _), digs_len, Nat.sub_self]; rfl
    have e2 : whole L (digs L n (k + 1)) k = whole L (digs L (n / L) k) k := whole_congr fun j hj => by
      rw [digs_succ, List.getD_eq_getElem?_getD, List.getD_eq_getElem?_getD, List.getElem?_append_left (by rw [digs_len]; exact hj)]
    rw [e1, e2, whole_digs k (n / L), Nat.pow_succ, Nat.mul_comm (L ^ k) L, Nat.mod_mul, Nat.mul_comm, Nat.add_comm]
theorem whole_mark {L n k : Nat} (h : n < L ^ k) : whole L (markOf L n k) k = n := by
  unfold markOf
  rw [whole_trim, whole_digs, Nat.mod_eq_of_lt h]
/-- the first k figures, none missing -/
def cut (ds : List Nat) (k : Nat) : List Nat := ds.take k ++ List.replicate (k - ds.length) 0
theorem digs_whole {L : Nat} (hL : 0 < L) {ds : List Nat} (h : ∀ d ∈ ds, d < L) : ∀ k, digs L (whole L ds k) k = (List.range k).map fun j => ds.getD j 0
  | 0 => rfl
  | k + 1 => by
    have h2 := getD_lt hL h k
    rw [digs_succ]
    show digs L ((whole L ds k * L + ds.getD k 0) / L) k ++ [(whole L ds k * L + ds.getD k 0) % L] = _
    rw [Nat.mul_comm, Nat.mul_add_div hL, Nat.div_eq_of_lt h2, Nat.add_zero, Nat.mul_add_mod, Nat.mod_eq_of_lt h2, digs_whole hL h k, List.range_succ, List.map_append]; rfl
theorem range_getD {ds : List Nat} {k : Nat} (h : ds.length ≤ k) : ((List.range k).map fun j => ds.getD j 0) = ds ++ List.replicate (k - ds.length) 0 := by
  apply List.ext_getElem?
  intro i
  rw [List.getElem?_map, List.getElem?_append]
  by_cases hi : i < k
  · rw [List.getElem?_range hi]
    show some (ds.getD i 0) = _
    rw [List.getD_eq_getElem?_getD]
    by_cases h2 : i < ds.length
    · rw [if_pos h2, List.getElem?_eq_getElem h2]; rfl
    · rw [if_neg h2, List.getElem?_eq_none (l := ds) (by omega), List.getElem?_replicate, if_pos (by omega)]; rfl
  · rw [List.getElem?_eq_none (l := List.range k) (by rw [List.length_range]; omega), if_neg (by omega), List.getElem?_replicate, if_neg (by omega)]; rfl
/-- a mark or the empty text: the last figure is not 0, all are below L -/
structure Mk0 (L : Nat) (ds : List Nat) : Prop where
  lt : ∀ d ∈ ds, d < L
  last : ∀ h : ds ≠ [], ds.getLast h ≠ 0
theorem mk0_trim {L : Nat} {ds : List Nat} (h : ∀ d ∈ ds, d < L) : Mk0 L (trim ds) := ⟨fun d hd => h d (trim_sub ds d hd), fun z => trim_ok ds z⟩
theorem mk0_markOf {L n k : Nat} (hL : 0 < L) : Mk0 L (markOf L n k) := mk0_trim (digs_lt hL)
theorem markOf_len (L n k : Nat) : (markOf L n k).length ≤ k := Nat.le_trans (trim_len _) (Nat.le_of_eq (digs_len L n k))
theorem mark_whole {L : Nat} (hL : 0 < L) {ds : List Nat} (m : Mk0 L ds) {k : Nat} (h : ds.length ≤ k) : markOf L (whole L ds k) k = ds := by
  unfold markOf
  rw [digs_whole hL m.lt, range_getD h, trim_rep, trim_last m.last]
theorem Mk0.tail {L d : Nat} {ds : List Nat} (m : Mk0 L (d :: ds)) : Mk0 L ds := ⟨fun x hx => m.lt x (List.mem_cons_of_mem _ hx), fun h => by
  have := m.last (List.cons_ne_nil _ _)
  rwa [List.getLast_cons h] at this⟩
theorem whole_pos {L : Nat} (hL : 0 < L) : ∀ {ds : List Nat} {k : Nat}, Mk0 L ds → ds ≠ [] → ds.length ≤ k → 0 < whole L ds k
  | [], _, _, h, _ => absurd rfl h
  | d :: ds, 0, _, _, h => by cases h
  | d :: ds, k + 1, m, _, h => by
    rw [whole_cons]
    by_cases hn : ds = []
    · subst hn
      have hd : d ≠ 0 := by simpa using m.last (by simp)
      have := Nat.mul_pos (Nat.pos_of_ne_zero hd) (Nat.pow_pos (n := k) hL)
      omega
    · have := whole_pos hL m.tail hn (by simpa using h)
      omega
theorem lt_whole {L : Nat} (hL : 0 < L) : ∀ {a b : List Nat} {k : Nat}, Mk0 L a → Mk0 L b → a.length ≤ k → b.length ≤ k → (a < b ↔ whole L a k < whole L b k)
  | [], [], k, _, _, _, _ => by simp
  | [], e :: b, k, _, mb, _, hb => by
    have := whole_pos hL mb (by simp) hb
    rw [whole_nil]
    exact ⟨fun _ => this, fun _ => List.nil_lt_cons _ _⟩
  | d :: a, [], k, _, _, _, _ => by
    rw [whole_nil]
    exact ⟨fun h => absurd h (List.not_lt_nil _), fun h => by omega⟩
  | d :: a, e :: b, 0, _, _, h, _ => by cases h
  | d :: a, e :: b, k + 1, ma, mb, ha, hb => by
    have ih := lt_whole hL ma.tail mb.tail (k := k) (by simpa using ha) (by simpa using hb)
    have h1 := whole_lt hL ma.tail.lt k
    have h2 := whole_lt hL mb.tail.lt k
    rw [whole_cons, whole_cons, List.cons_lt_cons_iff]
    rcases Nat.lt_trichotomy d e with h | h | h
    · have z : (d + 1) * L ^ k ≤ e * L ^ k := Nat.mul_le_mul_right _ h
      rw [Nat.add_mul, Nat.one_mul] at z
      exact ⟨fun _ => by omega, fun _ => .inl h⟩
    · subst h
      exact ⟨fun z => by
        rcases z with z | ⟨_, z⟩
        · omega
        · have := ih.mp z; omega, fun z => .inr ⟨rfl, ih.mpr (by omega)⟩⟩
    · have z : (e + 1) * L ^ k ≤ d * L ^ k := Nat.mul_le_mul_right _ h
      rw [Nat.add_mul, Nat.one_mul] at z
      exact ⟨fun z2 => by
        rcases z2 with z2 | ⟨z2, _⟩ <;> omega, fun z2 => by omega⟩
theorem whole_inj {L : Nat} (hL : 0 < L) {a b : List Nat} {k : Nat} (ma : Mk0 L a) (mb : Mk0 L b) (ha : a.length ≤ k) (hb : b.length ≤ k) (h : whole L a k = whole L b k) : a = b := by
  rw [← mark_whole hL ma ha, ← mark_whole hL mb hb, h]
theorem map_lt {a b : List Nat} : a.map (97 + ·) < b.map (97 + ·) ↔ a < b := by
  induction a generalizing b with
  | nil => cases b with
    | nil => simp
    | cons e b => exact ⟨fun _ => List.nil_lt_cons _ _, fun _ => List.nil_lt_cons _ _⟩
  | cons d a ih => cases b with
    | nil => exact ⟨fun h => absurd h (List.not_lt_nil _), fun h => absurd h (List.not_lt_nil _)⟩
    | cons e b =>
      rw [List.map_cons, List.map_cons, List.cons_lt_cons_iff, List.cons_lt_cons_iff, ih]
      constructor
      · rintro (h | ⟨h, z⟩)
        · exact .inl (by omega)
        · exact .inr ⟨by omega, z⟩
      · rintro (h | ⟨h, z⟩)
        · exact .inl (by omega)
        · exact .inr ⟨by omega, z⟩
theorem txt_lt (a b : List Nat) : decide ((txt a).cps.toList < (txt b).cps.toList) = decide (a < b) := decide_eq_decide.mpr map_lt
theorem isMk_txt (L : Nat) (ds : List Nat) : isMk L (ds.map (97 + ·)) = (!ds.isEmpty && (!(ds.getLast? == some 0) && ds.all fun d => decide (d < L))) := by
  unfold isMk
  rw [List.isEmpty_map, List.getLast?_map, List.all_map]
  congr 2
  · cases ds.getLast? with
    | none => rfl
    | some d =>
      show (!(some (97 + d) == some 97)) = _
      congr 1
      rw [Bool.eq_iff_iff, beq_iff_eq, beq_iff_eq, Option.some_inj, Option.some_inj]
      omega
  · congr 1
    funext d
    show (decide (97 ≤ 97 + d) && decide (97 + d < 97 + L)) = decide (d < L)
    rw [decide_eq_true (by omega), Bool.true_and]
    exact decide_eq_decide.mpr (by omega)
theorem isMk_mk {L : Nat} {ds : List Nat} (m : Mk0 L ds) (h : ds ≠ []) : isMk L (ds.map (97 + ·)) = true := by
  rw [isMk_txt, List.getLast?_eq_some_getLast h]
  have h1 := m.last h
  have h2 : (ds.all fun d => decide (d < L)) = true := List.all_eq_true.mpr fun d hd => decide_eq_true (m.lt d hd)
  rw [h2]
  cases ds with
  | nil => exact absurd rfl h
  | cons d r =>
    have : (some ((d :: r).getLast h) == some 0) = false := by simpa using h1
    rw [this]; rfl
theorem takeWhile_map {p : Nat → Bool} {f : Nat → Nat} : ∀ l : List Nat, ((l.map f).takeWhile p).length = (l.takeWhile (fun x => p (f x))).length
  | [] => rfl
  | a :: l => by
    rw [List.map_cons, List.takeWhile_cons, List.takeWhile_cons]
    by_cases h : p (f a) = true
    · rw [if_pos h, if_pos h, List.length_cons, List.length_cons, takeWhile_map l]
    · rw [if_neg h, if_neg h]
theorem drop_take_len {p : Nat → Bool} (l : List Nat) : l.dropWhile p = l.drop (l.takeWhile p).length := by
  have e := List.takeWhile_append_dropWhile (p := p) (l := l)
  conv => rhs; arg 2; rw [← e]
  rw [List.drop_left]
theorem trim_take (ds : List Nat) : trim ds = ds.take (ds.length - (ds.reverse.takeWhile (· == 0)).length) := by
  unfold trim
  rw [drop_take_len, List.reverse_drop, List.reverse_reverse, List.length_reverse]
theorem strSub_tl (x : Str) (i j : Nat) : (Builtin.Str.strSub x i j).cps.toList = (x.cps.toList.drop i).take (j - i) := by
  show (x.cps.extract i j).toList = _
  simp [List.extract_eq_take_drop]
theorem rstrip_txt (ds : List Nat) : Txt.rstripChars (txt ds) "a" = txt (trim ds) := by
  refine str_ext ?_
  show (Txt.stripBy _ false true (txt ds)).cps.toList = _
  rw [PyProof.Rows.stripBy_eq, strSub_tl]
  have hc : ∀ c, ("a" : Str).cps.contains c = (c == 97) := fun c => by
    show (#[97] : Array Nat).contains c = _
    rw [Bool.eq_iff_iff]
    simp
  have e : stripHi ("a" : Str).cps.contains true (txt ds) (stripLo ("a" : Str).cps.contains false (txt ds)) = ds.length - (ds.reverse.takeWhile (· == 0)).length := by
    show (txt ds).length - (((txt ds).cps.toList.drop 0).reverse.takeWhile ("a" : Str).cps.contains).length = _
    rw [txt_len, List.drop_zero, txt_tl, ← List.map_reverse, takeWhile_map]
    congr 3
    funext x
    rw [hc, Bool.eq_iff_iff, beq_iff_eq, beq_iff_eq]
    omega
  rw [e, trim_take, txt_tl, txt_tl, List.map_take]
  rfl
theorem sum_singles : ∀ ds : List Nat, ((ds.map fun d => txt [d]).map (·.length)).sum = ds.length
  | [] => rfl
  | d :: ds => by
    rw [List.map_cons, List.map_cons, List.sum_cons, sum_singles ds, txt_len]
    show 1 + ds.length = ds.length + 1
    omega
theorem join_txts {K : PySem.W.Frag} {H : Hp} {p : Addr} {ds : List Nat} {Q : VK} (hS : SqL K H p ((ds.map fun d => txt [d]).map V.str)) (hz : ds.length ≤ 1000000) (q : Q (.str (txt ds)) H) : rJoin K (.str "") [.ref p] H Q :=
  ⟨_, p, _, rfl, rfl, .inl hS, by rw [sum_singles, show (Str.length "") = 0 from rfl]; omega, by rw [join_txt]; exact q⟩
theorem whole_lt26 {L : Nat} (hL : L ≤ 26) {ds : List Nat} (h : ∀ d ∈ ds, d < 26) : ∀ k, whole L ds k < 26 ^ k
  | 0 => by show 0 < 26 ^ 0; decide
  | k + 1 => by
    show whole L ds k * L + ds.getD k 0 < 26 ^ (k + 1)
    have h1 := whole_lt26 hL h k
    have h2 := getD_lt (L := 26) (by decide) h k
    have h3 := Nat.mul_le_mul_left (whole L ds k) hL
    rw [Nat.pow_succ]
    omega
theorem pow26 {k : Nat} (hk : k ≤ 100000) {L : Nat} (hL : L ≤ 26) : L ^ k ≤ 2 ^ 500000 := by
  refine Nat.le_trans (Nat.pow_le_pow_left (show L ≤ 2 ^ 5 by omega) k) ?_
  rw [← Nat.pow_mul]
  exact Nat.pow_le_pow_right (by decide) (by omega)
theorem whole_mulW {L : Nat} (hL : L ≤ 26) {ds : List Nat} (h : ∀ d ∈ ds, d < 26) {k : Nat} (hk : k ≤ 100000) : CMulW (whole L ds k : Int) (L : Int) :=
  mulW 500000 64 (Nat.lt_of_lt_of_le (whole_lt26 hL h k) (pow26 hk (Nat.le_refl _))) (by rw [Int.natAbs_natCast]; omega)
theorem pow_mulW {L : Nat} (hL : L ≤ 26) {k : Nat} (hk : k ≤ 100000) : CMulW ((L ^ k : Nat) : Int) (L : Int) :=
  mulW 500001 64 (Nat.lt_of_le_of_lt (pow26 hk hL) (Nat.pow_lt_pow_right (by decide) (by decide))) (by rw [Int.natAbs_natCast]; omega)
theorem idx_let : ∀ d, d < 26 → Txt.index0 ("abcdefghijklmnopqrstuvwxyz" : Str) ⟨#[97 + d]⟩ = some d := by decide +kernel
theorem txt_at {ds : List Nat} {j : Nat} (h : j < ds.length) : atI (txt ds).cps.toList (j : Int) = some (97 + ds.getD j 0) := by
  refine atI_nat ?_
  rw [txt_tl, List.getElem?_map, List.getElem?_eq_getElem h, List.getD_eq_getElem?_getD, List.getElem?_eq_getElem h]
  rfl
/-- the least long whose wholes pass m -/
structure Long (L m k : Nat) : Prop where
  gt : m < L ^ k
  le : ∀ j, j < k → L ^ j ≤ m
theorem Long.uniq {L m a b : Nat} (x : Long L m a) (y : Long L m b) : a = b := by
  rcases Nat.lt_trichotomy a b with h | h | h
  · have := y.le a h; have := x.gt; omega
  · exact h
  · have := x.le b h; have := y.gt; omega
theorem Long.le_m {L m k : Nat} (x : Long L m k) (hL : 2 ≤ L) : k ≤ m := by
  cases k with
  | zero => exact Nat.zero_le _
  | succ k =>
    have h1 := x.le k (by omega)
    have h2 : k < 2 ^ k := Nat.lt_two_pow_self
    have h3 := Nat.pow_le_pow_left hL k
    omega
/-- the i-th number of a renewal -/
def renN (L m k i : Nat) : Nat := (i + 1) * L ^ k / (m + 1)
def rens (L m k : Nat) : List (List Nat) := (List.range m).map fun i => markOf L (renN L m k i) k
theorem renN_lt {L m k i : Nat} (x : Long L m k) (hi : i < m) : 0 < renN L m k i ∧ renN L m k i < L ^ k := by
  unfold renN
  have h := x.gt
  constructor
  · refine Nat.div_pos ?_ (by omega)
    calc m + 1 ≤ L ^ k := h
      _ = 1 * L ^ k := (Nat.one_mul _).symm
      _ ≤ (i + 1) * L ^ k := Nat.mul_le_mul_right _ (by omega)
  · refine (Nat.div_lt_iff_lt_mul (by omega)).mpr ?_
    rw [Nat.mul_comm (L ^ k)]
    exact Nat.mul_lt_mul_of_pos_right (by omega) (by omega)
theorem renN_mono {L m k i j : Nat} (h : i ≤ j) : renN L m k i ≤ renN L m k j := Nat.div_le_div_right (Nat.mul_le_mul_right _ (by omega))
theorem mark_le {L a b k : Nat} (hL : 0 < L) (ha : a < L ^ k) (hb : b < L ^ k) (h : a ≤ b) : (txt (markOf L a k)).cps.toList ≤ (txt (markOf L b k)).cps.toList := by
  refine List.not_lt.mp fun z => ?_
  have z1 := map_lt.mp z
  have z2 := (lt_whole hL (mk0_markOf (n := b) (k := k) hL) (mk0_markOf (n := a) (k := k) hL) (markOf_len _ _ _) (markOf_len _ _ _)).mp z1
  rw [whole_mark ha, whole_mark hb] at z2
  omega
theorem rens_pw {L m k : Nat} (hL : 0 < L) (x : Long L m k) : ((rens L m k).map txt).Pairwise fun a b => a.cps.toList ≤ b.cps.toList := by
  unfold rens
  rw [List.map_map]
  refine List.pairwise_map.mpr ?_
  refine List.Pairwise.imp_of_mem (R := (· < ·)) (fun {a b} ha hb hab => ?_) List.pairwise_lt_range
  exact mark_le hL (renN_lt x (List.mem_range.mp ha)).2 (renN_lt x (List.mem_range.mp hb)).2 (renN_mono (Nat.le_of_lt hab))
theorem mark_ne {L n k : Nat} (h0 : 0 < n) (h : n < L ^ k) : markOf L n k ≠ [] := fun e => by
  have := whole_mark h
  rw [e, whole_nil] at this
  omega
theorem rens_V (L m k : Nat) : ((List.range m).map fun i => V.str (txt (markOf L (renN L m k i) k))) = ((rens L m k).map txt).map V.str := by
  unfold rens
  rw [List.map_map, List.map_map]
  rfl
theorem rens_ok {L m k : Nat} (hL : 0 < L) (hL2 : L ≤ 26) : ∀ y ∈ (rens L m k).map txt, PyData.strOk y = true := fun y hy => by
  obtain ⟨ds, hds, rfl⟩ := List.mem_map.mp hy
  obtain ⟨i, _, rfl⟩ := List.mem_map.mp hds
  exact strOk_txt fun d hd => by
    have := (mk0_markOf (L := L) (n := renN L m k i) (k := k) hL).lt d hd
    omega
theorem rens_len (L m k : Nat) : (rens L m k).length = m := by unfold rens; rw [List.length_map, List.length_range]
theorem neD_same {K : PySem.W.Frag} {H : Hp} {p q : Addr} {xs : List Str} {Q : VK} (hp : H p = some (.lst (xs.map V.str))) (hq : H q = some (.lst (xs.map V.str))) (hok : ∀ y ∈ xs, PyData.strOk y = true) (h : Q (.bl false) H) : rNeD K (.ref p) (.ref q) H Q :=
  ⟨_, _, .lst (.inl (.inl hp)) (dpAll_strs _), .lst (.inl (.inl hq)) (dpAll_strs _), (sh_strs hok).shaped, (sh_strs hok).shaped, by rw [eqv_strs, decide_eq_true rfl]; exact h⟩
theorem eqD_same {K : PySem.W.Frag} {H : Hp} {p q : Addr} {xs : List Str} {Q : VK} (hp : H p = some (.lst (xs.map V.str))) (hq : H q = some (.lst (xs.map V.str))) (hok : ∀ y ∈ xs, PyData.strOk y = true) (h : Q (.bl true) H) : rEqD K (.ref p) (.ref q) H Q :=
  ⟨_, _, .lst (.inl (.inl hp)) (dpAll_strs _), .lst (.inl (.inl hq)) (dpAll_strs _), (sh_strs hok).shaped, (sh_strs hok).shaped, by rw [eqv_strs, decide_eq_true rfl]; exact h⟩
/-- a whole number from lo to hi -/
def NatIn (lo hi : Nat) (v : V) : Prop := ∃ n : Nat, v = .int n ∧ lo ≤ n ∧ n ≤ hi
theorem natIn {lo hi : Nat} {x : Int} (h0 : (lo : Int) ≤ x) (h1 : x ≤ hi) : NatIn lo hi (.int x) := ⟨x.toNat, by congr 1; omega, by omega, by omega⟩
end Sm
namespace Sm
open PySem PySem.Spec PyProof.Rows L2 SX
local macro_rules | `(tactic| walk_at "b") => `(tactic| dsimp only [tNil, tCons, tC, tVar])
local macro_rules | `(tactic| walk_at "len") => `(tactic| (intro hlen; first | (obtain ⟨e, _⟩ := hlen; subst e; rfl) | (obtain ⟨_, e, _⟩ := hlen; subst e; rfl) | (obtain ⟨_, _, e, _⟩ := hlen; subst e; rfl) | (obtain ⟨_, _, _, e, _⟩ := hlen; subst e; rfl) | (obtain ⟨_, _, _, _, e, _⟩ := hlen; subst e; rfl) | (obtain ⟨_, _, _, _, _, e, _⟩ := hlen; subst e; rfl) | (obtain ⟨_, _, _, _, _, _, e, _⟩ := hlen; subst e; rfl) | (obtain ⟨_, _, _, _, _, _, _, e, _⟩ := hlen; subst e; rfl) | (obtain ⟨_, _, _, _, _, _, _, _, e, _⟩ := hlen; subst e; rfl) | (obtain ⟨_, _, _, _, _, _, _, _, _, e, _⟩ := hlen; subst e; rfl) | (obtain ⟨_, _, _, _, _, _, _, _, _, _, e, _⟩ := hlen; subst e; rfl) | (obtain ⟨_, _, _, _, _, _, _, _, _, _, _, e, _⟩ := hlen; subst e; rfl) | (obtain ⟨_, _, _, _, _, _, _, _, _, _, _, _, e, _⟩ := hlen; subst e; rfl)))
local macro_rules | `(tactic| walk_at "ex") => `(tactic| first
  | assumption | exact Ex.refl _ | exact Rst.refl _ | exact upd_same
  | (refine Ex.new ?_ ?_ <;> walk_at "ex") | (refine Ex.back ?_ (by assumption) <;> walk_at "ex") | (refine Rst.new ?_ ?_ rfl <;> walk_at "ex")
  | (refine clo_new ?_ ?_ rfl <;> walk_at "ex"))
local macro_rules | `(tactic| walk_at "side") => `(tactic| first
  | with_reducible assumption | omega | (dsimp only; omega) | exact mulW64 (by omega) (by omega) | exact divW64 (by omega) (by omega) | decide | (rw [sz]; omega) | (refine ⟨?_, ?_⟩ <;> walk_at "side") | (rw [sz, txt_len]; omega) | walk_at "ex" | (rw [sz]; simp only [List.length_cons, List.length_nil]; omega) | decide +kernel)
local macro_rules | `(tactic| walk_at "go1") => `(tactic| first
  | refine ⟨_, rfl, ?_⟩
  | refine ⟨_, _, rfl, rfl, ?_⟩
  | refine ⟨_, _, rfl, ?_⟩
  | refine ⟨_, _, _, rfl, ?_⟩
  | refine ⟨rfl, ?_⟩
  | refine gTupN2 sqT_at ?_ | refine gTupN3 sqT_at ?_
  | refine ⟨tyV_list upd_same, ?_⟩ | refine ⟨tyV_list (by assumption), ?_⟩
  | refine ⟨_, _, rfl, Or.inl ‹SqL _ _ _ _›, ?_⟩
  | refine isi1 (isi_bl_bool ?_) | refine isi1 (isi_int_int ?_) | refine isi1 (isi_int_bool ?_) | refine isi1 (isi_str_str ?_) | refine isi1 (isi_lst ‹(_ : Option HO) = some (HO.lst _)› ?_)
  | refine ⟨_, _, _, _, rfl, rfl, ‹SqL _ _ _ _›, ‹atI _ _ = some _›, ?_⟩
  | refine ⟨_, _, _, rfl, rfl, (by walk_at "side"), ‹atI _ _ = some _›, ?_⟩)
local macro_rules | `(tactic| walk_at "go2") => `(tactic| first | walk_at "go1" | refine And.intro (by walk_at "side") ?_ | refine ⟨_, Trim.back (by walk_at "ex") ‹Clo _›, ?_⟩)
local macro_rules | `(tactic| walk_at "go") => `(tactic| repeat walk_at "go2")
local macro_rules | `(tactic| walk_at "if") => `(tactic| first | refine iteEI ?_ ?_ | refine iteNI ?_ ?_ | refine iteES ?_ ?_ | refine iteNS' ?_ ?_ | refine iteD ?_ ?_ | refine iteDN ?_ ?_ | refine ite2 ?_ ?_)
local macro_rules | `(tactic| walk_at "sq") => `(tactic| first | assumption | exact sqL_at | exact sqT_at | (refine sqL_new ?_ ?_ <;> walk_at "sq") | walk_at "ex")
local macro_rules | `(tactic| walk_at "draw") => `(tactic| refine ⟨_, _, _, _, rfl, (by walk_at "sq"), ‹_ ≤ 63›, (by omega), (by omega), (by omega), (by omega), ?_⟩)
local macro_rules | `(tactic| walk_at "tr") => `(tactic| first | exact tr_same | exact tr_some (by assumption) | (refine tr_upd ?_; walk_at "tr"))
local macro_rules | `(tactic| walk_at "ne") => `(tactic| first | assumption | (refine ne_fresh ?_ (by assumption); walk_at "tr") | (refine Ne.symm (ne_fresh ?_ (by assumption)); walk_at "tr"))
local macro_rules | `(tactic| walk_at "look") => `(tactic| first | exact upd_same | assumption | (refine Eq.trans (upd_ne ?_) ?_; (walk_at "ne"); (walk_at "look")))
structure Kx (K : PySem.W.Frag) : Prop where
  tt : True
/-! ### is_mark -/
def sp_is_mark (K : PySem.W.Frag) : Sp := fun vs H Q _ => ∃ (L : Nat) (l : List Nat), vs = [.int L, .str (SX.S l)] ∧ L ≤ 26 ∧ l.length ≤ 1000000 ∧ Clo H ∧ Q (.bl (isMk L l)) H
def t_is_mark (K : PySem.W.Frag) (E : XK) : TS :=
  (tSeq (tIfS (tOr (tTest (tOp rEq (tVar 1) (tC (.str "")))) (tTest (tOp rEq (tOp rIxS (tVar 1) (tUn rNegI (tC (.int 1)))) (tC (.str "a")))))
    (tRet (tC (.bl false)))
    tNext)
    (tSeq (tFor (iStr (tVar 1)) (gName 2)
    (tIfS (tTest (tOp rNotInC (tVar 2) (tSl rSlX (tC (.str "abcdefghijklmnopqrstuvwxyz")) tNoPart (tPart (tVar 0)))))
    (tRet (tC (.bl false)))
    tNext))
    (tRet (tC (.bl true)))))
theorem len_is_mark {K : PySem.W.Frag} (vs : List V) (H : Hp) (Q : VK) (E : XK) : sp_is_mark K vs H Q E → vs.length = (["letters", "text"] : List Str).length := by
  walk_at "len"

theorem pure_is_mark {K : PySem.W.Frag} (T : Kx K) (vs : List V) (H : Hp) (Q : VK) (E : XK) (h : sp_is_mark K vs H Q E) : t_is_mark K E { nx := fun _ H' => Q .non H', rt := Q } (start ["letters", "text", "sign"] vs) H := by
  obtain ⟨L, l, rfl, hL, hl, hC, q⟩ := h
  have hlen := SX.S_len l
  walk_at "go"
  refine iteES (fun c => ?_) fun c1 => ?_
  · have e : l = [] := SX.S_inj (c.trans S_nil)
    subst e
    exact q
  have hne : l ≠ [] := fun e => c1 (by rw [e, S_nil])
  have hat : atI (SX.S l).cps.toList (-1) = some (l.getLast hne) := at_last hne
  have hlast : l.getLast? = some (l.getLast hne) := List.getLast?_eq_some_getLast hne
  have he : l.isEmpty = false := by simpa using hne
  walk_at "go"
  refine iteES (fun c => ?_) fun c2 => ?_
  · have e : l.getLast hne = 97 := by
      have := SX.S_inj (a := [l.getLast hne]) (b := [97]) (c.trans S_a)
      simpa using this
    have z : isMk L l = false := by unfold isMk; rw [he, hlast, e]; rfl
    rw [z] at q
    exact q
  have h97 : (l.getLast? == some 97) = false := by
    rw [hlast, beq_eq_false_iff_ne]
    intro e
    exact c2 (by rw [Option.some.inj e]; exact S_a.symm)
  refine ⟨_, rfl, _, rfl, ?_⟩
  refine for_fix walk_strF (fun i σ' => (∃ x, σ' = [some (.int L), some (.str (SX.S l)), x]) ∧ ∀ c ∈ l.take i, isLet L c = true) trivial ⟨⟨_, rfl⟩, fun c hc => by simp at hc⟩ ?_ ?_
  · rintro i σ' hi ⟨⟨x, rfl⟩, hb⟩
    have hi' : i < l.length := hi
    have eg : (SX.S l).cps.toList.getD i 0 = l[i] := by
      show l.getD i 0 = _
      rw [List.getD_eq_getElem?_getD, List.getElem?_eq_getElem hi']; rfl
    rw [eg]
    walk_at "go"
    rw [let_take hL]
    walk_at "go"
    rw [mem_take]
    cases hc : isLet L l[i] with
    | false =>
      refine iteT ?_
      have z : isMk L l = false := by
        unfold isMk
        rw [he, h97, List.all_eq_false.mpr ⟨l[i], List.getElem_mem hi', by rw [hc]; decide⟩]; rfl
      rw [z] at q
      exact q
    | true =>
      refine iteF ⟨rfl, ⟨_, rfl⟩, ?_⟩
      intro c hc2
      rw [List.take_succ, List.mem_append, List.getElem?_eq_getElem hi'] at hc2
      rcases hc2 with hc2 | hc2
      · exact hb c hc2
      · have : c = l[i] := by simpa using hc2
        rw [this]; exact hc
  · rintro σ' ⟨⟨x, rfl⟩, hb⟩
    have hall : l.all (isLet L) = true := List.all_eq_true.mpr fun c hc => hb c (by
      show c ∈ l.take l.toArray.size
      rw [List.size_toArray, List.take_length]; exact hc)
    have z : isMk L l = true := by unfold isMk; rw [he, h97, hall]; rfl
    rw [z] at q
    exact q
/-! ### whole_of -/
def sp_whole_of (K : PySem.W.Frag) : Sp := fun vs H Q _ => ∃ (L k : Nat) (ds : List Nat), vs = [.int L, .str (txt ds), .int k] ∧ L ≤ 26 ∧ (∀ d ∈ ds, d < 26) ∧ ds.length ≤ 1000000 ∧ k ≤ 100000 ∧ Q (.int (whole L ds k)) H
def t_whole_of (K : PySem.W.Frag) (E : XK) : TS :=
  (tSeq (tAsg (tC (.int 0)) (gName 3))
    (tSeq (tFor (iRng1 (tCons (tVar 2) tNil)) (gName 4)
    (tSeq (tAsg (tOp rMulW (tVar 3) (tVar 0)) (gName 3))
    (tIfS (tTest (tOp rLtI (tVar 4) (tCB rLenS1 (tCons (tVar 1) tNil))))
    (tAsg (tOp rAddI (tVar 3) (tBMS K "str" rIndexS (tC (.str "abcdefghijklmnopqrstuvwxyz")) (tCons (tOp rIxS (tVar 1) (tVar 4)) tNil))) (gName 3))
    tNext)))
    (tRet (tVar 3))))
theorem len_whole_of {K : PySem.W.Frag} (vs : List V) (H : Hp) (Q : VK) (E : XK) : sp_whole_of K vs H Q E → vs.length = (["letters", "mark", "long"] : List Str).length := by
  walk_at "len"

theorem pure_whole_of {K : PySem.W.Frag} (T : Kx K) (vs : List V) (H : Hp) (Q : VK) (E : XK) (h : sp_whole_of K vs H Q E) : t_whole_of K E { nx := fun _ H' => Q .non H', rt := Q } (start ["letters", "mark", "long", "whole", "k"] vs) H := by
  obtain ⟨L, k, ds, rfl, hL, hds, hl, hk, q⟩ := h
  walk_at "go"
  refine for_fix walk_range1 (fun i σ' => ∃ x4, σ' = [some (.int L), some (.str (txt ds)), some (.int k), some (.int (whole L ds i)), x4]) trivial ⟨_, rfl⟩ ?_ ?_
  · rintro i σ' hi ⟨x4, rfl⟩
    have hi' : i < k := by simpa using hi
    have hw := whole_mulW (k := i) hL hds (by omega)
    have hlen := txt_len ds
    have hg := getD_lt (L := 26) (by decide) hds i
    walk_at "go"
    refine iteD (fun c => ?_) fun c => ?_
    · have hx := txt_at (ds := ds) (j := i) (by omega)
      have hix := idx_let (ds.getD i 0) hg
      walk_at "go"
      refine ⟨_, _, _, rfl, rfl, hix, ?_⟩
      walk_at "go"
      exact ⟨_, rfl⟩
    · have e : ds.getD i 0 = 0 := by
        rw [List.getD_eq_getElem?_getD, List.getElem?_eq_none (by omega)]; rfl
      have e2 : whole L ds (i + 1) = whole L ds i * L := by
        show whole L ds i * L + ds.getD i 0 = _
        rw [e, Nat.add_zero]
      walk_at "go"
      rw [e2]
      exact ⟨_, rfl⟩
  · rintro σ' ⟨x4, rfl⟩
    rw [Int.toNat_natCast]
    walk_at "go"
    exact q
/-! ### mark_of -/
def sp_mark_of (K : PySem.W.Frag) : Sp := fun vs H Q _ => ∃ L n k : Nat, vs = [.int L, .int n, .int k] ∧ 1 ≤ L ∧ L ≤ 26 ∧ k ≤ 100000 ∧ Clo H ∧ Q (.str (txt (markOf L n k))) H
def t_mark_of (K : PySem.W.Frag) (E : XK) : TS :=
  (tTrim (tSeq (tAsg (tLst tNil) (gName 3))
    (tSeq (tFor (iRng1 (tCons (tVar 2) tNil)) (gName 4)
    (tSeq (tTrim (tAsg (tCB rDivmod (tCons (tVar 1) (tCons (tVar 0) tNil))) (gTup K 2 (gCons (gName 1) (gCons (gName 5) gNil)))))
    (tDrop (tBM K "list" rAppend (tVar 3) (tCons (tOp rIxS (tC (.str "abcdefghijklmnopqrstuvwxyz")) (tVar 5)) tNil)))))
    (tSeq (tDrop (tBM0 K "list" rReverse (tVar 3)))
    (tRet (tBM K "str" rRstrip (tBM K "str" (rJoin K) (tC (.str "")) (tCons (tVar 3) tNil)) (tCons (tC (.str "a")) tNil)))))))
theorem len_mark_of {K : PySem.W.Frag} (vs : List V) (H : Hp) (Q : VK) (E : XK) : sp_mark_of K vs H Q E → vs.length = (["letters", "number", "long"] : List Str).length := by
  walk_at "len"

theorem pure_mark_of {K : PySem.W.Frag} (T : Kx K) (vs : List V) (H : Hp) (Q : VK) (E : XK) (h : sp_mark_of K vs H Q E) : t_mark_of K E { nx := fun _ H' => Q .non H', rt := Q } (start ["letters", "number", "long", "signs", "k", "rest"] vs) H := by
  obtain ⟨L, n, k, rfl, hL, hL2, hk, hC, q⟩ := h
  walk_at "go"
  intro p hp
  walk_at "go"
  refine for_fn walk_range1 (fun i σ' H' => ∃ x4 x5, H' = upd H p (.lst (((low L n i).map fun d => txt [d]).map V.str)) ∧ σ' = [some (.int L), some (.int ((n / L ^ i : Nat) : Int)), some (.int k), some (.ref p), x4, x5])
    ⟨_, _, rfl, by rw [Nat.pow_zero, Nat.div_one]; rfl⟩ (fun _ _ _ _ _ => trivial) ?_ ?_
  · rintro i σ' _ hi ⟨x4, x5, rfl, rfl⟩
    have hi' : i < k := by simpa using hi
    walk_at "go"
    intro p1 hp1
    refine gTupN2 sqT_at ?_
    have hc : Clo (upd H p (.lst (((low L n i).map fun d => txt [d]).map V.str))) := clo_new hC hp rfl
    have hd : ((n / L ^ i : Nat) : Int) % (L : Int) = ((n / L ^ i % L : Nat) : Int) := rfl
    have hd2 : ((n / L ^ i : Nat) : Int) / (L : Int) = ((n / L ^ (i + 1) : Nat) : Int) := by
      rw [Nat.pow_succ, ← Nat.div_div_eq_div_mul]; rfl
    have hr : n / L ^ i % L < 26 := Nat.lt_of_lt_of_le (Nat.mod_lt _ (by omega)) hL2
    rw [hd, hd2]
    refine ⟨_, Trim.back (by walk_at "ex") hc, ?_⟩
    have hx := let_at (j := ((n / L ^ i % L : Nat) : Int)) (by omega) (by omega)
    walk_at "go"
    walk_at "b"
    refine app_new ?_ ?_
    · rw [List.length_map, List.length_map, low_len, sz]; omega
    refine ⟨_, _, ?_, rfl⟩
    rw [Int.toNat_natCast]
    show upd H p (.lst _) = upd H p (.lst (((low L n i ++ [n / L ^ i % L]).map fun d => txt [d]).map V.str))
    rw [List.map_append, List.map_append]
    rfl
  · rintro σ' _ ⟨x4, x5, rfl, rfl⟩
    walk_at "go"
    refine rev_new ?_
    rw [Int.toNat_natCast, ← List.map_reverse, ← List.map_reverse]
    walk_at "go"
    walk_at "b"
    refine join_txts sqL_at ?_ ?_
    · rw [List.length_reverse, low_len]; omega
    walk_at "go"
    refine ⟨by rw [sz, txt_len, List.length_reverse, low_len]; omega, ?_⟩
    rw [rstrip_txt]
    exact ⟨_, Trim.back (by walk_at "ex") hC, q⟩
/-! ### law_draw -/
def sp_law_draw (K : PySem.W.Frag) : Sp := fun vs H Q _ => ∃ (a : Addr) (ns : List Int) (k many : Int), vs = [.ref a, .int k, .int many] ∧ SqL K H a (ns.map V.int) ∧ ns.length ≤ 63 ∧ 0 ≤ k ∧ k < 1000000 ∧ 0 < many ∧ many < 2 ^ 63 ∧
  ∀ d : Int, 0 ≤ d → d < many → Q (.int d) H
def t_law_draw (K : PySem.W.Frag) (E : XK) : TS :=
  (tMeet (tAsg (tIf (tTest (tOp rGtI (tCB (rLenQ K) (tCons (tVar 0) tNil)) (tC (.int 0)))) (tOp (rIxL K) (tVar 0) (tOp rModI (tVar 1) (tCB (rLenQ K) (tCons (tVar 0) tNil)))) (tC (.int 0))) (gName 3))
    (tMeet (tIfS (tAnd (tTest (tOp rGtI (tCB (rLenQ K) (tCons (tVar 0) tNil)) (tC (.int 0)))) (tTest (tOp rEq (tOp rModI (tOp (rIxL K) (tVar 0) (tC (.int 0))) (tC (.int 2))) (tC (.int 1)))))
    (tRet (tOp rModI (tOp rModI (tOp rShrI (tVar 3) (tOp rAddI (tOp rMulW (tC (.int 20)) (tOp rDivW (tVar 1) (tCB (rLenQ K) (tCons (tVar 0) tNil)))) (tC (.int 1)))) (tC (.int 1048576))) (tVar 2)))
    tNext)
    (tSeq (tAsg (tOp rAddI (tOp rAddI (tOp rModI (tVar 3) (tC (.int 1000003))) (tOp rMulW (tOp rMulW (tC (.int 31)) (tVar 1)) (tVar 1))) (tC (.int 1))) (gName 4))
    (tRet (tOp rModI (tOp rModI (tOp rMulW (tOp rModI (tOp rMulW (tVar 4) (tC (.int 48271))) (tC (.int 999983))) (tC (.int 7919))) (tC (.int 524287))) (tVar 2))))))
theorem len_law_draw {K : PySem.W.Frag} (vs : List V) (H : Hp) (Q : VK) (E : XK) : sp_law_draw K vs H Q E → vs.length = (["script", "k", "many"] : List Str).length := by
  walk_at "len"

theorem pure_law_draw {K : PySem.W.Frag} (T : Kx K) (vs : List V) (H : Hp) (Q : VK) (E : XK) (h : sp_law_draw K vs H Q E) : t_law_draw K E { nx := fun _ H' => Q .non H', rt := Q } (start ["script", "k", "many", "cell", "seed"] vs) H := by
  obtain ⟨a, ns, k, many, rfl, hS, hl, h0, h1, hm, hm2, q⟩ := h
  have hk : 0 ≤ 31 * k * k ∧ 31 * k * k < 2 ^ 60 := by
    have e : 31 * k * k ≤ 31 * 1000000 * 1000000 := Int.mul_le_mul (by omega) (by omega) h0 (by omega)
    exact ⟨Int.mul_nonneg (by omega) h0, by omega⟩
  have hd : ∀ j : Int, 0 ≤ j → j < (ns.map V.int).length → ∃ x, atI (ns.map V.int) j = some (.int x) := fun j j0 j1 => by
    obtain ⟨n, rfl⟩ := Int.eq_ofNat_of_zero_le j0
    rw [List.length_map] at j1
    exact ⟨ns[n]'(by omega), atI_nat (by rw [List.getElem?_map, List.getElem?_eq_getElem (by omega)]; rfl)⟩
  have el : (ns.map V.int).length ≤ 63 := by rw [List.length_map]; exact hl
  have fin : ∀ x : Int, Q (.int (x % many)) H := fun x => q _ (Int.emod_nonneg _ (by omega)) (Int.emod_lt_of_pos _ hm)
  refine ⟨fun σ' H' => ∃ c : Int, σ' = [some (.ref a), some (.int k), some (.int many), some (.int c), none] ∧ H = H', ?_, ?_⟩
  · walk_at "go"
    walk_at "if"
    · intro c
      obtain ⟨x, hx⟩ := hd (k % (ns.map V.int).length) (Int.emod_nonneg _ (by omega)) (Int.emod_lt_of_pos _ (by omega))
      walk_at "go"
      rfl
    · intro c
      exact ⟨0, rfl, rfl⟩
  · rintro _ _ ⟨c, rfl, rfl⟩
    refine ⟨fun σ' H' => σ' = [some (.ref a), some (.int k), some (.int many), some (.int c), none] ∧ H = H', ?_, ?_⟩
    · walk_at "go"
      walk_at "if"
      · intro c1
        obtain ⟨x, hx⟩ := hd 0 (by omega) (by omega)
        walk_at "go"
        walk_at "if"
        · intro _
          have e1 := Int.ediv_nonneg h0 (show (0 : Int) ≤ (ns.map V.int).length by omega)
          have e2 : k / (ns.map V.int).length ≤ k := Int.ediv_le_self _ h0
          walk_at "go"
          exact fin _
        · intro _
          exact ⟨rfl, rfl⟩
      · intro _
        exact ⟨rfl, rfl⟩
    · rintro _ _ ⟨rfl, rfl⟩
      walk_at "go"
      exact fin _
/-! ### law_mark -/
def sp_law_mark (K : PySem.W.Frag) : Sp := fun vs H Q _ => ∃ (a : Addr) (ns : List Int) (b : Int) (L : Nat) (lg : Bool), vs = [.ref a, .int b, .int L, .bl lg] ∧ SqL K H a (ns.map V.int) ∧ ns.length ≤ 63 ∧ 0 ≤ b ∧ b < 10000 ∧ 2 ≤ L ∧ L ≤ 26 ∧
  ∀ ds : List Nat, Mk0 L ds → ds ≠ [] → ds.length ≤ 60 → Q (.str (txt ds)) H
def t_law_mark (K : PySem.W.Frag) (E : XK) : TS :=
  (tSeq (tAsg (tC (.str "abcdefghijklmnopqrstuvwxyz")) (gName 4))
    (tSeq (tAsg (tOp rAddI (tC (.int 1)) (tCall (sp_law_draw K) [] E (tCons (tVar 0) (tCons (tVar 1) (tCons (tC (.int 7)) tNil))))) (gName 5))
    (tMeet (tIfS (tB (tVar 3))
    (tAsg (tOp rAddI (tC (.int 40)) (tCall (sp_law_draw K) [] E (tCons (tVar 0) (tCons (tVar 1) (tCons (tC (.int 21)) tNil))))) (gName 5))
    tNext)
    (tSeq (tAsg (tC (.str "")) (gName 6))
    (tSeq (tFor (iRng1 (tCons (tOp rSubI (tVar 5) (tC (.int 1))) tNil)) (gName 7)
    (tAsg (tOp rAddS1 (tVar 6) (tOp rIxS (tVar 4) (tCall (sp_law_draw K) [] E (tCons (tVar 0) (tCons (tOp rAddI (tOp rAddI (tVar 1) (tC (.int 1))) (tVar 7)) (tCons (tVar 2) tNil)))))) (gName 6)))
    (tRet (tOp rAddS1 (tVar 6) (tOp rIxS (tVar 4) (tOp rAddI (tC (.int 1)) (tCall (sp_law_draw K) [] E (tCons (tVar 0) (tCons (tOp rAddI (tVar 1) (tC (.int 70))) (tCons (tOp rSubI (tVar 2) (tC (.int 1))) tNil)))))))))))))
theorem len_law_mark {K : PySem.W.Frag} (vs : List V) (H : Hp) (Q : VK) (E : XK) : sp_law_mark K vs H Q E → vs.length = (["script", "base", "letters", "long"] : List Str).length := by
  walk_at "len"

theorem pure_law_mark {K : PySem.W.Frag} (T : Kx K) (vs : List V) (H : Hp) (Q : VK) (E : XK) (h : sp_law_mark K vs H Q E) : t_law_mark K E { nx := fun _ H' => Q .non H', rt := Q } (start ["script", "base", "letters", "long", "signs", "size", "text", "k"] vs) H := by
  obtain ⟨a, ns, b, L, lg, rfl, hS, hl, hb0, hb1, hL, hL2, q⟩ := h
  walk_at "go"
  walk_at "draw"
  intro d1 d10 d11
  walk_at "go"
  refine meet_fix (fun σ' => ∃ n : Nat, 1 ≤ n ∧ n ≤ 60 ∧ σ' = [some (.ref a), some (.int b), some (.int L), some (.bl lg), some (.str LET), some (.int n), none, none]) ?_ ?_
  · walk_at "go"
    cases lg with
    | true =>
      refine iteT ?_
      walk_at "go"
      walk_at "draw"
      intro d2 d20 d21
      walk_at "go"
      obtain ⟨n, e⟩ := Int.eq_ofNat_of_zero_le (show 0 ≤ 40 + d2 by omega)
      exact ⟨n, by omega, by omega, by rw [← e]; rfl⟩
    | false =>
      refine iteF ?_
      obtain ⟨n, e⟩ := Int.eq_ofNat_of_zero_le (show 0 ≤ 1 + d1 by omega)
      exact ⟨rfl, n, by omega, by omega, by rw [← e]; rfl⟩
  · rintro _ ⟨n, hn1, hn2, rfl⟩
    walk_at "go"
    rw [← txt_nil]
    refine for_fix walk_range1 (fun i σ' => ∃ ds x7, ds.length = i ∧ (∀ d ∈ ds, d < L) ∧ σ' = [some (.ref a), some (.int b), some (.int L), some (.bl lg), some (.str LET), some (.int n), some (.str (txt ds)), x7]) trivial ⟨[], _, rfl, all0, rfl⟩ ?_ ?_
    · rintro i σ' hi ⟨ds, x7, hd, hds, rfl⟩
      have hi' : i < 60 := by omega
      walk_at "go"
      walk_at "draw"
      intro d3 d30 d31
      have hx := let_at (j := d3) (by omega) (by omega)
      have hl1 := txt_len ds
      have hl2 : Str.length ⟨#[97 + d3.toNat]⟩ = 1 := rfl
      walk_at "go"
      rw [show txt ds ++ ⟨#[97 + d3.toNat]⟩ = txt (ds ++ [d3.toNat]) from txt_cat ds [d3.toNat]]
      refine ⟨_, _, ?_, ?_, rfl⟩
      · rw [List.length_append, hd]; rfl
      · intro d hd
        rcases List.mem_append.mp hd with hd | hd
        · exact hds d hd
        · rw [List.mem_singleton.mp hd]; omega
    · rintro σ' ⟨ds, x7, hd, hds, rfl⟩
      walk_at "go"
      walk_at "draw"
      intro d3 d30 d31
      have hx := let_at (j := 1 + d3) (by omega) (by omega)
      have hl1 := txt_len ds
      have hl2 : Str.length ⟨#[97 + (1 + d3).toNat]⟩ = 1 := rfl
      walk_at "go"
      rw [show txt ds ++ ⟨#[97 + (1 + d3).toNat]⟩ = txt (ds ++ [(1 + d3).toNat]) from txt_cat ds [(1 + d3).toNat]]
      refine q _ ⟨fun d hd => ?_, fun _ => ?_⟩ (by simp) (by rw [List.length_append, hd]; show (n - 1 : Int).toNat + 1 ≤ 60; omega)
      · rcases List.mem_append.mp hd with hd | hd
        · exact hds d hd
        · rw [List.mem_singleton.mp hd]; omega
      · simpa using (show ¬ (1 + d3).toNat = 0 by omega)
/-! ### law_whole -/
def sp_law_whole (K : PySem.W.Frag) : Sp := fun vs H Q _ => ∃ (L k : Nat) (ds : List Nat), vs = [.int L, .str (txt ds), .int k] ∧ L ≤ 26 ∧ (∀ d ∈ ds, d < 26) ∧ ds.length ≤ 1000000 ∧ k ≤ 100000 ∧ Q (.int (whole L ds k)) H
def t_law_whole (K : PySem.W.Frag) (E : XK) : TS :=
  (tSeq (tAsg (tC (.int 0)) (gName 3))
    (tSeq (tFor (iRng1 (tCons (tVar 2) tNil)) (gName 4)
    (tSeq (tAsg (tC (.int 0)) (gName 5))
    (tMeet (tIfS (tTest (tOp rLtI (tVar 4) (tCB rLenS1 (tCons (tVar 1) tNil))))
    (tAsg (tBMS K "str" rIndexS (tC (.str "abcdefghijklmnopqrstuvwxyz")) (tCons (tOp rIxS (tVar 1) (tVar 4)) tNil)) (gName 5))
    tNext)
    (tAsg (tOp rAddI (tOp rMulW (tVar 3) (tVar 0)) (tVar 5)) (gName 3)))))
    (tRet (tVar 3))))
theorem len_law_whole {K : PySem.W.Frag} (vs : List V) (H : Hp) (Q : VK) (E : XK) : sp_law_whole K vs H Q E → vs.length = (["letters", "mark", "long"] : List Str).length := by
  walk_at "len"

theorem pure_law_whole {K : PySem.W.Frag} (T : Kx K) (vs : List V) (H : Hp) (Q : VK) (E : XK) (h : sp_law_whole K vs H Q E) : t_law_whole K E { nx := fun _ H' => Q .non H', rt := Q } (start ["letters", "mark", "long", "whole", "k", "figure"] vs) H := by
  obtain ⟨L, k, ds, rfl, hL, hds, hl, hk, q⟩ := h
  walk_at "go"
  refine for_fix walk_range1 (fun i σ' => ∃ x4 x5, σ' = [some (.int L), some (.str (txt ds)), some (.int k), some (.int (whole L ds i)), x4, x5]) trivial ⟨_, _, rfl⟩ ?_ ?_
  · rintro i σ' hi ⟨x4, x5, rfl⟩
    have hi' : i < k := by simpa using hi
    have hw := whole_mulW (k := i) hL hds (by omega)
    have hlen := txt_len ds
    have hg := getD_lt (L := 26) (by decide) hds i
    walk_at "go"
    refine meet_fix (fun σ' => σ' = [some (.int L), some (.str (txt ds)), some (.int k), some (.int (whole L ds i)), some (.int i), some (.int (ds.getD i 0))]) ?_ ?_
    · walk_at "go"
      refine iteD (fun c => ?_) fun c => ?_
      · have hx := txt_at (ds := ds) (j := i) (by omega)
        have hix := idx_let (ds.getD i 0) hg
        walk_at "go"
        refine ⟨_, _, _, rfl, rfl, hix, ?_⟩
        exact ⟨rfl, rfl⟩
      · have e : ds.getD i 0 = 0 := by
          rw [List.getD_eq_getElem?_getD, List.getElem?_eq_none (by omega)]; rfl
        rw [e]
        exact ⟨rfl, rfl⟩
    · rintro _ rfl
      walk_at "go"
      exact ⟨_, _, rfl⟩
  · rintro σ' ⟨x4, x5, rfl⟩
    rw [Int.toNat_natCast]
    walk_at "go"
    exact q
/-! ### law_number -/
def sp_law_number (K : PySem.W.Frag) : Sp := fun vs H Q _ => ∃ (a : Addr) (ns : List Int) (k L m : Nat), vs = [.ref a, .int k, .int L, .int m] ∧ SqL K H a (ns.map V.int) ∧ ns.length ≤ 63 ∧ k < 10000 ∧ 2 ≤ L ∧ L ≤ 26 ∧ 1 ≤ m ∧ m ≤ 30 ∧ Clo H ∧
  ∀ n : Nat, 0 < n → n < L ^ m → Q (.int n) H
def t_law_number (K : PySem.W.Frag) (E : XK) : TS :=
  (tTrim (tSeq (tAsg (tC (.int 1)) (gName 4))
    (tSeq (tFor (iRng1 (tCons (tVar 3) tNil)) (gName 5)
    (tAsg (tOp rMulW (tVar 4) (tVar 2)) (gName 4)))
    (tSeq (tAsg (tC (.int 1)) (gName 6))
    (tSeq (tFor (iRng1 (tCons (tCall (sp_law_draw K) [] E (tCons (tVar 0) (tCons (tOp rAddI (tC (.int 300)) (tVar 1)) (tCons (tVar 3) tNil)))) tNil)) (gName 5)
    (tAsg (tOp rMulW (tVar 6) (tVar 2)) (gName 6)))
    (tMeet (tAsg (tIf (tTest (tOp rGtI (tCB (rLenQ K) (tCons (tVar 0) tNil)) (tC (.int 0)))) (tOp (rIxL K) (tVar 0) (tOp rModI (tVar 1) (tCB (rLenQ K) (tCons (tVar 0) tNil)))) (tC (.int 5))) (gName 7))
    (tSeq (tAsg (tOp rAddI (tOp rModI (tVar 7) (tVar 4)) (tCall (sp_law_draw K) [] E (tCons (tVar 0) (tCons (tOp rAddI (tC (.int 310)) (tVar 1)) (tCons (tC (.int 524287)) tNil))))) (gName 8))
    (tRet (tTrimE (tOp (rIxL K) (tLst (tCons (tC (.int 1)) (tCons (tOp rSubI (tVar 4) (tC (.int 1))) (tCons (tVar 6) (tCons (tOp rAddI (tC (.int 1)) (tOp rModI (tOp rMulW (tOp rMulW (tVar 8) (tVar 8)) (tC (.int 48271))) (tOp rSubI (tVar 4) (tC (.int 1))))) tNil))))) (tCall (sp_law_draw K) [] E (tCons (tVar 0) (tCons (tOp rAddI (tC (.int 320)) (tVar 1)) (tCons (tC (.int 4)) tNil))))))))))))))
theorem len_law_number {K : PySem.W.Frag} (vs : List V) (H : Hp) (Q : VK) (E : XK) : sp_law_number K vs H Q E → vs.length = (["script", "k", "letters", "long"] : List Str).length := by
  walk_at "len"

theorem pure_law_number {K : PySem.W.Frag} (T : Kx K) (vs : List V) (H : Hp) (Q : VK) (E : XK) (h : sp_law_number K vs H Q E) : t_law_number K E { nx := fun _ H' => Q .non H', rt := Q } (start ["script", "k", "letters", "long", "top", "i", "power", "cell", "spread"] vs) H := by
  obtain ⟨a, ns, k, L, m, rfl, hS, hl, hk, hL, hL2, hm, hm2, hC, q⟩ := h
  walk_at "go"
  refine for_fix walk_range1 (fun i σ' => ∃ x5, σ' = [some (.ref a), some (.int k), some (.int L), some (.int m), some (.int ((L ^ i : Nat) : Int)), x5, none, none, none]) trivial ⟨_, rfl⟩ ?_ ?_
  · rintro i σ' hi ⟨x5, rfl⟩
    have hi' : i < m := by simpa using hi
    have hw := pow_mulW (k := i) hL2 (by omega)
    walk_at "go"
    refine ⟨some (.int i), ?_⟩
    rw [Nat.pow_succ]
    rfl
  rintro σ' ⟨x5, rfl⟩
  rw [Int.toNat_natCast]
  walk_at "go"
  walk_at "draw"
  intro d1 d10 d11
  walk_at "go"
  refine for_fix walk_range1 (fun i σ' => ∃ x5, σ' = [some (.ref a), some (.int k), some (.int L), some (.int m), some (.int ((L ^ m : Nat) : Int)), x5, some (.int ((L ^ i : Nat) : Int)), none, none]) trivial ⟨_, rfl⟩ ?_ ?_
  · rintro i σ' hi ⟨x5, rfl⟩
    have hi' : i < m := by omega
    have hw := pow_mulW (k := i) hL2 (by omega)
    walk_at "go"
    refine ⟨some (.int i), ?_⟩
    rw [Nat.pow_succ]
    rfl
  rintro σ' ⟨x5, rfl⟩
  obtain ⟨r, e⟩ := Int.eq_ofNat_of_zero_le d10
  subst e
  have hr : r < m := by omega
  rw [Int.toNat_natCast]
  have hpow : L ^ r < L ^ m := Nat.pow_lt_pow_right (by omega) hr
  have hpow0 : 1 ≤ L ^ r := Nat.pow_pos (by omega)
  have htop : L ^ m ≤ 26 ^ 30 := Nat.le_trans (Nat.pow_le_pow_left hL2 m) (Nat.pow_le_pow_right (by decide) hm2)
  have htop2 : (26 : Nat) ^ 30 < 2 ^ 150 := by decide
  generalize L ^ m = top at hpow htop q ⊢
  generalize L ^ r = pw at hpow hpow0 ⊢
  refine meet_fix (fun σ' => ∃ cell : Int, σ' = [some (.ref a), some (.int k), some (.int L), some (.int m), some (.int (top : Int)), x5, some (.int (pw : Int)), some (.int cell), none]) ?_ ?_
  · walk_at "go"
    walk_at "if"
    · intro c1
      rw [List.length_map] at c1
      obtain ⟨_, hx, n, rfl⟩ := pick (xs := ns.map V.int) (fun v => ∃ n : Int, v = .int n) (e := (k : Int) % (ns.map V.int).length) (Int.emod_nonneg _ (by rw [List.length_map]; omega)) (Int.emod_lt_of_pos _ (by rw [List.length_map]; omega)) (fun x hx => by
        obtain ⟨n, _, rfl⟩ := List.mem_map.mp hx
        exact ⟨n, rfl⟩)
      have hl9 := List.length_map (f := V.int) (as := ns)
      walk_at "go"
      exact ⟨_, rfl⟩
    · intro _
      exact ⟨rfl, _, rfl⟩
  · rintro _ ⟨cell, rfl⟩
    have htop0 : (0 : Int) < top := by omega
    walk_at "go"
    walk_at "draw"
    intro d2 d20 d21
    walk_at "go"
    have hsp : 0 ≤ cell % (top : Int) + d2 ∧ cell % (top : Int) + d2 < 2 ^ 151 := by
      have h1 := Int.emod_nonneg cell (show (top : Int) ≠ 0 by omega)
      have h2 := Int.emod_lt_of_pos cell htop0
      omega
    generalize cell % (top : Int) + d2 = sp at hsp ⊢
    have hw1 : CMulW sp sp := mulW 160 160 (by omega) (by omega)
    have hsq : sp * sp ≤ 2 ^ 151 * 2 ^ 151 := Int.mul_le_mul (by omega) (by omega) hsp.1 (by omega)
    have hsq0 : 0 ≤ sp * sp := Int.mul_nonneg hsp.1 hsp.1
    have hw2 : CMulW (sp * sp) 48271 := mulW 320 64 (by omega) (by decide)
    walk_at "go"
    intro p1 hp1
    walk_at "go"
    walk_at "draw"
    intro d3 d30 d31
    have hS1 := sqL_at (K := K) (H := H) (p := p1) (xs := [.int 1, .int ((top : Int) - 1), .int (pw : Int), .int (1 + sp * sp * 48271 % ((top : Int) - 1))])
    have hm1 := Int.emod_nonneg (sp * sp * 48271) (show ((top : Int) - 1) ≠ 0 by omega)
    have hm2 := Int.emod_lt_of_pos (sp * sp * 48271) (show 0 < (top : Int) - 1 by omega)
    obtain ⟨_, hat, N, rfl, hN0, hN1⟩ := pick (xs := [.int 1, .int ((top : Int) - 1), .int (pw : Int), .int (1 + sp * sp * 48271 % ((top : Int) - 1))]) (NatIn 1 (top - 1)) d30 (by simpa using d31)
      (all1 (natIn (by omega) (by omega)) (all1 (natIn (by omega) (by omega)) (all1 (natIn (by omega) (by omega)) (all1 (natIn (by omega) (by omega)) all0))))
    walk_at "go"
    exact q N (by omega) (by omega)
/-! ### law -/

def t_law (K : PySem.W.Frag) (E : XK) : TS :=
  (tSeq (tAsg (tTrimE (tOp (rIxL K) (tLst (tCons (tC (.int 2)) (tCons (tC (.int 3)) (tCons (tC (.int 5)) (tCons (tC (.int 10)) (tCons (tC (.int 26)) (tCons (tOp rAddI (tC (.int 2)) (tCall (sp_law_draw K) [] E (tCons (tVar 0) (tCons (tC (.int 1)) (tCons (tC (.int 25)) tNil))))) tNil))))))) (tCall (sp_law_draw K) [] E (tCons (tVar 0) (tCons (tC (.int 0)) (tCons (tC (.int 6)) tNil)))))) (gName 1))
    (tSeq (tAsg (tOp rEq (tCall (sp_law_draw K) [] E (tCons (tVar 0) (tCons (tC (.int 2)) (tCons (tC (.int 6)) tNil)))) (tC (.int 1))) (gName 2))
    (tSeq (tAsg (tLst tNil) (gName 3))
    (tSeq (tFor (iRng1 (tCons (tOp rAddI (tC (.int 1)) (tCB rMin2 (tCons (tC (.int 5)) (tCons (tCB (rLenQ K) (tCons (tVar 0) tNil)) tNil)))) tNil)) (gName 4)
    (tSeq (tAsg (tCall (sp_law_mark K) [] E (tCons (tVar 0) (tCons (tOp rAddI (tC (.int 20)) (tOp rMulW (tC (.int 90)) (tVar 4))) (tCons (tVar 1) (tCons (tVar 2) tNil))))) (gName 5))
    (tSeq (tDrop (tBM K "list" rAppend (tVar 3) (tCons (tVar 5) tNil)))
    (tSeq (tTrim (tFor (iList K (tLst (tCons (tC (.int 0)) (tCons (tC (.int 1)) (tCons (tOp rSubI (tCB rLenS1 (tCons (tVar 5) tNil)) (tC (.int 1))) (tCons (tCB rLenS1 (tCons (tVar 5) tNil)) (tCons (tOp rAddI (tCB rLenS1 (tCons (tVar 5) tNil)) (tC (.int 3))) (tCons (tCall (sp_law_draw K) [] E (tCons (tVar 0) (tCons (tOp rAddI (tC (.int 700)) (tVar 4)) (tCons (tOp rAddI (tCB rLenS1 (tCons (tVar 5) tNil)) (tC (.int 4))) tNil)))) tNil)))))))) (gName 6)
    (tSeq (tAsg (tCall (sp_whole_of K) [] E (tCons (tVar 1) (tCons (tVar 5) (tCons (tVar 6) tNil)))) (gName 7))
    (tIfS (tOr (tNot (tB (tCB (rIsi K) (tCons (tVar 7) (tCons (tC (.ty "int")) tNil))))) (tOr (tB (tCB (rIsi K) (tCons (tVar 7) (tCons (tC (.ty "bool")) tNil)))) (tTest (tOp rNe (tVar 7) (tCall (sp_law_whole K) [] E (tCons (tVar 1) (tCons (tVar 5) (tCons (tVar 6) tNil))))))))
    (tRet (tC (.bl false)))
    tNext))))
    (tSeq (tAsg (tOp rAddI (tC (.int 1)) (tCall (sp_law_draw K) [] E (tCons (tVar 0) (tCons (tOp rAddI (tC (.int 720)) (tVar 4)) (tCons (tC (.int 8)) tNil))))) (gName 6))
    (tMeet (tIfS (tB (tVar 2))
    (tAsg (tC (.int 30)) (gName 6))
    tNext)
    (tSeq (tAsg (tCall (sp_law_number K) [] E (tCons (tVar 0) (tCons (tVar 4) (tCons (tVar 1) (tCons (tVar 6) tNil))))) (gName 8))
    (tSeq (tAsg (tCall (sp_mark_of K) [] E (tCons (tVar 1) (tCons (tVar 8) (tCons (tVar 6) tNil)))) (gName 9))
    (tSeq (tIfS (tOr (tNot (tB (tCall (sp_is_mark K) [] E (tCons (tVar 1) (tCons (tVar 9) tNil))))) (tOr (tTest (tOp rGtI (tCB rLenS1 (tCons (tVar 9) tNil)) (tVar 6))) (tTest (tOp rNe (tCall (sp_law_whole K) [] E (tCons (tVar 1) (tCons (tVar 9) (tCons (tVar 6) tNil)))) (tVar 8)))))
    (tRet (tC (.bl false)))
    tNext)
    (tIfS (tTest (tOp rNe (tCall (sp_mark_of K) [] E (tCons (tVar 1) (tCons (tCall (sp_whole_of K) [] E (tCons (tVar 1) (tCons (tVar 5) (tCons (tOp rAddI (tCB rLenS1 (tCons (tVar 5) tNil)) (tC (.int 2))) tNil)))) (tCons (tOp rAddI (tCB rLenS1 (tCons (tVar 5) tNil)) (tC (.int 2))) tNil)))) (tVar 5)))
    (tRet (tC (.bl false)))
    tNext))))))))))
    (tSeq (tFor (iList K (tVar 3)) (gName 10)
    (tFor (iList K (tVar 3)) (gName 11)
    (tSeq (tAsg (tCB rMax2 (tCons (tCB rLenS1 (tCons (tVar 10) tNil)) (tCons (tCB rLenS1 (tCons (tVar 11) tNil)) tNil))) (gName 6))
    (tIfS (tTest (tOp rNe (tOp rLtS (tVar 10) (tVar 11)) (tOp rLtI (tCall (sp_whole_of K) [] E (tCons (tVar 1) (tCons (tVar 10) (tCons (tVar 6) tNil)))) (tCall (sp_whole_of K) [] E (tCons (tVar 1) (tCons (tVar 11) (tCons (tVar 6) tNil)))))))
    (tRet (tC (.bl false)))
    tNext))))
    (tRet (tC (.bl true))))))))
theorem len_law {K : PySem.W.Frag} (vs : List V) (H : Hp) (Q : VK) (E : XK) : sp_law K vs H Q E → vs.length = (["script"] : List Str).length := by
  walk_at "len"

def MkIn (L : Nat) (v : V) : Prop := ∃ ds : List Nat, v = .str (txt ds) ∧ Mk0 L ds ∧ ds ≠ [] ∧ ds.length ≤ 60
theorem pure_law {K : PySem.W.Frag} (T : Kx K) (vs : List V) (H : Hp) (Q : VK) (E : XK) (h : sp_law K vs H Q E) : t_law K E { nx := fun _ H' => Q .non H', rt := Q } (start ["script", "letters", "long", "marks", "k", "mark", "size", "found", "number", "told", "one", "other"] vs) H := by
  obtain ⟨a, ns, rfl, hS, hl, hO, q⟩ := h
  have hC := clo_only hO
  walk_at "go"
  walk_at "draw"
  intro d1 d10 d11
  walk_at "go"
  intro p1 hp1
  walk_at "go"
  walk_at "draw"
  intro d2 d20 d21
  obtain ⟨_, hat, L, rfl, hL0, hL1⟩ := pick (xs := [.int 2, .int 3, .int 5, .int 10, .int 26, .int (2 + d1)]) (NatIn 2 26) d20 (by simpa using d21)
    (all1 (natIn (by omega) (by omega)) (all1 (natIn (by omega) (by omega)) (all1 (natIn (by omega) (by omega)) (all1 (natIn (by omega) (by omega)) (all1 (natIn (by omega) (by omega)) (all1 (natIn (by omega) (by omega)) all0))))))
  have hSp := sqL_at (K := K) (H := H) (p := p1) (xs := [.int 2, .int 3, .int 5, .int 10, .int 26, .int (2 + d1)])
  walk_at "go"
  walk_at "draw"
  intro d3 d30 d31
  walk_at "go"
  generalize hlg : decide (V.int d3 = V.int 1) = lg
  intro p hp
  have hns : (ns.map V.int).length ≤ 63 := by rw [List.length_map]; exact hl
  walk_at "go"
  have hS0 : ∀ xs, SqL K (upd H p (.lst xs)) a (ns.map V.int) := fun xs => sqL_new hS hp
  have hC0 : ∀ xs, Clo (upd H p (.lst xs)) := fun xs => clo_new hC hp rfl
  refine ⟨_, _, rfl, .inl (hS0 _), ?_⟩
  walk_at "go"
  refine for_fn walk_range1 (fun i σ' H' => ∃ xs x4 x5 x6 x7 x8 x9 x10 x11, H' = upd H p (.lst xs) ∧ xs.length = i ∧ (∀ x ∈ xs, MkIn L x) ∧ σ' = [some (.ref a), some (.int L), some (.bl lg), some (.ref p), x4, x5, x6, x7, x8, x9, x10, x11])
    ⟨[], _, _, _, _, _, _, _, _, rfl, rfl, all0, rfl⟩ (fun _ _ _ _ _ => trivial) ?_ ?_
  · rintro i σ' _ hi ⟨xs, x4, x5, x6, x7, x8, x9, x10, x11, rfl, hxs, hmk, rfl⟩
    have hi5 : i < 6 := by omega
    clear hi
    have hSx := hS0 xs
    walk_at "go"
    refine ⟨a, ns, _, L, lg, rfl, hSx, hl, by omega, by omega, hL0, hL1, fun ds hm hne hlen => ?_⟩
    walk_at "go"
    walk_at "b"
    refine app_new ?_ ?_
    · rw [sz]; omega
    have hmk2 : ∀ x ∈ xs ++ [V.str (txt ds)], MkIn L x := fun x hx => by
      rcases List.mem_append.mp hx with hx | hx
      · exact hmk x hx
      · exact ⟨ds, List.mem_singleton.mp hx, hm, hne, hlen⟩
    have hxs2 : (xs ++ [V.str (txt ds)]).length = i + 1 := by rw [List.length_append, hxs]; rfl
    have hSx := hS0 (xs ++ [V.str (txt ds)])
    have hCx := hC0 (xs ++ [V.str (txt ds)])
    generalize xs ++ [V.str (txt ds)] = ys at hmk2 hxs2 hSx hCx ⊢
    have hln := txt_len ds
    have hlt : ∀ d ∈ ds, d < 26 := fun d hd => Nat.lt_of_lt_of_le (hm.lt d hd) hL1
    have hlen1 : 1 ≤ ds.length := List.length_pos_iff.mpr hne
    walk_at "go"
    walk_at "draw"
    intro d4 d40 d41
    walk_at "go"
    generalize hH2 : upd H p (.lst ys) = H2 at hSx hCx ⊢
    intro p2 hp2
    refine ⟨_, rfl, ⟨_, sqL_at⟩, ?_⟩
    refine for_list (NatIn 0 70) (fun σ' => ∃ x6 x7 x8 x9 x10 x11, σ' = [some (.ref a), some (.int L), some (.bl lg), some (.ref p), some (.int i), some (.str (txt ds)), x6, x7, x8, x9, x10, x11]) sqL_at
      (all1 (natIn (by omega) (by omega)) (all1 (natIn (by omega) (by omega)) (all1 (natIn (by omega) (by omega)) (all1 (natIn (by omega) (by omega)) (all1 (natIn (by omega) (by omega)) (all1 (natIn (by omega) (by omega)) all0)))))) ⟨_, _, _, _, _, _, rfl⟩ ?_ ?_
    · rintro _ σ' ⟨m, rfl, _, hm⟩ ⟨x6, x7, x8, x9, x10, x11, rfl⟩
      walk_at "go"
      walk_at "if"
      · intro c
        exact absurd rfl c
      intro _
      exact ⟨rfl, _, _, _, _, _, _, rfl⟩
    rintro σ' ⟨x6, x7, x8, x9, x10, x11, rfl⟩
    refine ⟨_, Trim.back (by walk_at "ex") hCx, ?_⟩
    walk_at "go"
    walk_at "draw"
    intro d5 d50 d51
    walk_at "go"
    refine meet_fix (fun σ' => ∃ (m : Nat) (x7 x8 x9 x10 x11 : Option V), 1 ≤ m ∧ m ≤ 30 ∧ σ' = [some (.ref a), some (.int L), some (.bl lg), some (.ref p), some (.int i), some (.str (txt ds)), some (.int m), x7, x8, x9, x10, x11]) ?_ ?_
    · walk_at "go"
      cases lg with
      | true =>
        refine iteT ?_
        walk_at "go"
        exact ⟨30, _, _, _, _, _, by omega, by omega, rfl⟩
      | false =>
        refine iteF ?_
        obtain ⟨n, e⟩ := Int.eq_ofNat_of_zero_le (show 0 ≤ 1 + d5 by omega)
        exact ⟨rfl, n, x7, x8, x9, x10, x11, by omega, by omega, by rw [← e]; rfl⟩
    · rintro _ ⟨m, x7, x8, x9, x10, x11, hm0, hm1, rfl⟩
      walk_at "go"
      refine ⟨a, ns, i, L, m, rfl, hSx, hl, by omega, hL0, hL1, hm0, hm1, hCx, fun n hn0 hn1 => ?_⟩
      walk_at "go"
      have hmo : Mk0 L (markOf L n m) := mk0_markOf (by omega)
      have hmo1 := mark_ne hn0 hn1
      have hmo2 := markOf_len L n m
      have hmo3 := txt_len (markOf L n m)
      have hmo4 : ∀ d ∈ markOf L n m, d < 26 := fun d hd => Nat.lt_of_lt_of_le (hmo.lt d hd) hL1
      have hmo5 : ((markOf L n m).map (97 + ·)).length ≤ 1000000 := by rw [List.length_map]; omega
      walk_at "go"
      rw [isMk_mk hmo hmo1]
      walk_at "go"
      refine iteD (fun c => absurd c (by omega)) fun _ => ?_
      walk_at "go"
      rw [whole_mark hn1]
      walk_at "if"
      · intro c
        exact absurd rfl c
      intro _
      walk_at "go"
      rw [mark_whole (by omega) hm (k := (txt ds).length + 2) (by omega)]
      walk_at "if"
      · intro c
        exact absurd rfl c
      intro _
      exact ⟨ys, _, _, _, _, _, _, _, _, hH2.symm, hxs2, hmk2, rfl⟩
  · rintro σ' _ ⟨xs, x4, x5, x6, x7, x8, x9, x10, x11, rfl, hxs, hmk, rfl⟩
    have hSx := hS0 xs
    walk_at "go"
    refine ⟨⟨_, sqL_at⟩, ?_⟩
    refine for_list (MkIn L) (fun σ' => ∃ x4 x5 x6 x7 x8 x9 x10 x11, σ' = [some (.ref a), some (.int L), some (.bl lg), some (.ref p), x4, x5, x6, x7, x8, x9, x10, x11]) sqL_at hmk ⟨_, _, _, _, _, _, _, _, rfl⟩ ?_ ?_
    · rintro _ σ' ⟨A, rfl, hA, hAn, hAl⟩ ⟨x4, x5, x6, x7, x8, x9, x10, x11, rfl⟩
      walk_at "go"
      refine ⟨⟨_, sqL_at⟩, ?_⟩
      refine for_list (MkIn L) (fun σ' => ∃ x4 x5 x6 x7 x8 x9 x11, σ' = [some (.ref a), some (.int L), some (.bl lg), some (.ref p), x4, x5, x6, x7, x8, x9, some (.str (txt A)), x11]) sqL_at hmk ⟨_, _, _, _, _, _, _, rfl⟩ ?_ ?_
      · rintro _ σ' ⟨B, rfl, hB, hBn, hBl⟩ ⟨x4, x5, x6, x7, x8, x9, x11, rfl⟩
        have hlA := txt_len A
        have hlB := txt_len B
        have hltA : ∀ d ∈ A, d < 26 := fun d hd => Nat.lt_of_lt_of_le (hA.lt d hd) hL1
        have hltB : ∀ d ∈ B, d < 26 := fun d hd => Nat.lt_of_lt_of_le (hB.lt d hd) hL1
        walk_at "go"
        obtain ⟨k, hk, hkA, hkB, hk60⟩ : ∃ k : Nat, (if ((txt B).length : Int) > ((txt A).length : Int) then ((txt B).length : Int) else ((txt A).length : Int)) = (k : Int) ∧ A.length ≤ k ∧ B.length ≤ k ∧ k ≤ 60 := by
          split
          · exact ⟨(txt B).length, rfl, by omega, by omega, by omega⟩
          · exact ⟨(txt A).length, rfl, by omega, by omega, by omega⟩
        rw [hk]
        walk_at "go"
        have e : decide ((txt A).cps.toList < (txt B).cps.toList) = decide ((whole L A k : Int) < (whole L B k : Int)) := by
          rw [txt_lt]
          exact decide_eq_decide.mpr ((lt_whole (by omega) hA hB hkA hkB).trans (by omega))
        rw [e]
        refine iteDN (fun c => absurd rfl c) fun _ => ?_
        exact ⟨rfl, _, _, _, _, _, _, _, rfl⟩
      · rintro σ' ⟨x4, x5, x6, x7, x8, x9, x11, rfl⟩
        exact ⟨rfl, _, _, _, _, _, _, _, _, rfl⟩
    · rintro σ' ⟨x4, x5, x6, x7, x8, x9, x10, x11, rfl⟩
      exact q _
end Sm
namespace Sm
open PySem PySem.Spec PyProof.Rows L2
def top (i : Nat) : Stmt := PySem.Challenge.pw_shelfmark_k02_wholes.main.body.getD i (.Pass ⟨0, 0, 0, 0⟩)
abbrev s_is_mark : Stmt := top 2
theorem sc_is_mark : FnScope ["letters", "text", "sign"] ["letters", "text"] (defScope s_is_mark) := ⟨rfl, rfl, rfl, by decide +kernel, rfl, by decide +kernel, by decide +kernel⟩
abbrev s_whole_of : Stmt := top 3
theorem sc_whole_of : FnScope ["letters", "mark", "long", "whole", "k"] ["letters", "mark", "long"] (defScope s_whole_of) := ⟨rfl, rfl, rfl, by decide +kernel, rfl, by decide +kernel, by decide +kernel⟩
abbrev s_mark_of : Stmt := top 4
theorem sc_mark_of : FnScope ["letters", "number", "long", "signs", "k", "rest"] ["letters", "number", "long"] (defScope s_mark_of) := ⟨rfl, rfl, rfl, by decide +kernel, rfl, by decide +kernel, by decide +kernel⟩
abbrev s_law_draw : Stmt := top 6
theorem sc_law_draw : FnScope ["script", "k", "many", "cell", "seed"] ["script", "k", "many"] (defScope s_law_draw) := ⟨rfl, rfl, rfl, by decide +kernel, rfl, by decide +kernel, by decide +kernel⟩
abbrev s_law_mark : Stmt := top 7
theorem sc_law_mark : FnScope ["script", "base", "letters", "long", "signs", "size", "text", "k"] ["script", "base", "letters", "long"] (defScope s_law_mark) := ⟨rfl, rfl, rfl, by decide +kernel, rfl, by decide +kernel, by decide +kernel⟩
abbrev s_law_whole : Stmt := top 8
theorem sc_law_whole : FnScope ["letters", "mark", "long", "whole", "k", "figure"] ["letters", "mark", "long"] (defScope s_law_whole) := ⟨rfl, rfl, rfl, by decide +kernel, rfl, by decide +kernel, by decide +kernel⟩
abbrev s_law_number : Stmt := top 9
theorem sc_law_number : FnScope ["script", "k", "letters", "long", "top", "i", "power", "cell", "spread"] ["script", "k", "letters", "long"] (defScope s_law_number) := ⟨rfl, rfl, rfl, by decide +kernel, rfl, by decide +kernel, by decide +kernel⟩
abbrev s_law : Stmt := top 10
theorem sc_law : FnScope ["script", "letters", "long", "marks", "k", "mark", "size", "found", "number", "told", "one", "other"] ["script"] (defScope s_law) := ⟨rfl, rfl, rfl, by decide +kernel, rfl, by decide +kernel, by decide +kernel⟩
structure Tx (K : PySem.W.Frag) (mg : Str → Option Value) : Prop where
  n_bool : mg "bool" = none
  n_divmod : mg "divmod" = none
  n_int : mg "int" = none
  n_isinstance : mg "isinstance" = none
  n_len : mg "len" = none
  n_max : mg "max" = none
  n_min : mg "min" = none
  n_range : mg "range" = none
  g_LETTERS : ∃ t, mg "LETTERS" = some (.str "abcdefghijklmnopqrstuvwxyz" t)
  kx : Kx K
section
variable {P : Program} {w : World} {K : PySem.W.Frag} {mg : Str → Option Value} {base : Heap}
theorem ok_is_mark {f : Addr} {fd : FuncData} (F : FunD K "is_mark" "is_mark" (defArgs s_is_mark) (defBody s_is_mark) (defScope s_is_mark) [] [] f fd) (T : Tx K mg) : FnOk P w K mg base (L2.CX P w) 1 f fd ["letters", "text"] (sp_is_mark K) := by
  refine F.ok sc_is_mark len_is_mark (fun cdv A outer s H vs Q E hr h => ⟨t_is_mark K E, ?_, pure_is_mark T.kx vs H Q E h⟩)
  have nd := sc_is_mark.nd
  have hu := hu_of hr
  have htk : Takes (cxOf (L2.CX P w) P w K mg base ["letters", "text", "sign"] "is_mark" (defScope s_is_mark) f cdv A outer s H E) (fun c d _ H => E c d H) := takes_of rfl rfl rfl rfl
  have hpx : Passes (L2.CX P w) (cxOf (L2.CX P w) P w K mg base ["letters", "text", "sign"] "is_mark" (defScope s_is_mark) f cdv A outer s H E) E := passes_call htk fun _ _ _ _ z => z
  have hps : PassesOwn (model P w) (A.deeper (envOfC "is_mark" (defScope s_is_mark) s.heap.objs.size f cdv)) (envOfC "is_mark" (defScope s_is_mark) s.heap.objs.size f cdv) (cxOf (L2.CX P w) P w K mg base ["letters", "text", "sign"] "is_mark" (defScope s_is_mark) f cdv A outer s H E).xe := passes_of (X := cxOf (L2.CX P w) P w K mg base ["letters", "text", "sign"] "is_mark" (defScope s_is_mark) f cdv A outer s H E) rfl
  exact (pss_cons (ps_if (PW.pt (pw_or (pt_cmpR op_eq (pv 1) pe_str (nomark _)) (pw_or1 (pt_cmpR op_eq (pe_ix ix_str (pv 1) (pe_un un_neg pe_int) (fun _ _ => rfl)) pe_str (nomark _)))))
    (pss_one (ps_ret pe_bl))
    pss_nil)
    (pss_cons (ps_for hps rfl (pi_str (pv 1)) (pg_name (i := 2) nd rfl (by first | exact Or.inl rfl | exact Or.inr rfl))
    (pss_one (ps_if (pt_cmpR op_notIn_sign (pv 2) (pe_slice C8.sl_txt (pe_glob (by rfl) T.g_LETTERS.choose_spec ⟨_, rfl⟩) po_none (po_some (pv 0))) (by rfl))
    (pss_one (ps_ret pe_bl))
    pss_nil)))
    (pss_one (ps_ret pe_bl))))
theorem ok_whole_of {f : Addr} {fd : FuncData} (F : FunD K "whole_of" "whole_of" (defArgs s_whole_of) (defBody s_whole_of) (defScope s_whole_of) [] [] f fd) (T : Tx K mg) : FnOk P w K mg base (L2.CX P w) 1 f fd ["letters", "mark", "long"] (sp_whole_of K) := by
  refine F.ok sc_whole_of len_whole_of (fun cdv A outer s H vs Q E hr h => ⟨t_whole_of K E, ?_, pure_whole_of T.kx vs H Q E h⟩)
  have nd := sc_whole_of.nd
  have hu := hu_of hr
  have htk : Takes (cxOf (L2.CX P w) P w K mg base ["letters", "mark", "long", "whole", "k"] "whole_of" (defScope s_whole_of) f cdv A outer s H E) (fun c d _ H => E c d H) := takes_of rfl rfl rfl rfl
  have hpx : Passes (L2.CX P w) (cxOf (L2.CX P w) P w K mg base ["letters", "mark", "long", "whole", "k"] "whole_of" (defScope s_whole_of) f cdv A outer s H E) E := passes_call htk fun _ _ _ _ z => z
  have hps : PassesOwn (model P w) (A.deeper (envOfC "whole_of" (defScope s_whole_of) s.heap.objs.size f cdv)) (envOfC "whole_of" (defScope s_whole_of) s.heap.objs.size f cdv) (cxOf (L2.CX P w) P w K mg base ["letters", "mark", "long", "whole", "k"] "whole_of" (defScope s_whole_of) f cdv A outer s H E).xe := passes_of (X := cxOf (L2.CX P w) P w K mg base ["letters", "mark", "long", "whole", "k"] "whole_of" (defScope s_whole_of) f cdv A outer s H E) rfl
  exact (pss_cons (ps_set (i := 3) nd rfl (by first | exact Or.inl rfl | exact Or.inr rfl) pe_int)
    (pss_cons (ps_for hps rfl (pi_range1 (by rfl) T.n_range (pa_cons (pv 2) pa_nil)) (pg_name (i := 4) nd rfl (by first | exact Or.inl rfl | exact Or.inr rfl))
    (pss_cons (ps_set (i := 3) nd rfl (by first | exact Or.inl rfl | exact Or.inr rfl) (pe_op op_mulW (pv 3) (pv 0)))
    (pss_one (ps_if (pt_cmpR op_lt (pv 4) (pe_callB call_len_str (by rfl) T.n_len (by decide +kernel) (pa_cons (pv 1) pa_nil)) (nomark _))
    (pss_one (ps_set (i := 3) nd rfl (by first | exact Or.inl rfl | exact Or.inr rfl) (pe_op op_add (pv 3) (pe_bmS PySem.F.plainAttrs_str PySem.F.slot_str_index PySem.F.type_str_index (mt_indexS rfl) (pe_glob (by rfl) T.g_LETTERS.choose_spec ⟨_, rfl⟩) (pa_cons (pe_ix ix_str (pv 1) (pv 4) (fun _ _ => rfl)) pa_nil)))))
    pss_nil))))
    (pss_one (ps_ret (pv 3)))))
theorem ok_mark_of {f : Addr} {fd : FuncData} (F : FunD K "mark_of" "mark_of" (defArgs s_mark_of) (defBody s_mark_of) (defScope s_mark_of) [] [] f fd) (T : Tx K mg) : FnOk P w K mg base (L2.CX P w) 1 f fd ["letters", "number", "long"] (sp_mark_of K) := by
  refine F.ok sc_mark_of len_mark_of (fun cdv A outer s H vs Q E hr h => ⟨t_mark_of K E, ?_, pure_mark_of T.kx vs H Q E h⟩)
  have nd := sc_mark_of.nd
  have hu := hu_of hr
  have htk : Takes (cxOf (L2.CX P w) P w K mg base ["letters", "number", "long", "signs", "k", "rest"] "mark_of" (defScope s_mark_of) f cdv A outer s H E) (fun c d _ H => E c d H) := takes_of rfl rfl rfl rfl
  have hpx : Passes (L2.CX P w) (cxOf (L2.CX P w) P w K mg base ["letters", "number", "long", "signs", "k", "rest"] "mark_of" (defScope s_mark_of) f cdv A outer s H E) E := passes_call htk fun _ _ _ _ z => z
  have hps : PassesOwn (model P w) (A.deeper (envOfC "mark_of" (defScope s_mark_of) s.heap.objs.size f cdv)) (envOfC "mark_of" (defScope s_mark_of) s.heap.objs.size f cdv) (cxOf (L2.CX P w) P w K mg base ["letters", "number", "long", "signs", "k", "rest"] "mark_of" (defScope s_mark_of) f cdv A outer s H E).xe := passes_of (X := cxOf (L2.CX P w) P w K mg base ["letters", "number", "long", "signs", "k", "rest"] "mark_of" (defScope s_mark_of) f cdv A outer s H E) rfl
  exact (pss_trim (pss_cons (ps_set (i := 3) nd rfl (by first | exact Or.inl rfl | exact Or.inr rfl) (pe_lst pa_nil))
    (pss_cons (ps_for hps rfl (pi_range1 (by rfl) T.n_range (pa_cons (pv 2) pa_nil)) (pg_name (i := 4) nd rfl (by first | exact Or.inl rfl | exact Or.inr rfl))
    (pss_cons (ps_trim (ps_asg (pe_callB call_divmod (by rfl) T.n_divmod (by decide +kernel) (pa_cons (pv 1) (pa_cons (pv 0) pa_nil))) (pg_tup rfl (pgs_cons (pg_name (i := 1) nd rfl (by first | exact Or.inl rfl | exact Or.inr rfl)) (pgs_cons (pg_name (i := 5) nd rfl (by first | exact Or.inl rfl | exact Or.inr rfl)) pgs_nil)))))
    (pss_one (ps_expr (pe_bm PySem.F.plainAttrs_list PySem.F.slot_list_append PySem.F.type_list_append mt_append (pv 3) (pa_cons (pe_ix ix_str (pe_glob (by rfl) T.g_LETTERS.choose_spec ⟨_, rfl⟩) (pv 5) (fun _ _ => rfl)) pa_nil))))))
    (pss_cons (ps_expr (pe_bm0 PySem.F.plainAttrs_list PySem.F.slot_list_reverse PySem.F.type_list_reverse mt_reverse (pv 3)))
    (pss_one (ps_ret (pe_bm PySem.F.plainAttrs_str PySem.F.slot_str_rstrip PySem.F.type_str_rstrip mt_rstripChars (pe_bm PySem.F.plainAttrs_str PySem.F.slot_str_join PySem.F.type_str_join mt_join pe_str (pa_cons (pv 3) pa_nil)) (pa_cons pe_str pa_nil))))))))
theorem ok_law_draw {f : Addr} {fd : FuncData} (F : FunD K "_law_draw" "_law_draw" (defArgs s_law_draw) (defBody s_law_draw) (defScope s_law_draw) [] [] f fd) (T : Tx K mg) : FnOk P w K mg base (L2.CX P w) 1 f fd ["script", "k", "many"] (sp_law_draw K) := by
  refine F.ok sc_law_draw len_law_draw (fun cdv A outer s H vs Q E hr h => ⟨t_law_draw K E, ?_, pure_law_draw T.kx vs H Q E h⟩)
  have nd := sc_law_draw.nd
  have hu := hu_of hr
  have htk : Takes (cxOf (L2.CX P w) P w K mg base ["script", "k", "many", "cell", "seed"] "_law_draw" (defScope s_law_draw) f cdv A outer s H E) (fun c d _ H => E c d H) := takes_of rfl rfl rfl rfl
  have hpx : Passes (L2.CX P w) (cxOf (L2.CX P w) P w K mg base ["script", "k", "many", "cell", "seed"] "_law_draw" (defScope s_law_draw) f cdv A outer s H E) E := passes_call htk fun _ _ _ _ z => z
  have hps : PassesOwn (model P w) (A.deeper (envOfC "_law_draw" (defScope s_law_draw) s.heap.objs.size f cdv)) (envOfC "_law_draw" (defScope s_law_draw) s.heap.objs.size f cdv) (cxOf (L2.CX P w) P w K mg base ["script", "k", "many", "cell", "seed"] "_law_draw" (defScope s_law_draw) f cdv A outer s H E).xe := passes_of (X := cxOf (L2.CX P w) P w K mg base ["script", "k", "many", "cell", "seed"] "_law_draw" (defScope s_law_draw) f cdv A outer s H E) rfl
  exact (pss_meet (ps_set (i := 3) nd rfl (by first | exact Or.inl rfl | exact Or.inr rfl) (pe_ifExp (pt_cmpR op_gt (pe_callB call_len_seq (by rfl) T.n_len (by decide +kernel) (pa_cons (pv 0) pa_nil)) pe_int (nomark _)) (pe_ix ix_list (pv 0) (pe_op op_mod (pv 1) (pe_callB call_len_seq (by rfl) T.n_len (by decide +kernel) (pa_cons (pv 0) pa_nil))) (fun _ _ => rfl)) pe_int))
    (pss_meet (ps_if (PW.pt (pw_and (pt_cmpR op_gt (pe_callB call_len_seq (by rfl) T.n_len (by decide +kernel) (pa_cons (pv 0) pa_nil)) pe_int (nomark _)) (pw_and1 (pt_cmpR op_eq (pe_op op_mod (pe_ix ix_list (pv 0) pe_int (fun _ _ => rfl)) pe_int) pe_int (nomark _)))))
    (pss_one (ps_ret (pe_op op_mod (pe_op op_mod (pe_op op_shr (pv 3) (pe_op op_add (pe_op op_mulW pe_int (pe_op op_fdivW (pv 1) (pe_callB call_len_seq (by rfl) T.n_len (by decide +kernel) (pa_cons (pv 0) pa_nil)))) pe_int)) pe_int) (pv 2))))
    pss_nil)
    (pss_cons (ps_set (i := 4) nd rfl (by first | exact Or.inl rfl | exact Or.inr rfl) (pe_op op_add (pe_op op_add (pe_op op_mod (pv 3) pe_int) (pe_op op_mulW (pe_op op_mulW pe_int (pv 1)) (pv 1))) pe_int))
    (pss_one (ps_ret (pe_op op_mod (pe_op op_mod (pe_op op_mulW (pe_op op_mod (pe_op op_mulW (pv 4) pe_int) pe_int) pe_int) pe_int) (pv 2)))))))
theorem ok_law_mark {f : Addr} {fd : FuncData} (F : FunD K "_law_mark" "_law_mark" (defArgs s_law_mark) (defBody s_law_mark) (defScope s_law_mark) [] [] f fd) (T : Tx K mg) (G_law_draw : FnG P w K mg base (L2.CX P w) "_law_draw" ["script", "k", "many"] 1 (sp_law_draw K)) : FnOk P w K mg base (L2.CX P w) 2 f fd ["script", "base", "letters", "long"] (sp_law_mark K) := by
  refine F.ok sc_law_mark len_law_mark (fun cdv A outer s H vs Q E hr h => ⟨t_law_mark K E, ?_, pure_law_mark T.kx vs H Q E h⟩)
  have nd := sc_law_mark.nd
  have hu := hu_of hr
  have htk : Takes (cxOf (L2.CX P w) P w K mg base ["script", "base", "letters", "long", "signs", "size", "text", "k"] "_law_mark" (defScope s_law_mark) f cdv A outer s H E) (fun c d _ H => E c d H) := takes_of rfl rfl rfl rfl
  have hpx : Passes (L2.CX P w) (cxOf (L2.CX P w) P w K mg base ["script", "base", "letters", "long", "signs", "size", "text", "k"] "_law_mark" (defScope s_law_mark) f cdv A outer s H E) E := passes_call htk fun _ _ _ _ z => z
  have hps : PassesOwn (model P w) (A.deeper (envOfC "_law_mark" (defScope s_law_mark) s.heap.objs.size f cdv)) (envOfC "_law_mark" (defScope s_law_mark) s.heap.objs.size f cdv) (cxOf (L2.CX P w) P w K mg base ["script", "base", "letters", "long", "signs", "size", "text", "k"] "_law_mark" (defScope s_law_mark) f cdv A outer s H E).xe := passes_of (X := cxOf (L2.CX P w) P w K mg base ["script", "base", "letters", "long", "signs", "size", "text", "k"] "_law_mark" (defScope s_law_mark) f cdv A outer s H E) rfl
  exact (pss_cons (ps_set (i := 4) nd rfl (by first | exact Or.inl rfl | exact Or.inr rfl) pe_str)
    (pss_cons (ps_set (i := 5) nd rfl (by first | exact Or.inl rfl | exact Or.inr rfl) (pe_op op_add pe_int (pe_G G_law_draw hr (by decide) rfl hpx (pa_cons (pv 0) (pa_cons (pv 1) (pa_cons pe_int pa_nil))))))
    (pss_meet (ps_if (pt_val (pv 3))
    (pss_one (ps_set (i := 5) nd rfl (by first | exact Or.inl rfl | exact Or.inr rfl) (pe_op op_add pe_int (pe_G G_law_draw hr (by decide) rfl hpx (pa_cons (pv 0) (pa_cons (pv 1) (pa_cons pe_int pa_nil)))))))
    pss_nil)
    (pss_cons (ps_set (i := 6) nd rfl (by first | exact Or.inl rfl | exact Or.inr rfl) pe_str)
    (pss_cons (ps_for hps rfl (pi_range1 (by rfl) T.n_range (pa_cons (pe_op op_sub (pv 5) pe_int) pa_nil)) (pg_name (i := 7) nd rfl (by first | exact Or.inl rfl | exact Or.inr rfl))
    (pss_one (ps_set (i := 6) nd rfl (by first | exact Or.inl rfl | exact Or.inr rfl) (pe_op op_add_str (pv 6) (pe_ix ix_str (pv 4) (pe_G G_law_draw hr (by decide) rfl hpx (pa_cons (pv 0) (pa_cons (pe_op op_add (pe_op op_add (pv 1) pe_int) (pv 7)) (pa_cons (pv 2) pa_nil)))) (fun _ _ => rfl))))))
    (pss_one (ps_ret (pe_op op_add_str (pv 6) (pe_ix ix_str (pv 4) (pe_op op_add pe_int (pe_G G_law_draw hr (by decide) rfl hpx (pa_cons (pv 0) (pa_cons (pe_op op_add (pv 1) pe_int) (pa_cons (pe_op op_sub (pv 2) pe_int) pa_nil))))) (fun _ _ => rfl))))))))))
theorem ok_law_whole {f : Addr} {fd : FuncData} (F : FunD K "_law_whole" "_law_whole" (defArgs s_law_whole) (defBody s_law_whole) (defScope s_law_whole) [] [] f fd) (T : Tx K mg) : FnOk P w K mg base (L2.CX P w) 1 f fd ["letters", "mark", "long"] (sp_law_whole K) := by
  refine F.ok sc_law_whole len_law_whole (fun cdv A outer s H vs Q E hr h => ⟨t_law_whole K E, ?_, pure_law_whole T.kx vs H Q E h⟩)
  have nd := sc_law_whole.nd
  have hu := hu_of hr
  have htk : Takes (cxOf (L2.CX P w) P w K mg base ["letters", "mark", "long", "whole", "k", "figure"] "_law_whole" (defScope s_law_whole) f cdv A outer s H E) (fun c d _ H => E c d H) := takes_of rfl rfl rfl rfl
  have hpx : Passes (L2.CX P w) (cxOf (L2.CX P w) P w K mg base ["letters", "mark", "long", "whole", "k", "figure"] "_law_whole" (defScope s_law_whole) f cdv A outer s H E) E := passes_call htk fun _ _ _ _ z => z
  have hps : PassesOwn (model P w) (A.deeper (envOfC "_law_whole" (defScope s_law_whole) s.heap.objs.size f cdv)) (envOfC "_law_whole" (defScope s_law_whole) s.heap.objs.size f cdv) (cxOf (L2.CX P w) P w K mg base ["letters", "mark", "long", "whole", "k", "figure"] "_law_whole" (defScope s_law_whole) f cdv A outer s H E).xe := passes_of (X := cxOf (L2.CX P w) P w K mg base ["letters", "mark", "long", "whole", "k", "figure"] "_law_whole" (defScope s_law_whole) f cdv A outer s H E) rfl
  exact (pss_cons (ps_set (i := 3) nd rfl (by first | exact Or.inl rfl | exact Or.inr rfl) pe_int)
    (pss_cons (ps_for hps rfl (pi_range1 (by rfl) T.n_range (pa_cons (pv 2) pa_nil)) (pg_name (i := 4) nd rfl (by first | exact Or.inl rfl | exact Or.inr rfl))
    (pss_cons (ps_set (i := 5) nd rfl (by first | exact Or.inl rfl | exact Or.inr rfl) pe_int)
    (pss_meet (ps_if (pt_cmpR op_lt (pv 4) (pe_callB call_len_str (by rfl) T.n_len (by decide +kernel) (pa_cons (pv 1) pa_nil)) (nomark _))
    (pss_one (ps_set (i := 5) nd rfl (by first | exact Or.inl rfl | exact Or.inr rfl) (pe_bmS PySem.F.plainAttrs_str PySem.F.slot_str_index PySem.F.type_str_index (mt_indexS rfl) pe_str (pa_cons (pe_ix ix_str (pv 1) (pv 4) (fun _ _ => rfl)) pa_nil))))
    pss_nil)
    (pss_one (ps_set (i := 3) nd rfl (by first | exact Or.inl rfl | exact Or.inr rfl) (pe_op op_add (pe_op op_mulW (pv 3) (pv 0)) (pv 5)))))))
    (pss_one (ps_ret (pv 3)))))
theorem ok_law_number {f : Addr} {fd : FuncData} (F : FunD K "_law_number" "_law_number" (defArgs s_law_number) (defBody s_law_number) (defScope s_law_number) [] [] f fd) (T : Tx K mg) (G_law_draw : FnG P w K mg base (L2.CX P w) "_law_draw" ["script", "k", "many"] 1 (sp_law_draw K)) : FnOk P w K mg base (L2.CX P w) 2 f fd ["script", "k", "letters", "long"] (sp_law_number K) := by
  refine F.ok sc_law_number len_law_number (fun cdv A outer s H vs Q E hr h => ⟨t_law_number K E, ?_, pure_law_number T.kx vs H Q E h⟩)
  have nd := sc_law_number.nd
  have hu := hu_of hr
  have htk : Takes (cxOf (L2.CX P w) P w K mg base ["script", "k", "letters", "long", "top", "i", "power", "cell", "spread"] "_law_number" (defScope s_law_number) f cdv A outer s H E) (fun c d _ H => E c d H) := takes_of rfl rfl rfl rfl
  have hpx : Passes (L2.CX P w) (cxOf (L2.CX P w) P w K mg base ["script", "k", "letters", "long", "top", "i", "power", "cell", "spread"] "_law_number" (defScope s_law_number) f cdv A outer s H E) E := passes_call htk fun _ _ _ _ z => z
  have hps : PassesOwn (model P w) (A.deeper (envOfC "_law_number" (defScope s_law_number) s.heap.objs.size f cdv)) (envOfC "_law_number" (defScope s_law_number) s.heap.objs.size f cdv) (cxOf (L2.CX P w) P w K mg base ["script", "k", "letters", "long", "top", "i", "power", "cell", "spread"] "_law_number" (defScope s_law_number) f cdv A outer s H E).xe := passes_of (X := cxOf (L2.CX P w) P w K mg base ["script", "k", "letters", "long", "top", "i", "power", "cell", "spread"] "_law_number" (defScope s_law_number) f cdv A outer s H E) rfl
  exact (pss_trim (pss_cons (ps_set (i := 4) nd rfl (by first | exact Or.inl rfl | exact Or.inr rfl) pe_int)
    (pss_cons (ps_for hps rfl (pi_range1 (by rfl) T.n_range (pa_cons (pv 3) pa_nil)) (pg_name (i := 5) nd rfl (by first | exact Or.inl rfl | exact Or.inr rfl))
    (pss_one (ps_set (i := 4) nd rfl (by first | exact Or.inl rfl | exact Or.inr rfl) (pe_op op_mulW (pv 4) (pv 2)))))
    (pss_cons (ps_set (i := 6) nd rfl (by first | exact Or.inl rfl | exact Or.inr rfl) pe_int)
    (pss_cons (ps_for hps rfl (pi_range1 (by rfl) T.n_range (pa_cons (pe_G G_law_draw hr (by decide) rfl hpx (pa_cons (pv 0) (pa_cons (pe_op op_add pe_int (pv 1)) (pa_cons (pv 3) pa_nil)))) pa_nil)) (pg_name (i := 5) nd rfl (by first | exact Or.inl rfl | exact Or.inr rfl))
    (pss_one (ps_set (i := 6) nd rfl (by first | exact Or.inl rfl | exact Or.inr rfl) (pe_op op_mulW (pv 6) (pv 2)))))
    (pss_meet (ps_set (i := 7) nd rfl (by first | exact Or.inl rfl | exact Or.inr rfl) (pe_ifExp (pt_cmpR op_gt (pe_callB call_len_seq (by rfl) T.n_len (by decide +kernel) (pa_cons (pv 0) pa_nil)) pe_int (nomark _)) (pe_ix ix_list (pv 0) (pe_op op_mod (pv 1) (pe_callB call_len_seq (by rfl) T.n_len (by decide +kernel) (pa_cons (pv 0) pa_nil))) (fun _ _ => rfl)) pe_int))
    (pss_cons (ps_set (i := 8) nd rfl (by first | exact Or.inl rfl | exact Or.inr rfl) (pe_op op_add (pe_op op_mod (pv 7) (pv 4)) (pe_G G_law_draw hr (by decide) rfl hpx (pa_cons (pv 0) (pa_cons (pe_op op_add pe_int (pv 1)) (pa_cons pe_int pa_nil))))))
    (pss_one (ps_ret (pe_trim (pe_ix ix_list (pe_lst (pa_cons pe_int (pa_cons (pe_op op_sub (pv 4) pe_int) (pa_cons (pv 6) (pa_cons (pe_op op_add pe_int (pe_op op_mod (pe_op op_mulW (pe_op op_mulW (pv 8) (pv 8)) pe_int) (pe_op op_sub (pv 4) pe_int))) pa_nil))))) (pe_G G_law_draw hr (by decide) rfl hpx (pa_cons (pv 0) (pa_cons (pe_op op_add pe_int (pv 1)) (pa_cons pe_int pa_nil)))) (fun _ _ => rfl))))))))))))
theorem ok_law {f : Addr} {fd : FuncData} (F : FunD K "law" "law" (defArgs s_law) (defBody s_law) (defScope s_law) [] [] f fd) (T : Tx K mg) (G_law_draw : FnG P w K mg base (L2.CX P w) "_law_draw" ["script", "k", "many"] 1 (sp_law_draw K)) (G_law_mark : FnG P w K mg base (L2.CX P w) "_law_mark" ["script", "base", "letters", "long"] 2 (sp_law_mark K)) (G_whole_of : FnG P w K mg base (L2.CX P w) "whole_of" ["letters", "mark", "long"] 1 (sp_whole_of K)) (G_law_whole : FnG P w K mg base (L2.CX P w) "_law_whole" ["letters", "mark", "long"] 1 (sp_law_whole K)) (G_law_number : FnG P w K mg base (L2.CX P w) "_law_number" ["script", "k", "letters", "long"] 2 (sp_law_number K)) (G_mark_of : FnG P w K mg base (L2.CX P w) "mark_of" ["letters", "number", "long"] 1 (sp_mark_of K)) (G_is_mark : FnG P w K mg base (L2.CX P w) "is_mark" ["letters", "text"] 1 (sp_is_mark K)) : FnOk P w K mg base (L2.CX P w) 3 f fd ["script"] (sp_law K) := by
  refine F.ok sc_law len_law (fun cdv A outer s H vs Q E hr h => ⟨t_law K E, ?_, pure_law T.kx vs H Q E h⟩)
  have nd := sc_law.nd
  have hu := hu_of hr
  have htk : Takes (cxOf (L2.CX P w) P w K mg base ["script", "letters", "long", "marks", "k", "mark", "size", "found", "number", "told", "one", "other"] "law" (defScope s_law) f cdv A outer s H E) (fun c d _ H => E c d H) := takes_of rfl rfl rfl rfl
  have hpx : Passes (L2.CX P w) (cxOf (L2.CX P w) P w K mg base ["script", "letters", "long", "marks", "k", "mark", "size", "found", "number", "told", "one", "other"] "law" (defScope s_law) f cdv A outer s H E) E := passes_call htk fun _ _ _ _ z => z
  have hps : PassesOwn (model P w) (A.deeper (envOfC "law" (defScope s_law) s.heap.objs.size f cdv)) (envOfC "law" (defScope s_law) s.heap.objs.size f cdv) (cxOf (L2.CX P w) P w K mg base ["script", "letters", "long", "marks", "k", "mark", "size", "found", "number", "told", "one", "other"] "law" (defScope s_law) f cdv A outer s H E).xe := passes_of (X := cxOf (L2.CX P w) P w K mg base ["script", "letters", "long", "marks", "k", "mark", "size", "found", "number", "told", "one", "other"] "law" (defScope s_law) f cdv A outer s H E) rfl
  exact (pss_cons (ps_set (i := 1) nd rfl (by first | exact Or.inl rfl | exact Or.inr rfl) (pe_trim (pe_ix ix_list (pe_lst (pa_cons pe_int (pa_cons pe_int (pa_cons pe_int (pa_cons pe_int (pa_cons pe_int (pa_cons (pe_op op_add pe_int (pe_G G_law_draw hr (by decide) rfl hpx (pa_cons (pv 0) (pa_cons pe_int (pa_cons pe_int pa_nil))))) pa_nil))))))) (pe_G G_law_draw hr (by decide) rfl hpx (pa_cons (pv 0) (pa_cons pe_int (pa_cons pe_int pa_nil)))) (fun _ _ => rfl))))
    (pss_cons (ps_set (i := 2) nd rfl (by first | exact Or.inl rfl | exact Or.inr rfl) (pe_cmpR op_eq (pe_G G_law_draw hr (by decide) rfl hpx (pa_cons (pv 0) (pa_cons pe_int (pa_cons pe_int pa_nil)))) pe_int (nomark _)))
    (pss_cons (ps_set (i := 3) nd rfl (by first | exact Or.inl rfl | exact Or.inr rfl) (pe_lst pa_nil))
    (pss_cons (ps_for hps rfl (pi_range1 (by rfl) T.n_range (pa_cons (pe_op op_add pe_int (pe_callB (call_min2 rfl) (by rfl) T.n_min (by decide +kernel) (pa_cons pe_int (pa_cons (pe_callB call_len_seq (by rfl) T.n_len (by decide +kernel) (pa_cons (pv 0) pa_nil)) pa_nil)))) pa_nil)) (pg_name (i := 4) nd rfl (by first | exact Or.inl rfl | exact Or.inr rfl))
    (pss_cons (ps_set (i := 5) nd rfl (by first | exact Or.inl rfl | exact Or.inr rfl) (pe_G G_law_mark hr (by decide) rfl hpx (pa_cons (pv 0) (pa_cons (pe_op op_add pe_int (pe_op op_mulW pe_int (pv 4))) (pa_cons (pv 1) (pa_cons (pv 2) pa_nil))))))
    (pss_cons (ps_expr (pe_bm PySem.F.plainAttrs_list PySem.F.slot_list_append PySem.F.type_list_append mt_append (pv 3) (pa_cons (pv 5) pa_nil)))
    (pss_cons (ps_trim (ps_for hps rfl (pi_list (pe_lst (pa_cons pe_int (pa_cons pe_int (pa_cons (pe_op op_sub (pe_callB call_len_str (by rfl) T.n_len (by decide +kernel) (pa_cons (pv 5) pa_nil)) pe_int) (pa_cons (pe_callB call_len_str (by rfl) T.n_len (by decide +kernel) (pa_cons (pv 5) pa_nil)) (pa_cons (pe_op op_add (pe_callB call_len_str (by rfl) T.n_len (by decide +kernel) (pa_cons (pv 5) pa_nil)) pe_int) (pa_cons (pe_G G_law_draw hr (by decide) rfl hpx (pa_cons (pv 0) (pa_cons (pe_op op_add pe_int (pv 4)) (pa_cons (pe_op op_add (pe_callB call_len_str (by rfl) T.n_len (by decide +kernel) (pa_cons (pv 5) pa_nil)) pe_int) pa_nil)))) pa_nil)))))))) (pg_name (i := 6) nd rfl (by first | exact Or.inl rfl | exact Or.inr rfl))
    (pss_cons (ps_set (i := 7) nd rfl (by first | exact Or.inl rfl | exact Or.inr rfl) (pe_G G_whole_of hr (by decide) rfl hpx (pa_cons (pv 1) (pa_cons (pv 5) (pa_cons (pv 6) pa_nil)))))
    (pss_one (ps_if (PW.pt (pw_or (pt_not (pt_val (pe_callB call_isi (by rfl) T.n_isinstance (by decide +kernel) (pa_cons (pv 7) (pa_cons (pe_bltn (by rfl) T.n_int (by decide +kernel) rfl) pa_nil))))) (pw_or (pt_val (pe_callB call_isi (by rfl) T.n_isinstance (by decide +kernel) (pa_cons (pv 7) (pa_cons (pe_bltn (by rfl) T.n_bool (by decide +kernel) rfl) pa_nil)))) (pw_or1 (pt_cmpR op_ne (pv 7) (pe_G G_law_whole hr (by decide) rfl hpx (pa_cons (pv 1) (pa_cons (pv 5) (pa_cons (pv 6) pa_nil)))) (nomark _))))))
    (pss_one (ps_ret pe_bl))
    pss_nil)))))
    (pss_cons (ps_set (i := 6) nd rfl (by first | exact Or.inl rfl | exact Or.inr rfl) (pe_op op_add pe_int (pe_G G_law_draw hr (by decide) rfl hpx (pa_cons (pv 0) (pa_cons (pe_op op_add pe_int (pv 4)) (pa_cons pe_int pa_nil))))))
    (pss_meet (ps_if (pt_val (pv 2))
    (pss_one (ps_set (i := 6) nd rfl (by first | exact Or.inl rfl | exact Or.inr rfl) pe_int))
    pss_nil)
    (pss_cons (ps_set (i := 8) nd rfl (by first | exact Or.inl rfl | exact Or.inr rfl) (pe_G G_law_number hr (by decide) rfl hpx (pa_cons (pv 0) (pa_cons (pv 4) (pa_cons (pv 1) (pa_cons (pv 6) pa_nil))))))
    (pss_cons (ps_set (i := 9) nd rfl (by first | exact Or.inl rfl | exact Or.inr rfl) (pe_G G_mark_of hr (by decide) rfl hpx (pa_cons (pv 1) (pa_cons (pv 8) (pa_cons (pv 6) pa_nil)))))
    (pss_cons (ps_if (PW.pt (pw_or (pt_not (pt_val (pe_G G_is_mark hr (by decide) rfl hpx (pa_cons (pv 1) (pa_cons (pv 9) pa_nil))))) (pw_or (pt_cmpR op_gt (pe_callB call_len_str (by rfl) T.n_len (by decide +kernel) (pa_cons (pv 9) pa_nil)) (pv 6) (nomark _)) (pw_or1 (pt_cmpR op_ne (pe_G G_law_whole hr (by decide) rfl hpx (pa_cons (pv 1) (pa_cons (pv 9) (pa_cons (pv 6) pa_nil)))) (pv 8) (nomark _))))))
    (pss_one (ps_ret pe_bl))
    pss_nil)
    (pss_one (ps_if (pt_cmpR op_ne (pe_G G_mark_of hr (by decide) rfl hpx (pa_cons (pv 1) (pa_cons (pe_G G_whole_of hr (by decide) rfl hpx (pa_cons (pv 1) (pa_cons (pv 5) (pa_cons (pe_op op_add (pe_callB call_len_str (by rfl) T.n_len (by decide +kernel) (pa_cons (pv 5) pa_nil)) pe_int) pa_nil)))) (pa_cons (pe_op op_add (pe_callB call_len_str (by rfl) T.n_len (by decide +kernel) (pa_cons (pv 5) pa_nil)) pe_int) pa_nil)))) (pv 5) (nomark _))
    (pss_one (ps_ret pe_bl))
    pss_nil)))))))))))
    (pss_cons (ps_for hps rfl (pi_list (pv 3)) (pg_name (i := 10) nd rfl (by first | exact Or.inl rfl | exact Or.inr rfl))
    (pss_one (ps_for hps rfl (pi_list (pv 3)) (pg_name (i := 11) nd rfl (by first | exact Or.inl rfl | exact Or.inr rfl))
    (pss_cons (ps_set (i := 6) nd rfl (by first | exact Or.inl rfl | exact Or.inr rfl) (pe_callB (call_max2 rfl) (by rfl) T.n_max (by decide +kernel) (pa_cons (pe_callB call_len_str (by rfl) T.n_len (by decide +kernel) (pa_cons (pv 10) pa_nil)) (pa_cons (pe_callB call_len_str (by rfl) T.n_len (by decide +kernel) (pa_cons (pv 11) pa_nil)) pa_nil))))
    (pss_one (ps_if (pt_cmpR op_ne (pe_cmpR op_lt_str (pv 10) (pv 11) (nomark _)) (pe_cmpR op_lt (pe_G G_whole_of hr (by decide) rfl hpx (pa_cons (pv 1) (pa_cons (pv 10) (pa_cons (pv 6) pa_nil)))) (pe_G G_whole_of hr (by decide) rfl hpx (pa_cons (pv 1) (pa_cons (pv 11) (pa_cons (pv 6) pa_nil)))) (nomark _)) (nomark _))
    (pss_one (ps_ret pe_bl))
    pss_nil))))))
    (pss_one (ps_ret pe_bl)))))))
end
end Sm
namespace Sm
open PySem PySem.Spec PyProof.Rows L2
def d_is_mark : He.DefD := ⟨("is_mark", none), "is_mark", "is_mark", defArgs s_is_mark, defBody s_is_mark, defScope s_is_mark, [], []⟩
def d_whole_of : He.DefD := ⟨("whole_of", none), "whole_of", "whole_of", defArgs s_whole_of, defBody s_whole_of, defScope s_whole_of, [], []⟩
def d_mark_of : He.DefD := ⟨("mark_of", none), "mark_of", "mark_of", defArgs s_mark_of, defBody s_mark_of, defScope s_mark_of, [], []⟩
def d_law_draw : He.DefD := ⟨("_law_draw", none), "_law_draw", "_law_draw", defArgs s_law_draw, defBody s_law_draw, defScope s_law_draw, [], []⟩
def d_law_mark : He.DefD := ⟨("_law_mark", none), "_law_mark", "_law_mark", defArgs s_law_mark, defBody s_law_mark, defScope s_law_mark, [], []⟩
def d_law_whole : He.DefD := ⟨("_law_whole", none), "_law_whole", "_law_whole", defArgs s_law_whole, defBody s_law_whole, defScope s_law_whole, [], []⟩
def d_law_number : He.DefD := ⟨("_law_number", none), "_law_number", "_law_number", defArgs s_law_number, defBody s_law_number, defScope s_law_number, [], []⟩
def d_law : He.DefD := ⟨("law", none), "law", "law", defArgs s_law, defBody s_law, defScope s_law, [], []⟩
def fn : List He.DefD := [d_is_mark, d_whole_of, d_mark_of, d_law_draw, d_law_mark, d_law_whole, d_law_number, d_law]
def fa : List He.Fa := [.free "bool", .free "divmod", .free "int", .free "isinstance", .free "len", .free "max", .free "min", .free "range", .str "LETTERS" "abcdefghijklmnopqrstuvwxyz", .glo "is_mark", .glo "whole_of", .glo "mark_of", .glo "_law_draw", .glo "_law_mark", .glo "_law_whole", .glo "_law_number", .glo "law"]
abbrev R : PySem.W.OpenRow := PySem.W.OpenLaw.row PySem.Challenge.rw_shelfmark_k02_wholes
abbrev hk : PySem.W.Hook := He.hookD 4 fa fn
def ob (s : PySem.W.SharedT) : He.AlD := He.obsDG 4 fa fn (HandSHeadRun.getT s)
theorem ob_eq (s : PySem.W.SharedT) : ob s = hk.obs s.abs := He.obsDG_eq (HandSHeadRun.getT_eq s)
theorem run (w : World) : HandSHeadRun.RunEq R (PySem.W.view R.prog [10]) hk ob 11107 ["LETTERS", "is_mark", "whole_of", "mark_of", "_law_draw", "_law_mark", "_law_whole", "_law_number"] w := by
  intro os
  kernel_rfl
theorem tx {w : World} {K : PySem.W.Frag} {h : Heap} {mg : Str → Option Value} (X : K.In h) (G : h.Ns mainGlobals mg) (c : He.SaysD fa fn K) : Tx K mg where
  n_bool := He.free_ok X G (c.fact 0 rfl)
  n_divmod := He.free_ok X G (c.fact 1 rfl)
  n_int := He.free_ok X G (c.fact 2 rfl)
  n_isinstance := He.free_ok X G (c.fact 3 rfl)
  n_len := He.free_ok X G (c.fact 4 rfl)
  n_max := He.free_ok X G (c.fact 5 rfl)
  n_min := He.free_ok X G (c.fact 6 rfl)
  n_range := He.free_ok X G (c.fact 7 rfl)
  g_LETTERS := He.str_ok X G (c.fact 8 rfl)
  kx := ⟨trivial⟩
theorem facts {P : Program} {w : World} {K : PySem.W.Frag} {h : Heap} {mg : Str → Option Value} {f : Addr} (X : K.In h) (G : h.Ns mainGlobals mg) (hfa : mg ("law" : Str) = some (.ref f)) (c : He.SaysD fa fn K) :
    ∃ fd : FuncData, (∀ (s : Shared) (v : Value), BindsTo s fd ⟨[v], []⟩ [("script", v)]) ∧ ∀ base : Heap, K.In base → base.Ns mainGlobals mg → FnOk P w K mg base (L2.CX P w) 3 f fd ["script"] (sp_law K) := by
  have T : Tx K mg := tx (w := w) X G c
  obtain ⟨fd_is_mark, F_is_mark⟩ := c.def_ 0 (d := d_is_mark) rfl
  obtain ⟨fd_whole_of, F_whole_of⟩ := c.def_ 1 (d := d_whole_of) rfl
  obtain ⟨fd_mark_of, F_mark_of⟩ := c.def_ 2 (d := d_mark_of) rfl
  obtain ⟨fd_law_draw, F_law_draw⟩ := c.def_ 3 (d := d_law_draw) rfl
  obtain ⟨fd_law_mark, F_law_mark⟩ := c.def_ 4 (d := d_law_mark) rfl
  obtain ⟨fd_law_whole, F_law_whole⟩ := c.def_ 5 (d := d_law_whole) rfl
  obtain ⟨fd_law_number, F_law_number⟩ := c.def_ 6 (d := d_law_number) rfl
  obtain ⟨fd_law, F_law⟩ := c.def_ 7 (d := d_law) rfl
  have e := hfa.symm.trans (He.glo_ok X G (c.fact 16 (f := .glo "law") rfl))
  cases e
  have b := FunD.bindsA (ps := ["script"]) F_law fun _ _ _ _ _ _ us hl => match us, hl with | [_], _ => rfl
  refine ⟨fd_law, fun s v => b s [v] rfl, fun base _ _ => ?_⟩
  have G_is_mark : FnG P w K mg base (L2.CX P w) "is_mark" ["letters", "text"] 1 (sp_is_mark K) := ⟨⟨_, fd_is_mark, He.glo_ok X G (c.fact 9 (f := .glo "is_mark") rfl), F_is_mark.kp, F_is_mark.bindsN (fun _ _ _ _ _ _ us hl => match us, hl with | [_, _], _ => rfl), ok_is_mark F_is_mark T ⟩⟩
  have G_whole_of : FnG P w K mg base (L2.CX P w) "whole_of" ["letters", "mark", "long"] 1 (sp_whole_of K) := ⟨⟨_, fd_whole_of, He.glo_ok X G (c.fact 10 (f := .glo "whole_of") rfl), F_whole_of.kp, F_whole_of.bindsN (fun _ _ _ _ _ _ us hl => match us, hl with | [_, _, _], _ => rfl), ok_whole_of F_whole_of T ⟩⟩
  have G_mark_of : FnG P w K mg base (L2.CX P w) "mark_of" ["letters", "number", "long"] 1 (sp_mark_of K) := ⟨⟨_, fd_mark_of, He.glo_ok X G (c.fact 11 (f := .glo "mark_of") rfl), F_mark_of.kp, F_mark_of.bindsN (fun _ _ _ _ _ _ us hl => match us, hl with | [_, _, _], _ => rfl), ok_mark_of F_mark_of T ⟩⟩
  have G_law_draw : FnG P w K mg base (L2.CX P w) "_law_draw" ["script", "k", "many"] 1 (sp_law_draw K) := ⟨⟨_, fd_law_draw, He.glo_ok X G (c.fact 12 (f := .glo "_law_draw") rfl), F_law_draw.kp, F_law_draw.bindsN (fun _ _ _ _ _ _ us hl => match us, hl with | [_, _, _], _ => rfl), ok_law_draw F_law_draw T ⟩⟩
  have G_law_mark : FnG P w K mg base (L2.CX P w) "_law_mark" ["script", "base", "letters", "long"] 2 (sp_law_mark K) := ⟨⟨_, fd_law_mark, He.glo_ok X G (c.fact 13 (f := .glo "_law_mark") rfl), F_law_mark.kp, F_law_mark.bindsN (fun _ _ _ _ _ _ us hl => match us, hl with | [_, _, _, _], _ => rfl), ok_law_mark F_law_mark T G_law_draw⟩⟩
  have G_law_whole : FnG P w K mg base (L2.CX P w) "_law_whole" ["letters", "mark", "long"] 1 (sp_law_whole K) := ⟨⟨_, fd_law_whole, He.glo_ok X G (c.fact 14 (f := .glo "_law_whole") rfl), F_law_whole.kp, F_law_whole.bindsN (fun _ _ _ _ _ _ us hl => match us, hl with | [_, _, _], _ => rfl), ok_law_whole F_law_whole T ⟩⟩
  have G_law_number : FnG P w K mg base (L2.CX P w) "_law_number" ["script", "k", "letters", "long"] 2 (sp_law_number K) := ⟨⟨_, fd_law_number, He.glo_ok X G (c.fact 15 (f := .glo "_law_number") rfl), F_law_number.kp, F_law_number.bindsN (fun _ _ _ _ _ _ us hl => match us, hl with | [_, _, _, _], _ => rfl), ok_law_number F_law_number T G_law_draw⟩⟩
  exact ok_law F_law T G_law_draw G_law_mark G_whole_of G_law_whole G_law_number G_mark_of G_is_mark
end Sm
open PySem PySem.W PySem.Calls PyProof.Rows
set_option maxRecDepth 100000 in
set_option maxHeartbeats 0 in
theorem PySem.Challenge.cw_shelfmark_k02_wholes_holds : PySem.Challenge.rw_shelfmark_k02_wholes.Holds := by
  w_on; o_law
  refine HandSHeadRun.head_any (r := OpenLaw.row PySem.Challenge.rw_shelfmark_k02_wholes) (q := view (OpenLaw.row PySem.Challenge.rw_shelfmark_k02_wholes).prog [10]) (H := Sm.hk) (ob := Sm.ob) (M := 11107) (loose := ["LETTERS", "is_mark", "whole_of", "mark_of", "_law_draw", "_law_mark", "_law_whole", "_law_number"]) (d := HandSHeadRun.topDef (OpenLaw.row PySem.Challenge.rw_shelfmark_k02_wholes).prog 10) (kwd := []) Sm.ob_eq
    (by kernel_rfl) (fun s => by kernel_rfl) Sm.run (by kernel_rfl) (by kernel_rfl) (by kernel_rfl) (by rfl) (by first | assumption | decide +kernel) (by decide +kernel) ⟨rfl, rfl, rfl, rfl, rfl, by decide +kernel⟩ ?hw ?hc
  case hw => w_witness2
  case hc =>
    refine Sm.walk_ofW (l := PySem.Challenge.rw_shelfmark_k02_wholes) (n := 63) (k := 3) (x := "script") (CX := fun w => L2.CX (PySem.Challenge.rw_shelfmark_k02_wholes).prog w) rfl (by decide) (by kernel_rfl) ⟨rfl, by decide, by decide⟩ ?F (fun _ _ _ _ _ z => Sm.cx_none z)
    case F =>
      intro w mg fa h Y G hmg0
      obtain ⟨K, KX, c⟩ := Y
      have hmg : mg ("law" : PySem.Str) = some (.ref fa) := by
        have e : (HandSHeadRun.topDef (OpenLaw.row PySem.Challenge.rw_shelfmark_k02_wholes).prog 10).name = ("law" : PySem.Str) := by kernel_rfl
        rw [← e]
        exact hmg0
      obtain ⟨fd, hb, hF⟩ := Sm.facts (P := (PySem.Challenge.rw_shelfmark_k02_wholes).prog) (w := w) KX G hmg c
      exact ⟨K, fd, Sm.sp_law K, KX, hb, fun H a ns hl hO hS => Sm.law_in hO hS hl, hF⟩
