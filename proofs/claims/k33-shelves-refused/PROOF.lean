import PyProof.Rows.All
import Wide.All
import OpenK.AllK
import Wide.FinOn
import HandS.ForMost
import HandS.ForExc
import HandS.Wide
import HandS.StrMore
import HandS.SortInts
import HandS.CallSlots
import HandS.Defaults
import HandS.HeadHook1
import HandS.Walk
import HandS.Codes
import HandS.IsInst
import HandS.ExcIs
import HandS.Flow
import HandS.SortKw
import HandS.More
import HandS.SetFor
import HandS.WideBits
import HandS.Keys
import HandS.ExcInit
import HandS.HotCalls
import HandS.Head0
import HandS.Head1
import HandS.Head2
import HandS.HeadEnd
import HandS.HeadHook2
import PySem.Challenge.RW_shelfmark_k33_shelves_refused
set_option Elab.async false
set_option linter.all false
set_option maxRecDepth 100000
set_option maxHeartbeats 8000000
/-! SmBase: forgetting new objects (Trim), calls by promises (FnG), steps. -/
namespace Sm
open PySem PySem.Spec PyProof.Rows L2

/-! ### forgetting what is new -/
def okO (H : Hp) (a : Addr) : HO → Prop
  | .dT _ => False
  | .ins _ dx _ => H dx = some (.own a)
  | .frz _ u => okO H a u
  | _ => True
/-- each tracked instance's own dict is tracked, no dict with tuple keys -/
def Clo (H : Hp) : Prop := ∀ a o, H a = some o → okO H a o
structure Trim (H H1 H2 : Hp) : Prop where
  sub : ∀ a o, H2 a = some o → H1 a = some o
  tup : ∀ a xs, H a = some (.tup xs) → H2 a = some (.tup xs)
  frz : ∀ a o u, H a = some (.frz o u) → H2 a = some (.frz o u)
  tbl : ∀ a ps, H a = some (.tbl ps) → ∃ more, H2 a = some (.tbl (ps ++ more))
  clo : Clo H2
def Ex (H H' : Hp) : Prop := ∀ a o, H a = some o → H' a = some o
theorem Ex.refl (H : Hp) : Ex H H := fun _ _ h => h
theorem Ex.trans {H H1 H2 : Hp} (a : Ex H H1) (b : Ex H1 H2) : Ex H H2 := fun x o h => b x o (a x o h)
theorem Ex.new {H H' : Hp} {p : Addr} {o : HO} (e : Ex H H') (h : H p = none) : Ex H (upd H' p o) := fun a u ha => by
  rw [upd_ne (ne_of_none ha h)]
  exact e a u ha
theorem Ex.back {H H' : Hp} {p : Addr} (e : Ex H H') (h : H' p = none) : H p = none := by
  cases q : H p with
  | none => rfl
  | some o =>
    rw [e p o q] at h
    cases h
theorem Trim.back {H H' : Hp} (e : Ex H H') (c : Clo H) : Trim H H' H :=
  ⟨e, fun _ _ h => h, fun _ _ _ h => h, fun _ ps h => ⟨#[], by rw [h, Array.append_empty]⟩, c⟩
/-- one new object stays -/
theorem Trim.keep {H H' : Hp} {p : Addr} {o : HO} (e : Ex H H') (hp : H p = none) (h : H' p = some o) (c : Clo H) (ho : okO (upd H p o) p o) : Trim H H' (upd H p o) := by
  refine ⟨fun a u q => ?_, fun a xs q => ?_, fun a ob u q => ?_, fun a ps q => ⟨#[], ?_⟩, fun a u q => ?_⟩
  · by_cases ha : a = p
    · rw [ha, upd_same] at q; cases q; rw [ha]; exact h
    · rw [upd_ne ha] at q; exact e a u q
  · rw [upd_ne (ne_of_none q hp)]; exact q
  · rw [upd_ne (ne_of_none q hp)]; exact q
  · rw [upd_ne (ne_of_none q hp), q, Array.append_empty]
  · by_cases ha : a = p
    · rw [ha, upd_same] at q; cases q; rw [ha]; exact ho
    · rw [upd_ne ha] at q
      have z := c a u q
      clear q ha
      induction u with
      | dT _ => exact z
      | ins C dx fs =>
        have z' : H dx = some (.own a) := z
        show upd H p o dx = some (.own a)
        rw [upd_ne (ne_of_none z' hp)]; exact z'
      | frz ob v ih => exact ih z
      | _ => trivial
theorem okO_objOk {P : Program} {w : World} {H H1 : Hp} {h : Heap} {a : Addr} : ∀ {o : HO}, okO H a o → ObjOk P w H1 h a o → ObjOk P w H h a o := by
  intro o
  induction o with
  | ins C dx fs =>
    intro z x
    obtain ⟨_, x2, x3, x4, x5⟩ := x
    exact ⟨z, x2, x3, x4, x5⟩
  | dT _ => intro z; exact False.elim z
  | frz ob u ih =>
    intro z x
    obtain ⟨e, q⟩ := x
    exact ⟨e, ih z q⟩
  | _ => intro _ x; exact x
theorem hok_trim {P : Program} {w : World} {H H1 H2 : Hp} {h : Heap} (t : Trim H H1 H2) (x : HOk P w H1 h) : HOk P w H2 h := fun a o e => okO_objOk (t.clo a o e) (x a o (t.sub a o e))
theorem Trim.gone {H H1 H2 : Hp} (t : Trim H H1 H2) {a : Addr} (h : H1 a = none) : H2 a = none := by
  cases q : H2 a with
  | none => rfl
  | some o =>
    rw [t.sub a o q] at h
    cases h
section
variable {X : Cx} {pins : List (Addr × Obj)} {σ σ0 : L2.St} {H H1 H2 : Hp} {s s0 : Shared}
theorem inv_trim (I0 : Inv X pins σ0 H s0) (I : Inv X pins σ H1 s) (t : Trim H H1 H2) : Inv X pins σ H2 s where
  ok := I.ok
  os := I.os
  bare := I.bare
  base := ⟨fun b o e n hb hx => I.base.keep b o e n hb hx, fun b o e n hb hx => I.base.slot b o e n hb hx, fun b o e n hx => t.gone (I.base.free b o e n hx), I.base.there,
    fun b xs e => t.tup b xs (I0.base.tups b xs e), fun b o u e => t.frz b o u (I0.base.frzs b o u e), fun b ps e => by
      obtain ⟨m1, e1⟩ := I0.base.tbls b ps e
      obtain ⟨m2, e2⟩ := t.tbl b _ e1
      exact ⟨m1 ++ m2, by rw [e2, Array.append_assoc]⟩⟩
  loc := I.loc
  cell := I.cell
  free := t.gone I.free
  freeC := fun x c e => t.gone (I.freeC x c e)
  pin := fun p hp => by
    obtain ⟨a, b, c⟩ := I.pin p hp
    exact ⟨a, t.gone b, c⟩
  hok := hok_trim t I.hok
  len := I.len
/-- a statement behind which new objects may be forgotten -/
def tTrim (t : TS) : TS := fun D σ H => t ⟨fun σ1 H1 => ∃ H2, Trim H H1 H2 ∧ D.nx σ1 H2, fun v H1 => ∃ H2, Trim H H1 H2 ∧ D.rt v H2, fun σ1 H1 => ∃ H2, Trim H H1 H2 ∧ D.bk σ1 H2, fun σ1 H1 => ∃ H2, Trim H H1 H2 ∧ D.ct σ1 H2⟩ σ H
theorem ps_trim {st : Stmt} {t : TS} (h : PS X st t) : PS X st (tTrim t) := ⟨fun pins s σ H D I q => by
  refine thn (h.run pins s σ H _ I q) fun f s' z => ?_
  cases f with
  | next =>
    obtain ⟨σ', H', I', H2, tr, d⟩ := z
    exact ⟨σ', H2, inv_trim I I' tr, d⟩
  | brk =>
    obtain ⟨σ', H', I', H2, tr, d⟩ := z
    exact ⟨σ', H2, inv_trim I I' tr, d⟩
  | cont =>
    obtain ⟨σ', H', I', H2, tr, d⟩ := z
    exact ⟨σ', H2, inv_trim I I' tr, d⟩
  | ret u =>
    obtain ⟨v, σ', H', I', r, H2, tr, d⟩ := z
    exact ⟨v, σ', H2, inv_trim I I' tr, r, d⟩⟩
def tTrimE (t : TE) : TE := fun σ H Q => t σ H fun v H1 => ∃ H2, Trim H H1 H2 ∧ Q v H2
theorem pe_trim {e : Expr} {t : TE} (h : PE X e t) : PE X e (tTrimE t) := ⟨fun pins s σ H Q I q => by
  refine thn (h.run pins s σ H _ I q) fun f s' z => ?_
  obtain ⟨v, H', I', r, H2, tr, d⟩ := z
  exact ⟨v, H2, inv_trim I I' tr, r, d⟩⟩
end

/-- what a state's tuples, locked things stay in -/
structure Rst (H0 H : Hp) : Prop where
  ex : ∀ a o, H0 a = some o → H a = some o
  tup : ∀ a xs, H a = some (.tup xs) → H0 a = some (.tup xs)
  frz : ∀ a o u, H a = some (.frz o u) → H0 a = some (.frz o u)
  tbl : ∀ a ps, H a = some (.tbl ps) → H0 a = some (.tbl ps)
def softO : HO → Bool
  | .tup _ => false
  | .frz _ _ => false
  | .tbl _ => false
  | _ => true
theorem Rst.refl (H : Hp) : Rst H H := ⟨fun _ _ h => h, fun _ _ h => h, fun _ _ _ h => h, fun _ _ h => h⟩
theorem Rst.new {H0 H : Hp} {p : Addr} {o : HO} (r : Rst H0 H) (h : H0 p = none) (s : softO o = true) : Rst H0 (upd H p o) := by
  refine ⟨fun a u q => ?_, fun a xs q => ?_, fun a ob u q => ?_, fun a ps q => ?_⟩
  · rw [upd_ne (ne_of_none q h)]; exact r.ex a u q
  · by_cases ha : a = p
    · rw [ha, upd_same] at q; cases q; cases s
    · rw [upd_ne ha] at q; exact r.tup a xs q
  · by_cases ha : a = p
    · rw [ha, upd_same] at q; cases q; cases s
    · rw [upd_ne ha] at q; exact r.frz a ob u q
  · by_cases ha : a = p
    · rw [ha, upd_same] at q; cases q; cases s
    · rw [upd_ne ha] at q; exact r.tbl a ps q
theorem Trim.to {H0 H H1 H2 : Hp} (r : Rst H0 H) (e : Ex H0 H2) (s : Ex H2 H1) (c : Clo H2) : Trim H H1 H2 :=
  ⟨s, fun a xs h => e a _ (r.tup a xs h), fun a o u h => e a _ (r.frz a o u h), fun a ps h => ⟨#[], by rw [e a _ (r.tbl a ps h), Array.append_empty]⟩, c⟩
theorem Trim.refl {H : Hp} (c : Clo H) : Trim H H H := Trim.to (Rst.refl H) (Ex.refl H) (Ex.refl H) c
/-- nothing that is tracked is a hard one -/
theorem clo_upd {H : Hp} {p : Addr} {o : HO} (c : Clo H) (hp : H p = none) (ho : okO (upd H p o) p o) : Clo (upd H p o) := (Trim.keep (H' := upd H p o) (Ex.new (Ex.refl H) hp) hp upd_same c ho).clo
/-- a thing at p that owns nothing is replaced -/
def plainO : HO → Bool
  | .lst _ => true
  | .tup _ => true
  | .dK _ => true
  | .set _ _ => true
  | .xd _ => true
  | .rng _ _ => true
  | .ext _ => true
  | _ => false
theorem okO_plain {H : Hp} {p : Addr} {o : HO} (h : plainO o = true) : okO H p o := by
  cases o with
  | dT _ => cases h
  | ins _ _ _ => cases h
  | frz _ _ => cases h
  | _ => trivial
theorem clo_new {H : Hp} {p : Addr} {o : HO} (c : Clo H) (hp : H p = none) (ho : plainO o = true) : Clo (upd H p o) := clo_upd c hp (okO_plain ho)
theorem okO_upd {H : Hp} {p a : Addr} {o : HO} (np : ∀ x, H p ≠ some (.own x)) : ∀ {u : HO}, okO H a u → okO (upd H p o) a u := by
  intro u
  induction u with
  | dT _ => intro z; exact z
  | ins C dx fs =>
    intro z
    have z' : H dx = some (.own a) := z
    show upd H p o dx = some (.own a)
    rw [upd_ne (fun e => np a (by rw [← e]; exact z'))]
    exact z'
  | frz ob v ih => intro z; exact ih z
  | _ => intro _; trivial
theorem clo_set {H : Hp} {p : Addr} {o : HO} (c : Clo H) (np : ∀ x, H p ≠ some (.own x)) (ho : plainO o = true) : Clo (upd H p o) := fun a u q => by
  by_cases ha : a = p
  · rw [ha, upd_same] at q; cases q; rw [ha]; exact okO_plain ho
  · rw [upd_ne ha] at q
    exact okO_upd np (c a u q)
theorem Ex.both {H H' : Hp} {p : Addr} {o : HO} (e : Ex H H') : Ex (upd H p o) (upd H' p o) := fun a u h => by
  by_cases ha : a = p
  · rw [ha, upd_same] at h ⊢; exact h
  · rw [upd_ne ha] at h ⊢; exact e a u h
theorem ne_fresh {H : Hp} {a b : Addr} (h : H a ≠ none) (h' : H b = none) : a ≠ b := fun e => h (by rw [e]; exact h')
theorem tr_some {H : Hp} {a : Addr} {o : HO} (h : H a = some o) : H a ≠ none := by rw [h]; exact fun z => nomatch z
theorem tr_same {H : Hp} {a : Addr} {o : HO} : upd H a o a ≠ none := tr_some upd_same
theorem tr_upd {H : Hp} {a b : Addr} {o : HO} (h : H b ≠ none) : upd H a o b ≠ none := by
  by_cases e : b = a
  · rw [e]; exact tr_same
  · rw [upd_ne e]; exact h
/-- all but the last new thing forgotten -/
theorem Trim.last {H0 H H' : Hp} {p : Addr} {o : HO} (r : Rst H0 H) (e : Ex H0 H') (hp : H0 p = none) (c : Clo H0) (ho : plainO o = true) : Trim H (upd H' p o) (upd H0 p o) :=
  Trim.to r (Ex.new (Ex.refl _) hp) (Ex.both e) (clo_new c hp ho)
theorem Trim.base {H0 H H' : Hp} (r : Rst H0 H) (e : Ex H0 H') (c : Clo H0) : Trim H H' H0 := Trim.to r (Ex.refl _) e c
theorem upd_self {H : Hp} {p : Addr} {o : HO} (h : H p = some o) : upd H p o = H := by
  funext b
  by_cases e : b = p
  · rw [e, upd_same, h]
  · rw [upd_ne e]
/-- a list that was laid ahead and has grown stays -/
theorem Trim.grown {H H' : Hp} {p : Addr} {xs ys : List V} (hp : H p = none) (e : Ex H H') (h : H' p = some (.lst ys)) (c : Clo H) : Trim (upd H p (.lst xs)) H' (upd H p (.lst ys)) := by
  have k := Trim.keep (H' := H') e hp h c (okO_plain rfl)
  refine ⟨k.sub, fun a zs q => ?_, fun a ob u q => ?_, fun a ps q => ⟨#[], ?_⟩, k.clo⟩
  · by_cases ha : a = p
    · rw [ha, upd_same] at q; cases q
    · rw [upd_ne ha] at q ⊢; exact q
  · by_cases ha : a = p
    · rw [ha, upd_same] at q; cases q
    · rw [upd_ne ha] at q ⊢; exact q
  · by_cases ha : a = p
    · rw [ha, upd_same] at q; cases q
    · rw [upd_ne ha] at q ⊢; rw [q, Array.append_empty]
/-- what a list's own change, a new object leave -/
abbrev Kp (H H' : Hp) : Prop := Trim H H' H'
theorem Kp.refl {H : Hp} (c : Clo H) : Kp H H := Trim.refl c
theorem Kp.trans {H H1 H2 : Hp} (a : Kp H H1) (b : Kp H1 H2) : Kp H H2 := by
  refine ⟨fun _ _ h => h, fun x xs h => b.tup x xs (a.tup x xs h), fun x o u h => b.frz x o u (a.frz x o u h), fun x ps h => ?_, b.clo⟩
  obtain ⟨m1, e1⟩ := a.tbl x ps h
  obtain ⟨m2, e2⟩ := b.tbl x _ e1
  exact ⟨m1 ++ m2, by rw [e2, Array.append_assoc]⟩
theorem Kp.set {H : Hp} {p : Addr} {xs : List V} {o : HO} (c : Clo H) (hp : H p = some (.lst xs)) (ho : plainO o = true) : Kp H (upd H p o) := by
  refine ⟨fun _ _ h => h, fun a ys h => ?_, fun a ob u h => ?_, fun a ps h => ⟨#[], ?_⟩, clo_set c (fun x z => by rw [hp] at z; cases z) ho⟩
  · rw [upd_ne (fun e => by rw [e, hp] at h; cases h)]; exact h
  · rw [upd_ne (fun e => by rw [e, hp] at h; cases h)]; exact h
  · rw [upd_ne (fun e => by rw [e, hp] at h; cases h), h, Array.append_empty]
theorem Kp.new {H : Hp} {p : Addr} {o : HO} (c : Clo H) (hp : H p = none) (ho : plainO o = true) : Kp H (upd H p o) :=
  Trim.to (Rst.refl H) (Ex.new (Ex.refl H) hp) (Ex.refl _) (clo_new c hp ho)
theorem Kp.ex {H H' : Hp} (e : Ex H H') (c : Clo H') : Kp H H' := Trim.to (Rst.refl H) e (Ex.refl _) c
theorem clo_only {H : Hp} (h : Only H) : Clo H := fun a o e => by
  rcases h a with z | ⟨ob, xs, z⟩
  · rw [z] at e; cases e
  · rw [z] at e; cases e; trivial

/-! ### own defs by name -/
structure FnG (P : Program) (w : World) (K : PySem.W.Frag) (mg : Str → Option Value) (base : Heap) (CX : CXT) (x : Str) (ps : List Str) (k : Nat) (sp : Sp) : Prop where
  ex : ∃ f fd, mg x = some (.ref f) ∧ PySem.W.keepIn K (.ref f) = true ∧ Binds K fd ps [] ∧ FnOk P w K mg base CX k f fd ps sp
section
variable {X : Cx} {CX : CXT} {j k : Nat} {ps : List Str} {sp : Sp} {x : Str} {p pos : Pos} {e : Expr} {es : List Expr} {t : TA} {E : XK}
theorem pe_G (G : FnG X.prog X.w X.K X.mg X.base CX x ps k sp) (hr : Room j X.A) (hjk : k ≤ j) (hg : Gl X x) (hx : Passes CX X E) (ha : PA X (e :: es) t)
    (hdb : (x == ("__debug__" : Str)) = false := by decide) (he : starEach (e :: es) X.env = (false, eval e X.env) :: starEach es X.env := by rfl) (hpl : (backTo pos (starEach es X.env)).any (·.1) = false := by rfl) :
    PE X (.Call (.Name x p) (e :: es) [] pos) (tCall sp [] E t) := by
  obtain ⟨f, fd, hm, hk, hb, F⟩ := G.ex
  exact pe_call F (hr.mono hjk) hg hm hk hb .nil hx ha hdb he hpl
theorem pe_G0 (G : FnG X.prog X.w X.K X.mg X.base CX x ps k sp) (hr : Room j X.A) (hjk : k ≤ j) (hg : Gl X x) (hx : Passes CX X E) (hdb : (x == ("__debug__" : Str)) = false := by decide) :
    PE X (.Call (.Name x p) [] [] pos) (tCall sp [] E tNil) := by
  obtain ⟨f, fd, hm, hk, hb, F⟩ := G.ex
  exact pe_call0 F (hr.mono hjk) hg hm hk hb .nil hx hdb
end

/-! ### blocks, tests that forget -/
section
variable {X : Cx}
theorem pss_trim {st : List Stmt} {t : TS} (h : PSs X st t) : PSs X st (tTrim t) := ⟨fun pins s σ H D I q => by
  refine thn (h.run pins s σ H _ I q) fun f s' z => ?_
  cases f with
  | next =>
    obtain ⟨σ', H', I', H2, tr, d⟩ := z
    exact ⟨σ', H2, inv_trim I I' tr, d⟩
  | brk =>
    obtain ⟨σ', H', I', H2, tr, d⟩ := z
    exact ⟨σ', H2, inv_trim I I' tr, d⟩
  | cont =>
    obtain ⟨σ', H', I', H2, tr, d⟩ := z
    exact ⟨σ', H2, inv_trim I I' tr, d⟩
  | ret u =>
    obtain ⟨v, σ', H', I', r, H2, tr, d⟩ := z
    exact ⟨v, σ', H2, inv_trim I I' tr, r, d⟩⟩
def tTrimT (t : TT) : TT := fun σ H Q => t σ H fun b H1 => ∃ H2, Trim H H1 H2 ∧ Q b H2
theorem pt_trim {e : Expr} {t : TT} (h : PT X e t) : PT X e (tTrimT t) := ⟨fun pins s σ H Q I q => by
  refine thn (h.run pins s σ H _ I q) fun b s' z => ?_
  obtain ⟨H', I', H2, tr, d⟩ := z
  exact ⟨H2, inv_trim I I' tr, d⟩⟩
theorem pe_GS {k j : Nat} {ps : List Str} {sp : Sp} {x : Str} {p pos : Pos} {e : Expr} {es : List Expr} {t : TA} {E : L2.St → XK} (G : FnG X.prog X.w X.K X.mg X.base (L2.CX X.prog X.w) x ps k sp) (hr : Room j X.A) (hjk : k ≤ j) (hg : Gl X x) (hx : ∀ σ, PassesAt (L2.CX X.prog X.w) X σ (E σ)) (ha : PA X (e :: es) t)
    (hdb : (x == ("__debug__" : Str)) = false := by decide) (he : starEach (e :: es) X.env = (false, eval e X.env) :: starEach es X.env := by rfl) (hpl : (backTo pos (starEach es X.env)).any (·.1) = false := by rfl) :
    PE X (.Call (.Name x p) (e :: es) [] pos) (tCallSD sp [] E t) := by
  obtain ⟨f, fd, hm, hk, hb, F⟩ := G.ex
  exact pe_callSD F (hr.mono hjk) hg hm hk hb .nil hx ha hdb he hpl
end
/-- a meeting of ways: Mid holds behind the first statement -/
def tMeet (t u : TS) : TS := fun D σ H => ∃ Mid : L2.St → Hp → Prop, t { D with nx := Mid } σ H ∧ ∀ σ1 H1, Mid σ1 H1 → u D σ1 H1
theorem pss_meet {X : Cx} {st : Stmt} {rest : List Stmt} {t u : TS} (h1 : PS X st t) (h2 : PSs X rest u) : PSs X (st :: rest) (tMeet t u) := ⟨fun pins s σ H D I h => by
  obtain ⟨Mid, a, b⟩ := h
  refine wpAny_execs_cons (thn (h1.run pins s σ H _ I a) fun f s1 hf => ?_)
  cases f with
  | next =>
    obtain ⟨σ1, H1, I1, q⟩ := hf
    exact h2.run pins s1 σ1 H1 D I1 (b σ1 H1 q)
  | brk => exact hf
  | cont => exact hf
  | ret v => exact hf⟩
/-! ### readings by name -/
abbrev rInsert : V → List V → Hp → VK → Prop := fun x vs H Q => ∃ (l : Addr) (xs : List V) (i : Int) (y : V), x = .ref l ∧ vs = [.int i, y] ∧ H l = some (.lst xs) ∧ xs.length < sizeLine ∧ 0 ≤ i ∧ i < 2 ^ 63 ∧ Q .non (upd H l (.lst (xs.take i.toNat ++ [y] ++ xs.drop i.toNat)))
abbrev rStrI : List V → Hp → VK → Prop := fun xs H Q => ∃ i : Int, xs = [.int i] ∧ i.natAbs.log2 < 1920 ∧ Q (.str (toString i)) H
abbrev rAddI : R2 := rI0 fun i j => .int (i + j)
abbrev rSubI : R2 := rI0 fun i j => .int (i - j)
abbrev rMulW : R2 := rI CMulW fun i j => .int (i * j)
abbrev rDivW : R2 := rI CDivW fun i j => .int (i / j)
abbrev rModI : R2 := rI (fun _ j => 0 < j) fun i j => .int (i % j)
abbrev rPowI : R2 := rI CPow fun i j => .int (i ^ j.toNat)
abbrev rShrI : R2 := rI (fun _ j => 0 ≤ j) fun i j => .int (i / 2 ^ j.toNat)
abbrev rLtI : R2 := rI0 fun i j => .bl (decide (i < j))
abbrev rLeI : R2 := rI0 fun i j => .bl (decide (i ≤ j))
abbrev rGtI : R2 := rI0 fun i j => .bl (decide (j < i))
abbrev rGeI : R2 := rI0 fun i j => .bl (decide (j ≤ i))
abbrev rLtS : R2 := fun x y H Q => ∃ i j, x = .str i ∧ y = .str j ∧ Q (.bl (decide (i.cps.toList < j.cps.toList))) H
abbrev rLeS : R2 := fun x y H Q => ∃ i j, x = .str i ∧ y = .str j ∧ Q (.bl (!decide (j.cps.toList < i.cps.toList))) H
abbrev rGtS : R2 := fun x y H Q => ∃ i j, x = .str i ∧ y = .str j ∧ Q (.bl (decide (j.cps.toList < i.cps.toList))) H
abbrev rGeS : R2 := fun x y H Q => ∃ i j, x = .str i ∧ y = .str j ∧ Q (.bl (!decide (i.cps.toList < j.cps.toList))) H
abbrev rAddS1 : R2 := fun x y H Q => ∃ i j, x = .str i ∧ y = .str j ∧ i.length + j.length ≤ sizeLine ∧ Q (.str (i ++ j)) H
abbrev rInC : R2 := fun x y H Q => ∃ (c : Nat) (z : Str), x = .str ⟨#[c]⟩ ∧ y = .str z ∧ Q (.bl (decide (c ∈ z.cps.toList))) H
abbrev rNotInC : R2 := fun x y H Q => ∃ (c : Nat) (z : Str), x = .str ⟨#[c]⟩ ∧ y = .str z ∧ Q (.bl (!decide (c ∈ z.cps.toList))) H
abbrev rNotN : R2 := fun x y H Q => y = .non ∧ Q (.bl (!decide (x = .non))) H
abbrev rIsN : R2 := fun x y H Q => y = .non ∧ Q (.bl (decide (x = .non))) H
abbrev rNegI : V → Hp → VK → Prop := rU fun i => .int (-i)
abbrev rLenQ (K : PySem.W.Frag) : List V → Hp → VK → Prop := fun xs H Q => ∃ p ys, xs = [.ref p] ∧ (SqL K H p ys ∨ SqT K H p ys) ∧ Q (.int ys.length) H
abbrev rLenS1 : List V → Hp → VK → Prop := fun xs H Q => ∃ z, xs = [.str z] ∧ z.length ≤ sizeLine ∧ Q (.int z.length) H
abbrev rListQ (K : PySem.W.Frag) : List V → Hp → VK → Prop := fun xs H Q => ∃ p ys, xs = [.ref p] ∧ (SqL K H p ys ∨ SqT K H p ys) ∧ ∀ l, H l = none → Q (.ref l) (upd H l (.lst ys))
abbrev rDivmod : List V → Hp → VK → Prop := fun xs H Q => ∃ i j, xs = [.int i, .int j] ∧ CDiv i j ∧ ∀ p, H p = none → Q (.ref p) (upd H p (.tup [.int (i / j), .int (i % j)]))
abbrev rMin2 : List V → Hp → VK → Prop := fun xs H Q => ∃ i j, xs = [.int i, .int j] ∧ Q (.int (if j < i then j else i)) H
abbrev rMax2 : List V → Hp → VK → Prop := fun xs H Q => ∃ i j, xs = [.int i, .int j] ∧ Q (.int (if j > i then j else i)) H
abbrev rInt1 : List V → Hp → VK → Prop := fun xs H Q => (∃ i, xs = [.int i] ∧ Q (.int i) H) ∨ ∃ k, xs = [.bl k] ∧ Q (.int (if k then 1 else 0)) H
abbrev rJoin (K : PySem.W.Frag) : V → List V → Hp → VK → Prop := fun x xs H Q => ∃ a p, ∃ ys : List Str, x = .str a ∧ xs = [.ref p] ∧ (SqL K H p (ys.map V.str) ∨ SqT K H p (ys.map V.str)) ∧ (ys.map (·.length)).sum + ys.length * a.length ≤ 16777216 ∧ Q (.str (Txt.join a ys)) H
abbrev rSlX : V → Option Int → Option Int → Hp → VK → Prop := fun x lo hi H Q => ∃ z, x = .str z ∧ z.length ≤ sizeLine ∧ Q (.str (Txt.slice z lo hi)) H
abbrev rRstrip : V → List V → Hp → VK → Prop := fun x xs H Q => ∃ a b, x = .str a ∧ xs = [.str b] ∧ a.length ≤ sizeLine ∧ Q (.str (Txt.rstripChars a b)) H
abbrev tTru (K : PySem.W.Frag) (ta : TE) : TT := fun σ H Q => ta σ H fun x H' => ∃ k, TruV K x H' k ∧ Q k H'
def tTry (K : PySem.W.Frag) (c : Value) (ts : Addr → Value → Option Addr → TS) (Wout : WX) (tb : WX → TS) : TS := fun D σ H => tb (wOnly K c ts Wout D) D σ H
def tTryAs (K : PySem.W.Frag) (c : Value) (i : Nat) (ts : Addr → Value → Option Addr → TS) (Wout : WX) (tb : WX → TS) : TS := fun D σ H => tb (wAs K c i ts Wout D) D σ H
def tRaiseO (K : PySem.W.Frag) (x : Str) (W : WX) : TS := fun _ σ H => W (.ref (He.ga K x)) none σ H
section
variable {X : Cx} {x n : Str} {c : Value} {i : Nat} {body suite : List Stmt} {b₀ : Stmt} {np pos pos' : Pos} {tb : WX → TS} {ts : Addr → Value → Option Addr → TS} {Wout : WX}
theorem ps_try1 (hs : X.stack = X.env :: X.outer) (hf : X.env.frame = some X.env.locals) (hc : Names X x c) (tk : Takes X Wout)
    (hb : ∀ (W : WX) (pn : List (Addr × Obj)) (xe : Value → Shared → Prop), Takes (X.tr pn xe) W → PassesOwn (model X.prog X.w) X.A X.env xe → PSs (X.tr pn xe) body (tb W))
    (hsu : ∀ (a : Addr) (oe : Obj) (cls : Value) (d : Option Addr) (pn : List (Addr × Obj)), Zc cls d oe → (∃ vs, oe.data = .fields vs) → PSs (X.suite a ((a, oe) :: pn)) (b₀ :: suite) (ts a cls d)) :
    PS X (.Try body [.ExceptHandler (some (.Name x np)) none (b₀ :: suite) pos'] [] [] pos) (tTry X.K c ts Wout tb) := ps_try_only hs hf hc tk hb hsu
theorem ps_try1As (hs : X.stack = X.env :: X.outer) (hf : X.env.frame = some X.env.locals) (hN : X.N.Nodup) (hi : X.N[i]? = some n) (hln : X.env.kindOf n = some .local) (hc : Names X x c) (tk : Takes X Wout)
    (hb : ∀ (W : WX) (pn : List (Addr × Obj)) (xe : Value → Shared → Prop), Takes (X.tr pn xe) W → PassesOwn (model X.prog X.w) X.A X.env xe → PSs (X.tr pn xe) body (tb W))
    (hsu : ∀ (a : Addr) (oe : Obj) (cls : Value) (d : Option Addr) (pn : List (Addr × Obj)), Zc cls d oe → (∃ vs, oe.data = .fields vs) → PSs (X.suite a ((a, oe) :: pn)) (b₀ :: suite) (ts a cls d)) :
    PS X (.Try body [.ExceptHandler (some (.Name x np)) (some n) (b₀ :: suite) pos'] [] [] pos) (tTryAs X.K c i ts Wout tb) := ps_try_as hs hf hN hi hln hc tk hb hsu
end
/-- a statement that needs a fact of what stands -/
def tWhen (c : Prop) (t : TS) : TS := fun D σ H => c ∧ t D σ H
theorem pss_when {X : Cx} {st : List Stmt} {c : Prop} {t : TS} (h : c → PSs X st t) : PSs X st (tWhen c t) := ⟨fun pins s σ H D I q => (h q.1).run pins s σ H D I q.2⟩
/-! ### own rules -/
def chars (z : Str) : List Str := z.cps.toList.map fun c => ⟨#[c]⟩
abbrev rListS : List V → Hp → VK → Prop := fun xs H Q => ∃ z, xs = [.str z] ∧ z.length ≤ sizeLine ∧ ∀ l, H l = none → Q (.ref l) (upd H l (.lst ((chars z).map V.str)))
section
variable {X : Cx}
theorem Room.units65 {k : Nat} {A : Around} (r : Room k A) : A.units + 65 < cLine := by have := r.un; omega
/-- s.index(c), found -/
def rIndexS : L2.St → V → List V → Hp → VK → Prop := fun _ x xs H Q => ∃ (a b : Str) (k : Nat), x = .str a ∧ xs = [.str b] ∧ Txt.index0 a b = some k ∧ Q (.int (k : Nat)) H
theorem mt_indexS (hc : X.calm = true) : MtS X "str.index" rIndexS := fun pins s σ H x xs v us Q I rx rs h => by
  obtain ⟨a, b, k, e1, e2, e3, q⟩ := h
  exact mt_indexX hc takes0 pins s σ H x xs v us Q I rx rs ⟨a, b, e1, e2, fun k' e => by rw [e3] at e; cases e; exact q, fun e => by rw [e3] at e; cases e⟩
theorem paired_ix {α β : Type} {F : α → β → Prop} : ∀ {xs : List α} {ys : List β}, xs.length = ys.length → (∀ (i : Nat) (x : α) (y : β), xs[i]? = some x → ys[i]? = some y → F x y) → Paired F xs ys
  | [], [], _, _ => .nil
  | [], _ :: _, h, _ => by cases h
  | _ :: _, [], h, _ => by cases h
  | x :: xs, y :: ys, h, k => .cons (k 0 x y rfl rfl) (paired_ix (Nat.succ.inj h) fun i a b ha hb => k (i + 1) a b (by simpa using ha) (by simpa using hb))
theorem call_listS (hc : X.calm = true) : CallR X (.type "list") rListS := by
  intro pins s σ H xs us Q I r h
  obtain ⟨z, rfl, hz, q⟩ := h
  obtain ⟨u, rfl, t, rfl⟩ := vals1 r
  refine PySem.call_list_str (I.ok.hd hc) z t (fun h' tk acc c' k e it => ?_) (hn := hz)
  obtain ⟨it1, it2⟩ := it
  refine ⟨.ref s.heap.objs.size, upd H s.heap.objs.size (.lst ((chars z).map V.str)), I.laid (t' := tk) k (Nat.le_refl _) ⟨?_, acc.toList, c', ?_, e⟩, rfl, q _ (I.hok.fresh (Nat.le_refl _))⟩
  · rw [List.length_map]
    show (List.map _ _).length ≤ _
    rw [List.length_map, Array.length_toList]
    exact hz
  · refine paired_ix ?_ fun i x y hx hy => ?_
    · rw [List.length_map]
      show (List.map _ _).length = _
      rw [List.length_map, Array.length_toList, Array.length_toList, it1]
    · rw [Array.getElem?_toList] at hy
      obtain ⟨c, u, hc', rfl⟩ := it2 i y hy
      rw [List.getElem?_map] at hx
      have hx2 : (chars z)[i]? = some ⟨#[c]⟩ := by
        show (List.map _ _)[i]? = _
        rw [List.getElem?_map, Array.getElem?_toList, hc']
        rfl
      rw [hx2] at hx
      cases hx
      exact ⟨u, rfl⟩
end
/-! ### sorted, texts, any number of them -/
def sv : Value → List Nat
  | .str z _ => z.cps.toList
  | _ => []
def svS : Value → Str
  | .str z _ => z
  | _ => ⟨#[]⟩
def ltSv (v u : Value) : Bool := decide (sv v < sv u)
theorem swo_str : SrtO.Swo ltSv := by
  refine ⟨fun x y h => ?_, fun x y z h1 h2 => ?_⟩
  · have a := of_decide_eq_true (p := sv x < sv y) h
    exact decide_eq_false (p := sv y < sv x) (List.lt_asymm a)
  · have a := of_decide_eq_false (p := sv y < sv x) h1
    have b := of_decide_eq_false (p := sv z < sv y) h2
    exact decide_eq_false (p := sv z < sv x) (List.not_lt.mpr (List.le_trans (List.not_lt.mp a) (List.not_lt.mp b)))
theorem strs_mem : ∀ {vs : List Value} {ns : List Str}, StrsAre vs ns → ∀ v ∈ vs, ∃ i t, v = Value.str i t
  | _, _, .nil, v, h => absurd h (by simp)
  | _, _, .cons n t r, v, h => by
    rcases List.mem_cons.mp h with e | h
    · exact ⟨n, t, e⟩
    · exact strs_mem r v h
theorem strs_sv : ∀ {vs : List Value}, (∀ v ∈ vs, ∃ i t, v = Value.str i t) → StrsAre vs (vs.map svS)
  | [], _ => .nil
  | v :: vs, h => by
    obtain ⟨i, t, e⟩ := h v List.mem_cons_self
    subst e
    exact .cons i t (strs_sv fun u hu => h u (List.mem_cons_of_mem _ hu))
theorem sv_strs : ∀ {vs : List Value} {ns : List Str}, StrsAre vs ns → vs.map svS = ns
  | _, _, .nil => rfl
  | _, _, .cons n t r => congrArg (n :: ·) (sv_strs r)
section
variable {prog : Program} {w : World} {A : Around} {s : Shared}
theorem str_cmp {vs : List Value} {ns : List Str} (hI : StrsAre vs ns) : SrtO.Cmp prog w A s oneType' (fun p => p.1 ∈ vs) (SrtO.lt2 ltSv) := by
  intro p q hm hm'
  obtain ⟨a, t, e⟩ := strs_mem hI _ hm
  obtain ⟨b, u, e'⟩ := strs_mem hI _ hm'
  show wpAny (model prog w) A (keyLt' oneType' p.1 q.1) (fun r s' => s' = s ∧ r = ltSv p.1 q.1) (fun _ _ => False) s
  rw [e, e', keyLt'_oneType]
  exact oneLt_str ⟨rfl, rfl⟩
theorem strs_sortable {a : Addr} {vs : List Value} {ns : List Str} (hI : StrsAre vs ns) (h2 : 2 ≤ vs.length) : SrtO.SortableO prog w A s a vs ltSv := by
  intro h' _
  refine ⟨oneType', fun Q E hq => ?_, str_cmp hI⟩
  match vs, hI, h2 with
  | v1 :: v2 :: rest, hI, _ =>
    rw [keyKind_strs hI]
    exact wpAny_pure hq
  | [], _, h => exact absurd h (by decide)
  | [v], _, h => exact absurd h (by simp)
theorem strs_out {vs out : List Value} {ns : List Str} (hI : StrsAre vs ns) (hs : SrtO.Srtd ltSv out) (hb : SrtO.Stb ltSv out vs) : StrsAre out (out.map svS) ∧ (out.map svS).Perm ns ∧ (out.map svS).Pairwise fun a b => a.cps.toList ≤ b.cps.toList := by
  have hm := fun v hv => strs_mem hI v (hb.perm.mem_iff.mp hv)
  refine ⟨strs_sv hm, ?_, ?_⟩
  · have q := hb.perm.map svS
    rw [sv_strs hI] at q
    exact q
  · refine List.pairwise_map.mpr (List.Pairwise.imp_of_mem (fun {x y} hx hy h => ?_) hs)
    obtain ⟨a, t, rfl⟩ := hm x hx
    obtain ⟨b, u, rfl⟩ := hm y hy
    exact List.not_lt.mp (of_decide_eq_false (p := sv (.str b u) < sv (.str a t)) h)
end
def rSortedSO (K : PySem.W.Frag) : List V → Hp → VK → Prop := fun vs H Q => ∃ (a : Addr) (ns : List Str), vs = [V.ref a] ∧ SqL K H a (ns.map V.str) ∧
  ∀ (ns' : List Str) (p : Addr), ns'.Perm ns → (ns'.Pairwise fun a b => a.cps.toList ≤ b.cps.toList) → H p = none → Q (.ref p) (upd H p (.lst (ns'.map V.str)))
theorem cr_sortedSO {X : Cx} : CallR X (.builtin "sorted") (rSortedSO X.K) := by
  intro pins s σ H vs us Q I r h
  obtain ⟨a, ns, rfl, hs, q⟩ := h
  obtain ⟨its, rv, hl, hz⟩ := I.list hs
  rw [Vals.ref1 r]
  have hi := rv.strs
  refine SrtO.sorted_ord swo_str hl.isList (by rw [← rv.length]; exact hz) (fun h2 h₁ a' _ _ => strs_sortable hi h2) fun out h1 h2 => ?_
  obtain ⟨k1, k2, k3⟩ := strs_out hi h1 h2
  obtain ⟨ep, he'⟩ := PyProof.Rows.sortedAll_at s.heap its out.toArray
  have hlen : ((out.map svS).map V.str).length ≤ sizeLine := by
    rw [List.length_map, k2.length_eq]
    rw [List.length_map] at hz
    exact hz
  exact ⟨.ref _, upd H (s.heap.objs.size + 1) (.lst ((out.map svS).map V.str)), I.laid (t' := s.toks) (fun _ _ => PyProof.Rows.sortedAll_old) (Nat.le_succ _) ⟨hlen, out, ep, vals_of_strs k1, he'⟩, rfl, q _ _ k2 k3 (I.hok.fresh (Nat.le_succ _))⟩
/-! ### loops and comprehensions over what is walked -/
theorem walk_listF {K : PySem.W.Frag} {a : Addr} {xs : List V} : Walk (Itl K a) xs.length (fun H => SqL K H a xs) (YFn fun i => xs.getD i .non) :=
  walk_list.mono (fun _ h => h) fun i H x H' hi _ y => ⟨y.1, by show x = xs.getD i .non; rw [List.getD_eq_getElem?_getD, y.2]; rfl⟩
theorem walk_tupF {K : PySem.W.Frag} {a : Addr} {xs : List V} : Walk (Itt K a) xs.length (fun H => SqT K H a xs) (YFn fun i => xs.getD i .non) :=
  walk_tup.mono (fun _ h => h) fun i H x H' hi _ y => ⟨y.1, by show x = xs.getD i .non; rw [List.getD_eq_getElem?_getD, y.2]; rfl⟩
theorem walk_strF {z : Str} : Walk (Its z) z.cps.size (fun _ => True) (YFn fun i => .str ⟨#[z.cps.toList.getD i 0]⟩) :=
  walk_str.mono (fun _ h => h) fun i H x H' hi _ y => ⟨y.1, by
    obtain ⟨_, c, h1, h2⟩ := y
    show x = .str ⟨#[z.cps.toList.getD i 0]⟩
    rw [h2, List.getD_eq_getElem?_getD, Array.getElem?_toList, h1]; rfl⟩
theorem walk_range1 {n : Nat} : Walk (Itr 0 n) n (fun _ => True) (YFn fun i => .int (i : Int)) :=
  walk_range.mono (fun _ h => h) fun i H x H' _ _ y => ⟨y.1, by
    have e : x = .int (0 + (i : Int)) := y.2
    rw [e, Int.zero_add]⟩
theorem walk_rangeF {lo : Int} {n : Nat} : Walk (Itr lo n) n (fun _ => True) (YFn fun i => .int (lo + (i : Int))) :=
  walk_range.mono (fun _ h => h) fun i H x H' _ _ y => ⟨y.1, y.2⟩
/-- a comprehension whose turns leave nothing but the list -/
theorem lc_fn {J : It} {n : Nat} {G : Hp → Prop} {f : Nat → V} (w : Walk J n G (YFn f)) {g : TG} {tt : TT} {te : TE} {vs : List Nat} {σ : L2.St} {H1 : Hp} {D : Addr} {Qd : Hp → Prop} (b : Nat → Bool) (v : Nat → V) (hn : n ≤ 1000000)
    (hG : ∀ acc, G (upd H1 D (.lst acc)))
    (turn : ∀ i acc, i < n → acc.length ≤ i → ∀ N : Hp → Prop, (b i = true → N (upd H1 D (.lst (acc ++ [v i])))) → (b i = false → N (upd H1 D (.lst acc))) →
      g (f i) (wipe σ vs) (upd H1 D (.lst acc)) fun σ2 H2 => wipe σ2 vs = wipe σ vs ∧ tt σ2 H2 fun c H3 =>
        if c = true then te σ2 H3 fun y H4 => ∃ acc, H4 D = some (.lst acc) ∧ acc.length < sizeLine ∧ N (upd H4 D (.lst (acc ++ [y]))) else N H3)
    (hq : Qd (upd H1 D (.lst (((List.range n).filter b).map v)))) :
    ∃ W : Nat → Nat → Hp → Prop, (∃ m, W 0 m (upd H1 D (.lst []))) ∧ ∀ i m H, W i m H →
      (J.stop i H ∧ Qd H) ∨ (J.go i H ∧ ∃ Nx : Hp → Prop, (∀ H', Nx H' → ∃ m', m' < m ∧ W (i + 1) m' H') ∧ ∀ x H', J.yld i H x H' → g x (wipe σ vs) H' fun σ2 H2 => wipe σ2 vs = wipe σ vs ∧ tt σ2 H2 fun b H3 =>
        if b = true then te σ2 H3 fun y H4 => ∃ acc, H4 D = some (.lst acc) ∧ acc.length < sizeLine ∧ Nx (upd H4 D (.lst (acc ++ [y]))) else Nx H3) := by
  refine lc_it w (fun i H => H = upd H1 D (.lst (((List.range i).filter b).map v))) rfl (fun i H _ h => by rw [h]; exact hG _) ?_ (fun H h => by rw [h]; exact hq)
  rintro i x H H' hi rfl ⟨rfl, rfl⟩
  refine turn i _ hi ?_ (fun H' => H' = upd H1 D (.lst (((List.range (i + 1)).filter b).map v))) (fun hb => ?_) fun hb => ?_
  · rw [List.length_map]
    exact Nat.le_trans (List.length_filter_le _ _) (by rw [List.length_range]; exact Nat.le_refl _)
  · rw [List.range_succ, List.filter_append, List.map_append, List.filter_cons, if_pos hb]; rfl
  · rw [List.range_succ, List.filter_append, List.map_append, List.filter_cons, if_neg (by rw [hb]; decide)]
    show _ = upd H1 D (.lst (_ ++ []))
    rw [List.append_nil]
theorem filt_all {α : Type} (l : List α) : l.filter (fun _ => true) = l := List.filter_eq_self.mpr fun _ _ => rfl
/-- the turn's end -/
theorem lc_end {H1 : Hp} {D : Addr} {acc : List V} {y : V} {n : Nat} {N : Hp → Prop} (hn : acc.length ≤ n) (hz : n < 1000000) (h : N (upd H1 D (.lst (acc ++ [y])))) :
    ∃ acc', (upd H1 D (.lst acc)) D = some (.lst acc') ∧ acc'.length < sizeLine ∧ N (upd (upd H1 D (.lst acc)) D (.lst (acc' ++ [y]))) :=
  ⟨acc, upd_same, by rw [sizeLine_eq]; omega, by rw [upd_upd]; exact h⟩
theorem range_map {α : Type} (xs : List α) (d : α) : (List.range xs.length).map (fun i => xs.getD i d) = xs := by
  apply List.ext_getElem?
  intro i
  rw [List.getElem?_map]
  by_cases h : i < xs.length
  · rw [List.getElem?_range h, List.getElem?_eq_getElem h]
    show some (xs.getD i d) = _
    rw [List.getD_eq_getElem?_getD, List.getElem?_eq_getElem h]; rfl
  · rw [List.getElem?_eq_none (by rw [List.length_range]; omega), List.getElem?_eq_none (by omega)]; rfl
theorem range_filter_map {α β : Type} (xs : List α) (d : α) (b : α → Bool) (v : α → β) : ((List.range xs.length).filter fun i => b (xs.getD i d)).map (fun i => v (xs.getD i d)) = (xs.filter b).map v := by
  have e : ((List.range xs.length).filter fun i => b (xs.getD i d)).map (fun i => v (xs.getD i d)) = (((List.range xs.length).map fun i => xs.getD i d).filter b).map v := by
    rw [List.filter_map, List.map_map]; rfl
  rw [e, range_map]
section
variable {J : It} {n : Nat} {G : Hp → Prop} {f : Nat → V} {g : TG} {tb : TS} {D : Ends} {σ : L2.St} {H : Hp}
theorem for_fn (w : Walk J n G (YFn f)) (Pv : Nat → L2.St → Hp → Prop) (h0 : Pv 0 σ H) (hG : ∀ i σ' H', i ≤ n → Pv i σ' H' → G H')
    (hs : ∀ i σ' H', i < n → Pv i σ' H' → g (f i) σ' H' fun σ2 H2 => tb { D with nx := Pv (i + 1), ct := Pv (i + 1), bk := D.nx } σ2 H2) (hd : ∀ σ' H', Pv n σ' H' → D.nx σ' H') :
    ∃ W : Nat → Nat → L2.St → Hp → Prop, (∃ m, W 0 m σ H) ∧ ∀ i m σ H, W i m σ H →
      (J.stop i H ∧ D.nx σ H) ∨ (J.go i H ∧ ∃ N : L2.St → Hp → Prop, (∀ σ' H', N σ' H' → ∃ m', m' < m ∧ W (i + 1) m' σ' H') ∧ ∀ x H', J.yld i H x H' → g x σ H' fun σ2 H2 => tb { D with nx := N, ct := N, bk := D.nx } σ2 H2) :=
  for_it w Pv h0 hG (fun i x σ' H' H'' hi p y => by
    obtain ⟨e1, e2⟩ := y
    subst e1 e2
    exact hs i σ' _ hi p) hd
/-- a loop that leaves the heap as it was -/
theorem for_fix (w : Walk J n G (YFn f)) (Pv : Nat → L2.St → Prop) (hG : G H) (h0 : Pv 0 σ)
    (hs : ∀ i σ', i < n → Pv i σ' → g (f i) σ' H fun σ2 H2 => tb { D with nx := fun σ3 H3 => H3 = H ∧ Pv (i + 1) σ3, ct := fun σ3 H3 => H3 = H ∧ Pv (i + 1) σ3, bk := D.nx } σ2 H2) (hd : ∀ σ', Pv n σ' → D.nx σ' H) :
    ∃ W : Nat → Nat → L2.St → Hp → Prop, (∃ m, W 0 m σ H) ∧ ∀ i m σ H, W i m σ H →
      (J.stop i H ∧ D.nx σ H) ∨ (J.go i H ∧ ∃ N : L2.St → Hp → Prop, (∀ σ' H', N σ' H' → ∃ m', m' < m ∧ W (i + 1) m' σ' H') ∧ ∀ x H', J.yld i H x H' → g x σ H' fun σ2 H2 => tb { D with nx := N, ct := N, bk := D.nx } σ2 H2) :=
  for_fn w (fun i σ' H' => H' = H ∧ Pv i σ') ⟨rfl, h0⟩ (fun _ _ _ _ p => p.1 ▸ hG) (fun i σ' H' hi p => by
    obtain ⟨e, p⟩ := p
    subst e
    exact hs i σ' hi p) fun σ' H' p => by
    obtain ⟨e, p⟩ := p
    subst e
    exact hd σ' p
end
/-- a loop over a list, each item with P -/
theorem for_list {K : PySem.W.Frag} {a : Addr} {xs : List V} {g : TG} {tb : TS} {D : Ends} {σ : L2.St} {H : Hp} (P : V → Prop) (Pv : L2.St → Prop) (hS : SqL K H a xs) (hP : ∀ x ∈ xs, P x) (h0 : Pv σ)
    (hs : ∀ x σ', P x → Pv σ' → g x σ' H fun σ2 H2 => tb { D with nx := fun σ3 H3 => H3 = H ∧ Pv σ3, ct := fun σ3 H3 => H3 = H ∧ Pv σ3, bk := D.nx } σ2 H2) (hd : ∀ σ', Pv σ' → D.nx σ' H) :
    ∃ W : Nat → Nat → L2.St → Hp → Prop, (∃ m, W 0 m σ H) ∧ ∀ i m σ H, W i m σ H →
      ((Itl K a).stop i H ∧ D.nx σ H) ∨ ((Itl K a).go i H ∧ ∃ N : L2.St → Hp → Prop, (∀ σ' H', N σ' H' → ∃ m', m' < m ∧ W (i + 1) m' σ' H') ∧ ∀ x H', (Itl K a).yld i H x H' → g x σ H' fun σ2 H2 => tb { D with nx := N, ct := N, bk := D.nx } σ2 H2) :=
  for_fix walk_listF (fun _ => Pv) hS h0 (fun i σ' hi p => hs _ σ' (by
    show P (xs.getD i .non)
    rw [List.getD_eq_getElem?_getD, List.getElem?_eq_getElem hi]
    exact hP _ (List.getElem_mem hi)) p) hd
theorem meet_fix {t u : TS} {D : Ends} {σ : L2.St} {H : Hp} (P : L2.St → Prop) (h1 : t { D with nx := fun σ1 H1 => H1 = H ∧ P σ1 } σ H) (h2 : ∀ σ1, P σ1 → u D σ1 H) : tMeet t u D σ H :=
  ⟨fun σ1 H1 => H1 = H ∧ P σ1, h1, fun σ1 H1 p => by
    obtain ⟨e, p⟩ := p
    subst e
    exact h2 σ1 p⟩
/-- a while: P by a measure, the heap by it -/
theorem while_fn {c : TT} {tb : TS} {D : Ends} {σ : L2.St} {H : Hp} (P : Nat → L2.St → Hp → Prop) (m : Nat) (h0 : P m σ H)
    (hs : ∀ m σ' H', P m σ' H' → c σ' H' fun b H1 => if b = true then tb { D with nx := fun σ2 H2 => ∃ m', m' < m ∧ P m' σ2 H2, ct := fun σ2 H2 => ∃ m', m' < m ∧ P m' σ2 H2, bk := D.nx } σ' H1 else D.nx σ' H1)
    (mono : ∀ σ' H' (Q Q' : Bool → Hp → Prop), (∀ b H1, Q b H1 → Q' b H1) → c σ' H' Q → c σ' H' Q') : tWhile c tb D σ H := by
  refine ⟨P, ⟨m, h0⟩, fun m σ' H' p => mono σ' H' _ _ (fun b H1 q => ?_) (hs m σ' H' p)⟩
  cases b with
  | false => simpa using q
  | true =>
    have q' : tb { D with nx := fun σ2 H2 => ∃ m', m' < m ∧ P m' σ2 H2, ct := fun σ2 H2 => ∃ m', m' < m ∧ P m' σ2 H2, bk := D.nx } σ' H1 := by simpa using q
    show if true = true then _ else _
    rw [if_pos rfl]
    exact ⟨_, fun _ _ n => n, q'⟩
/-- fresh things apart -/
theorem fresh_ne {H : Hp} {p q : Addr} {o : HO} (h : upd H q o p = none) : p ≠ q := fun e => by rw [e, upd_same] at h; cases h
theorem fresh_of {H : Hp} {p q : Addr} {o : HO} (h : upd H q o p = none) : H p = none := by
  have ne := fresh_ne h
  rw [upd_ne ne] at h; exact h
theorem sqL_new {K : PySem.W.Frag} {H : Hp} {a p : Addr} {o : HO} {xs : List V} (h : SqL K H a xs) (hp : H p = none) : SqL K (upd H p o) a xs := by
  rcases h with h | h
  · rcases h with h | ⟨ob, h⟩
    · exact .inl (.inl (by rw [upd_ne (ne_of_none h hp)]; exact h))
    · exact .inl (.inr ⟨ob, by rw [upd_ne (ne_of_none h hp)]; exact h⟩)
  · exact .inr h
theorem sqL_at {K : PySem.W.Frag} {H : Hp} {p : Addr} {xs : List V} : SqL K (upd H p (.lst xs)) p xs := .inl (.inl upd_same)
theorem sqT_at {K : PySem.W.Frag} {H : Hp} {p : Addr} {xs : List V} : SqT K (upd H p (.tup xs)) p xs := .inl (.inl upd_same)
/-- a text so many times -/
def MulFit (z : Str) (n : Int) : Prop := z.length ≤ 100 ∧ -100000 ≤ n ∧ n ≤ 100000
abbrev rMulS : R2 := fun x y H Q => ∃ z n, x = .str z ∧ y = .int n ∧ MulFit z n ∧ Q (.str (Txt.mul z n)) H
theorem op_mul_str {X : Cx} : OpR X (binaryOp .Mult) rMulS := by
  intro pins s σ H x y u v Q I rx ry h
  obtain ⟨z, n, rfl, rfl, ⟨h1, h2, h3⟩, q⟩ := h
  obtain ⟨t, rfl⟩ := rx
  obtain ⟨t', rfl⟩ := ry
  have e1 : ¬ n < -(2 ^ 63 : Int) := by omega
  have e2 : ¬ n ≥ 2 ^ 63 := by omega
  refine PySem.SB.mul (x := z) (n := n) ⟨by rw [decide_eq_false e1, decide_eq_false e2]; rfl, fun h4 _ => ?_, fun h4 _ => ?_⟩ (fun t' k => ⟨.str (Txt.mul z n), H, I.tok _, ⟨_, rfl⟩, q⟩)
  · have h5 : (100 : Int) ≤ (2 ^ 63 - 1) / n := (Int.le_ediv_iff_mul_le (by omega)).mpr (by omega)
    omega
  · have h6 : z.length * n.toNat ≤ 100 * 100000 := Nat.mul_le_mul h1 (by omega)
    show decide (z.length * n.toNat > 2 ^ 24) = false
    exact decide_eq_false (by omega)
theorem rIsi_of {K : PySem.W.Frag} {x : V} {a b : String} {r : Bool} {H : Hp} {Q : VK} (h : TyX K H x (.type a)) (hb : kitB a b = some r) (q : Q (.bl r) H) : rIsi K [x, .ty b] H Q := ⟨_, _, _, _, _, rfl, .ty _, h, kit_ty hb, q⟩
section
variable {K : PySem.W.Frag} {H : Hp} {Q : VK}
theorem isi_bl_bool {b : Bool} (q : Q (.bl true) H) : rIsi K [.bl b, .ty "bool"] H Q := rIsi_of (.base (.bl _)) (by decide +kernel) q
theorem isi_int_int {i : Int} (q : Q (.bl true) H) : rIsi K [.int i, .ty "int"] H Q := rIsi_of (.base (.int _)) (by decide +kernel) q
theorem isi_int_bool {i : Int} (q : Q (.bl false) H) : rIsi K [.int i, .ty "bool"] H Q := rIsi_of (.base (.int _)) (by decide +kernel) q
theorem isi_str_str {z : Str} (q : Q (.bl true) H) : rIsi K [.str z, .ty "str"] H Q := rIsi_of (.base (.str _)) (by decide +kernel) q
theorem isi_lst {p : Addr} {xs : List V} (h : H p = some (.lst xs)) (q : Q (.bl true) H) : rIsi K [.ref p, .ty "list"] H Q := rIsi_of (.base (.lst h)) (by decide +kernel) q
end
theorem isi1 {K : PySem.W.Frag} {σ : L2.St} {x : V} {b : String} {H : Hp} {Q : VK} (h : rIsi K [x, .ty b] H Q) : tCons (tC (V.ty b)) tNil σ H (fun xs H2 => rIsi K (x :: xs) H2 Q) := h
/-! ### min, max of two texts -/
def val2 (a b : Str) (i : Nat) : Str := if i = 0 then a else b
theorem val2_at {a b : Str} {t u : Tok} {i : Nat} {v : Value} (h : (#[Value.str a t, Value.str b u] : Array Value)[i]? = some v) : ∃ k, v = .str (val2 a b i) k := by
  match i, h with
  | 0, h => exact ⟨t, (Option.some.inj h).symm⟩
  | 1, h => exact ⟨u, (Option.some.inj h).symm⟩
  | i + 2, h => simp at h
theorem cmp_strs_lt {prog : Program} {w : World} {A : Around} {P : Nat → Value → Prop} (val : Nat → Str) (hval : ∀ i v, P i v → ∃ t, v = .str (val i) t) :
    CmpOf prog w A .Lt P fun i j => decide ((val i).cps.toList < (val j).cps.toList) := by
  intro i j vi vj s Q E hi hj hQ
  obtain ⟨t, rfl⟩ := hval i vi hi
  obtain ⟨u, rfl⟩ := hval j vj hj
  exact PySem.P.lt_str hQ
theorem cmp_strs_gt {prog : Program} {w : World} {A : Around} {P : Nat → Value → Prop} (val : Nat → Str) (hval : ∀ i v, P i v → ∃ t, v = .str (val i) t) :
    CmpOf prog w A .Gt P fun i j => decide ((val j).cps.toList < (val i).cps.toList) := by
  intro i j vi vj s Q E hi hj hQ
  obtain ⟨t, rfl⟩ := hval i vi hi
  obtain ⟨u, rfl⟩ := hval j vj hj
  exact PySem.P.gt_str hQ
theorem min_two_strs {prog : Program} {w : World} {A : Around} {E : Value → Shared → Prop} {s : Shared} {a b : Str} {t u : Tok} {Q : Value → Shared → Prop} (hh : A.handled = none)
    (h : ∀ h' tk, (∀ c o, s.heap.get? c = some o → h'.get? c = some o) → Q (if b.cps.toList < a.cps.toList then .str b u else .str a t) { s with heap := h', toks := tk }) :
    wpAny (model prog w) A (call (.builtin "min") [.str a t, .str b u]) Q E s := by
  have hT : (s.heap.push { cls := .type "tuple", data := .seq #[.str a t, .str b u] }).IsTuple s.heap.objs.size #[.str a t, .str b u] := ⟨_, Heap.get?_push_size _ rfl, rfl, 0, by simp⟩
  refine call_min_two (wpAny_pyIter_tuple hT ?_)
  have hsz : (s.heap.push { cls := .type "tuple", data := .seq #[.str a t, .str b u] }).objs.size = s.heap.objs.size + 1 := Heap.size_push ..
  refine ⟨_, [_, s.heap.objs.size], [_], _, _, _, _, rfl, Walks.tuple (A := A.in1) hh _ s.heap.objs.size (by rw [hsz]; exact Nat.ne_of_lt (Nat.lt_succ_self _)) #[.str a t, .str b u],
    ⟨⟨_, Heap.get?_push_size _ rfl, rfl, rfl⟩, hT.push _⟩, fun c hc => ?_, by simp, cmp_strs_lt (val2 a b) (fun i v hv => val2_at hv), fun v h' tk hP hk => ?_⟩
  · show c < ((s.heap.push _).push _).objs.size
    rw [Heap.size_push, hsz]
    rcases List.mem_cons.mp hc with rfl | hc
    · rw [hsz]; exact Nat.lt_succ_self _
    · rcases List.mem_cons.mp hc with rfl | hc
      · exact Nat.lt_succ_of_lt (Nat.lt_succ_self _)
      · cases hc
  · have hold : ∀ c o, s.heap.get? c = some o → h'.get? c = some o := fun c o e => by
      refine hk c o (fun hm => ?_) (Heap.get?_push_of_some _ (Heap.get?_push_of_some _ e))
      rcases List.mem_cons.mp hm with e1 | hm
      · have := Heap.lt_size e; rw [e1, hsz] at this; exact Nat.lt_irrefl _ (Nat.lt_of_succ_lt this)
      · cases hm
    have := h h' tk hold
    have hv : v = if b.cps.toList < a.cps.toList then Value.str b u else Value.str a t := by
      have hP' : (#[Value.str a t, Value.str b u] : Array Value)[argBest (fun i j => decide ((val2 a b i).cps.toList < (val2 a b j).cps.toList)) 1]? = some v := hP
      by_cases hba : b.cps.toList < a.cps.toList
      · have e : argBest (fun i j => decide ((val2 a b i).cps.toList < (val2 a b j).cps.toList)) 1 = 1 := by simp [argBest, val2, hba]
        rw [e] at hP'
        rw [if_pos hba]
        exact (Option.some.inj hP').symm
      · have e : argBest (fun i j => decide ((val2 a b i).cps.toList < (val2 a b j).cps.toList)) 1 = 0 := by simp [argBest, val2, hba]
        rw [e] at hP'
        rw [if_neg hba]
        exact (Option.some.inj hP').symm
    rw [hv]; exact this
theorem max_two_strs {prog : Program} {w : World} {A : Around} {E : Value → Shared → Prop} {s : Shared} {a b : Str} {t u : Tok} {Q : Value → Shared → Prop} (hh : A.handled = none)
    (h : ∀ h' tk, (∀ c o, s.heap.get? c = some o → h'.get? c = some o) → Q (if a.cps.toList < b.cps.toList then .str b u else .str a t) { s with heap := h', toks := tk }) :
    wpAny (model prog w) A (call (.builtin "max") [.str a t, .str b u]) Q E s := by
  have hT : (s.heap.push { cls := .type "tuple", data := .seq #[.str a t, .str b u] }).IsTuple s.heap.objs.size #[.str a t, .str b u] := ⟨_, Heap.get?_push_size _ rfl, rfl, 0, by simp⟩
  refine call_max_two (wpAny_pyIter_tuple hT ?_)
  have hsz : (s.heap.push { cls := .type "tuple", data := .seq #[.str a t, .str b u] }).objs.size = s.heap.objs.size + 1 := Heap.size_push ..
  refine ⟨_, [_, s.heap.objs.size], [_], _, _, _, _, rfl, Walks.tuple (A := A.in1) hh _ s.heap.objs.size (by rw [hsz]; exact Nat.ne_of_lt (Nat.lt_succ_self _)) #[.str a t, .str b u],
    ⟨⟨_, Heap.get?_push_size _ rfl, rfl, rfl⟩, hT.push _⟩, fun c hc => ?_, by simp, cmp_strs_gt (val2 a b) (fun i v hv => val2_at hv), fun v h' tk hP hk => ?_⟩
  · show c < ((s.heap.push _).push _).objs.size
    rw [Heap.size_push, hsz]
    rcases List.mem_cons.mp hc with rfl | hc
    · rw [hsz]; exact Nat.lt_succ_self _
    · rcases List.mem_cons.mp hc with rfl | hc
      · exact Nat.lt_succ_of_lt (Nat.lt_succ_self _)
      · cases hc
  · have hold : ∀ c o, s.heap.get? c = some o → h'.get? c = some o := fun c o e => by
      refine hk c o (fun hm => ?_) (Heap.get?_push_of_some _ (Heap.get?_push_of_some _ e))
      rcases List.mem_cons.mp hm with e1 | hm
      · have := Heap.lt_size e; rw [e1, hsz] at this; exact Nat.lt_irrefl _ (Nat.lt_of_succ_lt this)
      · cases hm
    have := h h' tk hold
    have hv : v = if a.cps.toList < b.cps.toList then Value.str b u else Value.str a t := by
      have hP' : (#[Value.str a t, Value.str b u] : Array Value)[argBest (fun i j => decide ((val2 a b j).cps.toList < (val2 a b i).cps.toList)) 1]? = some v := hP
      by_cases hba : a.cps.toList < b.cps.toList
      · have e : argBest (fun i j => decide ((val2 a b j).cps.toList < (val2 a b i).cps.toList)) 1 = 1 := by simp [argBest, val2, hba]
        rw [e] at hP'
        rw [if_pos hba]
        exact (Option.some.inj hP').symm
      · have e : argBest (fun i j => decide ((val2 a b j).cps.toList < (val2 a b i).cps.toList)) 1 = 0 := by simp [argBest, val2, hba]
        rw [e] at hP'
        rw [if_neg hba]
        exact (Option.some.inj hP').symm
    rw [hv]; exact this
abbrev rMin2S : List V → Hp → VK → Prop := fun xs H Q => ∃ i j, xs = [.str i, .str j] ∧ Q (.str (if j.cps.toList < i.cps.toList then j else i)) H
abbrev rMax2S : List V → Hp → VK → Prop := fun xs H Q => ∃ i j, xs = [.str i, .str j] ∧ Q (.str (if i.cps.toList < j.cps.toList then j else i)) H
section
variable {X : Cx}
theorem call_min2S (hc : X.calm = true) : CallR X (.builtin "min") rMin2S := by
  intro pins s σ H xs us Q I r h
  obtain ⟨i, j, rfl, q⟩ := h
  obtain ⟨u, w', rfl, ⟨t, rfl⟩, ⟨t', rfl⟩⟩ := vals2 r
  refine min_two_strs (I.ok.hd hc) fun h' tk k => ⟨_, H, I.kept k, ?_, q⟩
  by_cases hj : j.cps.toList < i.cps.toList
  · rw [if_pos hj, if_pos hj]; exact ⟨_, rfl⟩
  · rw [if_neg hj, if_neg hj]; exact ⟨_, rfl⟩
theorem call_max2S (hc : X.calm = true) : CallR X (.builtin "max") rMax2S := by
  intro pins s σ H xs us Q I r h
  obtain ⟨i, j, rfl, q⟩ := h
  obtain ⟨u, w', rfl, ⟨t, rfl⟩, ⟨t', rfl⟩⟩ := vals2 r
  refine max_two_strs (I.ok.hd hc) fun h' tk k => ⟨_, H, I.kept k, ?_, q⟩
  by_cases hj : i.cps.toList < j.cps.toList
  · rw [if_pos hj, if_pos hj]; exact ⟨_, rfl⟩
  · rw [if_neg hj, if_neg hj]; exact ⟨_, rfl⟩
end
theorem range_mapF {α β : Type} (xs : List α) (d : α) (v : α → β) : (List.range xs.length).map (fun i => v (xs.getD i d)) = xs.map v := by
  have e := range_filter_map xs d (fun _ => true) v
  rw [List.filter_eq_self.mpr fun _ _ => rfl, List.filter_eq_self.mpr fun _ _ => rfl] at e
  exact e
/-! ### list(range(i, j, c)) -/
def rngL (i c : Int) (n : Nat) : List V := (List.range n).map fun (k : Nat) => .int (i + (k : Int) * c)
def tListR3 (ta : TA) : TE := fun σ H Q => ta σ H fun vs H1 => ∃ (i j c : Int) (n : Nat), vs = [.int i, .int j, .int c] ∧ RgC i j c n ∧ n ≤ 1000000 ∧ ∀ p, H1 p = none → Q (.ref p) (upd H1 p (.lst (rngL i c n)))
theorem pe_listRange3 {X : Cx} {a b c : Expr} {ta : TA} {p1 p2 q1 q2 : Pos} (hc : X.calm = true) (hgl : Gl X "list") (hml : X.mg "list" = none) (hg : Gl X "range") (hm : X.mg "range" = none) (ha : PA X [a, b, c] ta)
    (hs : starEach [a, b, c] X.env = (false, eval a X.env) :: starEach [b, c] X.env := by rfl) (hpl : (backTo q2 (starEach [b, c] X.env)).any (·.1) = false := by rfl)
    (he : starEach [.Call (.Name "range" p2) [a, b, c] [] q2] X.env = (false, eval (.Call (.Name "range" p2) [a, b, c] [] q2) X.env) :: starEach [] X.env := by rfl) :
    PE X (.Call (.Name "list" p1) [.Call (.Name "range" p2) [a, b, c] [] q2] [] q1) (tListR3 ta) := by
  refine ⟨fun pins s σ H Q I h => ?_⟩
  refine wpAny_Call_Name_kw (ld_blt I hgl hml (u := .type "list") (by rfl) ?_ (by decide) (by decide))
  refine PyProof.Rows.callWith_type1 ?_ he (by rfl)
  rw [he]
  show wpAny _ _ (spliced ((false, eval (.Call (.Name "range" p2) [a, b, c] [] q2) X.env) :: backTo q1 (starEach [] X.env))) _ _ s
  refine Calls.spliced_cons ?_
  refine wpAny_Call_Name_kw (ld_blt I hg hm (u := .type "range") (by rfl) ?_ (by decide) (by decide))
  refine PyProof.Rows.callWith_type1 (thn (ha.run q2 pins s σ H _ I h) fun us s1 ⟨vs, H1, I1, r1, q⟩ => ?_) hs hpl
  obtain ⟨i, j, k, n, e, ⟨c0, c1, c2, c3⟩, hn, q⟩ := q
  subst e
  cases r1 with
  | cons r rr =>
    cases rr with
    | cons r' rr =>
      cases rr with
      | cons r'' rr =>
        cases rr
        obtain ⟨t, rfl⟩ := r
        obtain ⟨t', rfl⟩ := r'
        obtain ⟨t'', rfl⟩ := r''
        refine call_range_3 c0 ?_ (.inl (PyProof.noPylong_small c1))
        refine Calls.spliced_nil ?_
        have I2 : Inv X pins σ H1 { s1 with heap := s1.heap.push { cls := .type "range", data := .fields #[.int i t, .int j t', .int k t''] } } := I1.kept (t' := s1.toks) fun b o e => Heap.get?_push_of_some _ e
        refine PySem.call_list_range (I2.ok.hd hc) (IsRange.new ..) c2 c3 (by omega) fun h' tk acc c' kk e it => ?_
        obtain ⟨it1, it2⟩ := it
        have hl : (rngL i k n).length = n := by
          unfold rngL
          rw [List.length_map, List.length_range]
        refine ⟨.ref _, upd H1 _ (.lst (rngL i k n)), I2.laid (t' := tk) kk (Nat.le_refl _) ⟨?_, acc.toList, c', ?_, e⟩, rfl, q _ (I2.hok.fresh (Nat.le_refl _))⟩
        · rw [hl, sizeLine_eq]; omega
        · refine paired_ix ?_ fun m x y hx hy => ?_
          · rw [hl, Array.length_toList, it1]
          · rw [Array.getElem?_toList] at hy
            obtain ⟨tt, rfl⟩ := it2 m y hy
            unfold rngL at hx
            rw [List.getElem?_map] at hx
            cases hm2 : (List.range n)[m]? with
            | none => rw [hm2] at hx; cases hx
            | some w =>
              rw [hm2] at hx
              have := List.getElem?_range (n := n) (i := m)
              have hw : w = m := by
                have hlt : m < n := by
                  rcases Nat.lt_or_ge m n with z | z
                  · exact z
                  · rw [List.getElem?_eq_none (by rw [List.length_range]; exact z)] at hm2; cases hm2
                rw [List.getElem?_range hlt] at hm2
                exact (Option.some.inj hm2).symm
              subst hw
              cases hx
              exact ⟨tt, rfl⟩
theorem gTupN2 {K : PySem.W.Frag} {a : Addr} {v w : V} {i j : Nat} {σ : L2.St} {H : Hp} {Q : L2.St → Hp → Prop} (h : SqT K H a [v, w]) (q : Q ((σ.set i (some v)).set j (some w)) H) : gTup K 2 (gCons (gName i) (gCons (gName j) gNil)) (.ref a) σ H Q :=
  ⟨a, _, rfl, h, rfl, v, _, rfl, w, _, rfl, rfl, q⟩
theorem gTupN3 {K : PySem.W.Frag} {a : Addr} {v w x : V} {i j k : Nat} {σ : L2.St} {H : Hp} {Q : L2.St → Hp → Prop} (h : SqT K H a [v, w, x]) (q : Q (((σ.set i (some v)).set j (some w)).set k (some x)) H) : gTup K 3 (gCons (gName i) (gCons (gName j) (gCons (gName k) gNil))) (.ref a) σ H Q :=
  ⟨a, _, rfl, h, rfl, v, _, rfl, w, _, rfl, x, _, rfl, rfl, q⟩
theorem tyV_list {K : PySem.W.Frag} {H : Hp} {p : Addr} {xs : List V} (h : H p = some (.lst xs)) : tyV K "list" (.ref p) H := .inl ⟨rfl, xs, .inl (.inl h)⟩
theorem app_to {H : Hp} {p : Addr} {xs : List V} {y : V} {Q : VK} (h : H p = some (.lst xs)) (hz : xs.length < sizeLine) (q : Q .non (upd H p (.lst (xs ++ [y])))) : rAppend (.ref p) [y] H Q := ⟨p, xs, y, rfl, rfl, h, hz, q⟩
theorem app_new {H : Hp} {p : Addr} {xs : List V} {y : V} {Q : VK} (hz : xs.length < sizeLine) (q : Q .non (upd H p (.lst (xs ++ [y])))) : rAppend (.ref p) [y] (upd H p (.lst xs)) Q := ⟨p, xs, y, rfl, rfl, upd_same, hz, by rw [upd_upd]; exact q⟩
theorem rev_new {H : Hp} {p : Addr} {xs : List V} {Q : VK} (q : Q .non (upd H p (.lst xs.reverse))) : rReverse (.ref p) [] (upd H p (.lst xs)) Q := ⟨p, xs, rfl, rfl, upd_same, by rw [upd_upd]; exact q⟩
/-- the end of a law: what it raises may hang on the world -/
theorem walk_ofW {l : PySem.W.OpenLaw} {n k : Nat} {q : Program} {loose : List Str} {XP : (Str → Option Value) → Heap → Prop} {YP : World → Heap → Prop} {d : DefRec} {CX : World → CXT} {x : Str} (h1 : l.most = some n) (h2 : n ≤ sizeLine) (h3 : d.params.defaults = [])
    (h4 : Room k callerA)
    (F : ∀ (w : World) (mg : Str → Option Value) (fa : Addr) (h : Heap), YP w h → h.Ns mainGlobals mg → mg d.name = some (.ref fa) → ∃ (K : PySem.W.Frag) (fd : FuncData) (sp : Sp), K.In h ∧ (∀ (s : Shared) (u : Value), BindsTo s fd ⟨[u], []⟩ [(x, u)]) ∧
      (∀ (H : Hp) (a : Addr) (ns : List Int), ns.length ≤ n → Only H → SqL K H a (ns.map V.int) → sp [.ref a] H (fun v _ => v = .bl true) fun _ _ _ => False) ∧ ∀ base : Heap, K.In base → base.Ns mainGlobals mg → FnOk l.prog w K mg base (CX w) k fa fd [x] sp)
    (h5 : ∀ (w : World) (H : Hp) (s : Shared) (e : Value) (s1 : Shared), CX w [] H s (fun _ _ _ => False) e s1 → False) : PySem.W.WalkO q loose XP YP l.row.toRowW d [] (fun f vs => PySem.call f vs) := by
  refine Att.attach_call h1 h3 ?_
  intro w s0 s1 mg mb fa o pm cd doc a vs ns G Y _ _ _ hm hob hin hln hg
  obtain ⟨K, fd, sp, kx, b1, b2, b3⟩ := F w mg fa _ Y G.T.g hm
  exact law_call kx G.T.g G.T.b G.T.builtins G.T.nolimit hg hob hin (Nat.le_trans hln h2) h4 b3 b1 (fun H y z => b2 H a ns hln y z) (fun H e s2 => h5 w H s1 e s2)
theorem cx_none {P : Program} {w : World} {l : List Env} {H : Hp} {s : Shared} {e : Value} {s1 : Shared} (h : L2.CX P w l H s (fun _ _ _ => False) e s1) : False := by
  obtain ⟨_, _, _, _, _, _, _, _, _, _, _, _, z⟩ := h
  exact z
/-! ### own classes: methods, makers -/
structure FnM (P : Program) (w : World) (K : PySem.W.Frag) (mg : Str → Option Value) (base : Heap) (CX : CXT) (C : Addr) (m : Str) (ps : List Str) (k : Nat) (sp : Sp) : Prop where
  ex : ∃ f fd, Meth K C m f ∧ Binds K fd ps [] ∧ FnOk P w K mg base CX k f fd ps sp
structure FnI (P : Program) (w : World) (K : PySem.W.Frag) (mg : Str → Option Value) (base : Heap) (CX : CXT) (C : Addr) (ps : List Str) (k : Nat) (sp : Sp) : Prop where
  ex : ∃ f fd, Mk K C f ∧ Binds K fd ps [] ∧ FnOk P w K mg base CX k f fd ps sp
/-- o.m(..) where what is raised is wished for at the caller's slots -/
def tMethSD (C : Addr) (m : Str) (sp : Sp) (E : L2.St → XK) (ta : TE) (t : TA) : TE := fun σ H Q => ta σ H fun x H1 => ∃ a dx fs, x = .ref a ∧ H1 a = some (.ins C dx fs) ∧ fs.lookup m = none ∧ t σ H1 fun vs H2 => sp (x :: (vs ++ [])) H2 Q (E σ)
def tMakeSD (C : Addr) (sp : Sp) (E : L2.St → XK) (t : TA) : TE := fun σ H Q => t σ H fun vs H1 => ∀ x dx, H1 x = none → H1 dx = none → dx ≠ x →
  sp (.ref x :: (vs ++ [])) (upd (upd H1 dx (.own x)) x (.ins C dx [])) (fun v H2 => v = .non ∧ Q (.ref x) H2) (E σ)
section
variable {X : Cx} {CX : CXT} {j k : Nat} {C : Addr} {ps : List Str} {sp : Sp} {x m : Str} {p pos apos : Pos} {e o : Expr} {es : List Expr} {ta : TE} {t : TA} {E : XK} {pl : Sem Bool}
theorem pe_Gm (G : FnM X.prog X.w X.K X.mg X.base CX C m ps k sp) (hr : Room j X.A) (hjk : k ≤ j) (he : PE X o ta) (c : Cls X.K C) (hx : Passes CX X E) (ha : PA X (e :: es) t)
    (hst : starEach (e :: es) X.env = (false, eval e X.env) :: starEach es X.env := by rfl) (hpl : (backTo pos (starEach es X.env)).any (·.1) = false := by rfl)
    (ht : eval (.Call (.Attribute o m apos) (e :: es) [] pos) X.env = (do
      let ov ← eval o X.env
      standAt apos.atName
      let (f, first) ← holding [ov] (getMethod ov m pl)
      callWith pos f first (backTo pos (starEach (e :: es) X.env)) (backToKw pos (keywordEach [] X.env))) := by rfl) :
    PE X (.Call (.Attribute o m apos) (e :: es) [] pos) (tMeth C m sp [] E ta t) := by
  obtain ⟨f, fd, hm, hb, F⟩ := G.ex
  exact pe_meth he c hm F (hr.mono hjk) hb .nil hx ha hst hpl ht
theorem pe_Gm0 (G : FnM X.prog X.w X.K X.mg X.base CX C m ps k sp) (hr : Room j X.A) (hjk : k ≤ j) (he : PE X o ta) (c : Cls X.K C) (hx : Passes CX X E)
    (ht : eval (.Call (.Attribute o m apos) [] [] pos) X.env = (do
      let ov ← eval o X.env
      standAt apos.atName
      let (f, first) ← holding [ov] (getMethod ov m pl)
      callWith pos f first (backTo pos (starEach [] X.env)) (backToKw pos (keywordEach [] X.env))) := by rfl) :
    PE X (.Call (.Attribute o m apos) [] [] pos) (tMeth C m sp [] E ta tNil) := by
  obtain ⟨f, fd, hm, hb, F⟩ := G.ex
  exact pe_meth0 he c hm F (hr.mono hjk) hb .nil hx ht
theorem pe_GM (G : FnI X.prog X.w X.K X.mg X.base CX C ps k sp) (hr : Room j X.A) (hjk : k + 1 ≤ j) (hg : Gl X x) (hm : X.mg x = some (.ref C)) (hx : Passes CX X E) (ha : PA X (e :: es) t)
    (hdb : (x == ("__debug__" : Str)) = false := by decide) (he : starEach (e :: es) X.env = (false, eval e X.env) :: starEach es X.env := by rfl) (hpl : (backTo pos (starEach es X.env)).any (·.1) = false := by rfl) :
    PE X (.Call (.Name x p) (e :: es) [] pos) (tMake C sp [] E t) := by
  obtain ⟨f, fd, M, hb, F⟩ := G.ex
  exact pe_make M F (hr.mono hjk) hg hm hb .nil hx ha hdb he hpl
end
section
variable {X : Cx} {j k : Nat} {C : Addr} {ps : List Str} {sp : Sp} {x m : Str} {p pos apos : Pos} {e o : Expr} {es : List Expr} {ta : TE} {t : TA} {E : L2.St → XK} {pl : Sem Bool}
theorem pe_GmS (G : FnM X.prog X.w X.K X.mg X.base (L2.CX X.prog X.w) C m ps k sp) (hr : Room j X.A) (hjk : k ≤ j) (he : PE X o ta) (c : Cls X.K C) (hx : ∀ σ, PassesAt (L2.CX X.prog X.w) X σ (E σ)) (ha : PA X (e :: es) t)
    (hst : starEach (e :: es) X.env = (false, eval e X.env) :: starEach es X.env := by rfl) (hpl : (backTo pos (starEach es X.env)).any (·.1) = false := by rfl)
    (ht : eval (.Call (.Attribute o m apos) (e :: es) [] pos) X.env = (do
      let ov ← eval o X.env
      standAt apos.atName
      let (f, first) ← holding [ov] (getMethod ov m pl)
      callWith pos f first (backTo pos (starEach (e :: es) X.env)) (backToKw pos (keywordEach [] X.env))) := by rfl) :
    PE X (.Call (.Attribute o m apos) (e :: es) [] pos) (tMethSD C m sp E ta t) := by
  obtain ⟨f, fd, hm, hb, F⟩ := G.ex
  refine ⟨fun pins s σ H Q I h => ?_⟩
  refine PySem.W.methodCall_KW (pl := pl) (thn (he.run pins s σ H _ I h) fun u s1 z => ?_) ht
  obtain ⟨y, H1, I1, rx, a, dx, fs, ex, ea, l, q⟩ := z
  subst ex
  obtain rfl : u = Value.ref a := rx
  refine getmeth_ok I1 ea c hm l ?_
  refine PySem.W.callWith_K (first := [.ref a]) (h₀ := X.base) I1.ok.mod.kin hm.kp (thn (ha.run pos pins s1 σ H1 _ I1 q) fun us s2 z => ?_) hst hpl
  obtain ⟨vs, H2, I2, r, q2⟩ := z
  exact ⟨I2.kIn, run_fnSD (us := .ref a :: us) (vs := .ref a :: vs) F (hr.mono hjk) hb .nil (hx σ) I2 (.cons rfl r) q2⟩
theorem pe_GmS0 (G : FnM X.prog X.w X.K X.mg X.base (L2.CX X.prog X.w) C m ps k sp) (hr : Room j X.A) (hjk : k ≤ j) (he : PE X o ta) (c : Cls X.K C) (hx : ∀ σ, PassesAt (L2.CX X.prog X.w) X σ (E σ))
    (ht : eval (.Call (.Attribute o m apos) [] [] pos) X.env = (do
      let ov ← eval o X.env
      standAt apos.atName
      let (f, first) ← holding [ov] (getMethod ov m pl)
      callWith pos f first (backTo pos (starEach [] X.env)) (backToKw pos (keywordEach [] X.env))) := by rfl) :
    PE X (.Call (.Attribute o m apos) [] [] pos) (tMethSD C m sp E ta tNil) := by
  obtain ⟨f, fd, hm, hb, F⟩ := G.ex
  refine ⟨fun pins s σ H Q I h => ?_⟩
  refine PySem.W.methodCall_KW (pl := pl) (thn (he.run pins s σ H _ I h) fun u s1 z => ?_) ht
  obtain ⟨y, H1, I1, rx, a, dx, fs, ex, ea, l, q⟩ := z
  subst ex
  obtain rfl : u = Value.ref a := rx
  refine getmeth_ok I1 ea c hm l ?_
  exact PySem.W.callWith_K0 (first := [.ref a]) I1.kIn hm.kp (run_fnSD (us := [.ref a]) (vs := [.ref a]) F (hr.mono hjk) hb .nil (hx σ) I1 (.cons rfl .nil) q)
theorem pe_GMS (G : FnI X.prog X.w X.K X.mg X.base (L2.CX X.prog X.w) C ps k sp) (hr : Room j X.A) (hjk : k + 1 ≤ j) (hg : Gl X x) (hm : X.mg x = some (.ref C)) (hx : ∀ σ, PassesAt (L2.CX X.prog X.w) X σ (E σ)) (ha : PA X (e :: es) t)
    (hdb : (x == ("__debug__" : Str)) = false := by decide) (he : starEach (e :: es) X.env = (false, eval e X.env) :: starEach es X.env := by rfl) (hpl : (backTo pos (starEach es X.env)).any (·.1) = false := by rfl) :
    PE X (.Call (.Name x p) (e :: es) [] pos) (tMakeSD C sp E t) := by
  obtain ⟨f, fd, M, hb, F⟩ := G.ex
  refine ⟨fun pins s σ H Q I h => ?_⟩
  refine wpAny_Call_Name_kw (ld_glob I hg hm ?_ hdb)
  refine PySem.W.callWith_K (h₀ := X.base) I.ok.mod.kin M.kp (thn (ha.run pos pins s σ H _ I h) fun us s1 z => ?_) he hpl
  obtain ⟨vs, H1, I1, r, q⟩ := z
  refine ⟨I1.kIn, ?_⟩
  have hq := q (s1.heap.objs.size + 1) s1.heap.objs.size (I1.hok.fresh (Nat.le_succ _)) (I1.hok.fresh (Nat.le_refl _)) (Nat.ne_of_lt (Nat.lt_succ_self _))
  have I2 := Inv.made (C := C) I1
  have r2 : Vals (V.ref (s1.heap.objs.size + 1) :: (vs ++ [])) (Value.ref (s1.heap.objs.size + 1) :: (us ++ [])) := .cons rfl (r.append .nil)
  have hl : (Value.ref (s1.heap.objs.size + 1) :: us ++ []).length = ps.length := by
    have e := r2.length
    rw [F.len _ _ _ _ hq] at e
    exact e.symm
  have hbb := hb _ (Value.ref (s1.heap.objs.size + 1) :: us) I2.kIn hl
  rw [List.cons_append] at hbb
  refine wpAny_call (make_map (f := f) I1.kIn M.makes M.init (beq_iff_eq.mp M.fn) (codeAny_mono (F.run _ X.stack _ _ ⟨Value.ref (s1.heap.objs.size + 1) :: us, []⟩ (Value.ref (s1.heap.objs.size + 1) :: (us ++ [])) _ _ (E σ) ((hr.mono hjk).make C us [])
    (I2.env0.make C us []) hbb r2 hq) fun r s' hq' => ?_))
  cases r with
  | error e => exact hx σ pins _ _ e s' I2 hq'
  | ok fl =>
    cases fl with
    | ret u =>
      obtain ⟨v, H', I3, rv, ev, q3⟩ := I2.after hq'
      subst ev
      exact ⟨rv, ⟨V.ref (s1.heap.objs.size + 1), H', I3, rfl, q3⟩⟩
    | next => exact False.elim hq'
    | brk => exact False.elim hq'
    | cont => exact False.elim hq'
end
/-! ### max(list, default=d) -/
section
variable {prog : Program} {w : World} {A : Around} {R : Result → Shared → Prop} {I : Addr} {fp wr : List Addr} {n : Nat} {P : Nat → Value → Prop} {St : Nat → Heap → Prop} {kw : List (Str × Value)}
theorem mx_loop (W : Walks prog w A.in1 I fp wr n P St) (bt : Nat → Nat → Bool) (hcmp : CmpOf prog w A.in1 .Gt P bt) (S : Addr) (hSf : S ∉ fp) :
    ∀ (k j : Nat) (s : Shared) (vb : Value) (c : Nat), n - (j + 1) = k → j + 1 ≤ n → St (j + 1) s.heap → P (argBest bt j) vb →
    s.heap.get? S = some { cls := .type "list", dict := none, data := .seq #[vb, vb] c, slots := #[] } →
    (∀ v h' tk, P (argBest bt (n - 1)) v → (∀ b o, b ∉ wr → b ≠ S → s.heap.get? b = some o → h'.get? b = some o) → R (.ok (.ret v)) { s with heap := h', toks := tk }) →
    codeAny (model prog w) A (.builtin "max.loop" ⟨[.ref I, .none, .ref S], kw⟩) R s := by
  have hSw : S ∉ wr := fun h => hSf (W.sub _ h)
  have hname : (toString "max" ++ toString ".loop" : String) = "max.loop" := by decide
  intro k
  induction k with
  | zero =>
    intro j s vb c hk hj hst hPb hS hR
    have hin : j + 1 = n := by omega
    refine codeAny_builtin F.entry_max_loop ?_
    rw [Around.under_plainId F.plain_max_loop _]
    show wpAny _ A.in1 (seqItems? (.ref S) >>= _) _ _ s
    refine wpAny_bind (wpAny_seqItems hS rfl ?_)
    show wpAny _ A.in1 (tryCatch (pyNext (.ref I)) _ >>= _) _ _ s
    refine wpAny_bind (wpAny_tryCatch (W.done s _ _ (hin ▸ hst) fun h' tk hk' => ?_))
    have hS' := hk' S _ hSw hS
    show wpAny _ A.in1 (updateSeq S (fun _ => #[]) >>= _) _ _ _
    refine wpAny_bind ?_
    refine wpAny_updateSeq hS' rfl (wpAny_bind (wpAny_letGo (wpAny_pure ?_)))
    exact hR vb _ tk (by rw [← hin]; exact hPb) fun b o hbw hbS e => (Heap.get?_update_other _ _ (Ne.symm hbS)).trans (hk' b o hbw e)
  | succ k ih =>
    intro j s vb c hk hj hst hPb hS hR
    have hlt : j + 1 < n := by omega
    refine codeAny_builtin F.entry_max_loop ?_
    rw [Around.under_plainId F.plain_max_loop _]
    show wpAny _ A.in1 (seqItems? (.ref S) >>= _) _ _ s
    refine wpAny_bind (wpAny_seqItems hS rfl ?_)
    show wpAny _ A.in1 (tryCatch (pyNext (.ref I)) _ >>= _) _ _ s
    refine wpAny_bind (wpAny_tryCatch (W.item (j + 1) s _ _ hlt hst fun v h' tk hP hst' hk' => ?_))
    have hS' := hk' S _ hSw hS
    show wpAny _ A.in1 (tryCatch (holding [v, v] (richCompare .Gt v vb >>= _)) _ >>= _) _ _ _
    refine wpAny_bind (wpAny_tryCatch (wpAny_holding (wpAny_bind (hcmp (j + 1) (argBest bt j) v vb _ _ _ hP hPb ?_))))
    refine wpAny_bind (wpAny_holding (wpAny_truthy_bool ?_))
    refine wpAny_bind (wpAny_letGo (wpAny_pure ?_))
    cases hb : bt (j + 1) (argBest bt j) with
    | true =>
      simp only [if_true]
      refine wpAny_bind ?_
      refine wpAny_updateSeq hS' rfl (wpAny_bind (wpAny_letGo ?_))
      rw [hname]
      refine wpAny_pure ⟨plainId_quiet F.plain_max_loop _, ih (j + 1) _ v _ (by omega) hlt (W.frame _ _ _ hst' fun b hbf o e => ?_) (by simp only [argBest, hb, if_true]; exact hP) (Heap.get?_update_self _ hS' rfl) fun v' h'' tk'' hP' hk'' => ?_⟩
      · exact (Heap.get?_update_other _ _ (fun h : S = b => hSf (by rw [h]; exact hbf))).trans e
      · exact hR v' h'' tk'' hP' fun b o hbw hbS e => hk'' b o hbw hbS ((Heap.get?_update_other _ _ (Ne.symm hbS)).trans (hk' b o hbw e))
    | false =>
      simp only [Bool.false_eq_true, if_false]
      refine wpAny_bind (wpAny_letGo ?_)
      rw [hname]
      refine wpAny_pure ⟨plainId_quiet F.plain_max_loop _, ih (j + 1) _ vb c (by omega) hlt hst' (by simp only [argBest, hb, Bool.false_eq_true, if_false]; exact hPb) hS' fun v' h'' tk'' hP' hk'' => ?_⟩
      exact hR v' h'' tk'' hP' fun b o hbw hbS e => hk'' b o hbw hbS (hk' b o hbw e)
theorem mx_first (W : Walks prog w A.in1 I fp wr n P St) (bt : Nat → Nat → Bool) (hcmp : CmpOf prog w A.in1 .Gt P bt) (S : Addr) (hSf : S ∉ fp) (hn : 0 < n) {s : Shared} {c : Nat} (hst : St 0 s.heap)
    (hS : s.heap.get? S = some { cls := .type "list", dict := none, data := .seq #[] c, slots := #[] })
    (hR : ∀ v h' tk, P (argBest bt (n - 1)) v → (∀ b o, b ∉ wr → b ≠ S → s.heap.get? b = some o → h'.get? b = some o) → R (.ok (.ret v)) { s with heap := h', toks := tk }) :
    codeAny (model prog w) A (.builtin "max.loop" ⟨[.ref I, .none, .ref S], kw⟩) R s := by
  have hSw : S ∉ wr := fun h => hSf (W.sub _ h)
  have hname : (toString "max" ++ toString ".loop" : String) = "max.loop" := by decide
  refine codeAny_builtin F.entry_max_loop ?_
  rw [Around.under_plainId F.plain_max_loop _]
  show wpAny _ A.in1 (seqItems? (.ref S) >>= _) _ _ s
  refine wpAny_bind (wpAny_seqItems hS rfl ?_)
  show wpAny _ A.in1 (tryCatch (pyNext (.ref I)) _ >>= _) _ _ s
  refine wpAny_bind (wpAny_tryCatch (W.item 0 s _ _ hn hst fun v h' tk hP hst' hk' => ?_))
  have hS' := hk' S _ hSw hS
  show wpAny _ A.in1 (updateSeq S (fun _ => #[v, v]) >>= _) _ _ _
  refine wpAny_bind ?_
  refine wpAny_updateSeq hS' rfl ?_
  rw [hname]
  refine wpAny_pure ⟨plainId_quiet F.plain_max_loop _, mx_loop W bt hcmp S hSf _ 0 _ v _ rfl hn (W.frame _ _ _ hst' fun b hbf o e => ?_) hP (Heap.get?_update_self _ hS' rfl) fun v' h'' tk'' hP' hk'' => ?_⟩
  · exact (Heap.get?_update_other _ _ (fun h : S = b => hSf (by rw [h]; exact hbf))).trans e
  · exact hR v' h'' tk'' hP' fun b o hbw hbS e => hk'' b o hbw hbS ((Heap.get?_update_other _ _ (Ne.symm hbS)).trans (hk' b o hbw e))
/-- nothing to walk: the default -/
theorem mx_none {d : Value} {kn : Str} (W : Walks prog w A.in1 I fp wr 0 P St) (S : Addr) (hSf : S ∉ fp) {s : Shared} {c : Nat} (hst : St 0 s.heap)
    (hS : s.heap.get? S = some { cls := .type "list", dict := none, data := .seq #[] c, slots := #[] })
    (hR : ∀ h' tk, (∀ b o, b ∉ wr → s.heap.get? b = some o → h'.get? b = some o) → R (.ok (.ret d)) { s with heap := h', toks := tk }) :
    codeAny (model prog w) A (.builtin "max.loop" ⟨[.ref I, .none, .ref S], [(kn, d)]⟩) R s := by
  have hSw : S ∉ wr := fun h => hSf (W.sub _ h)
  refine codeAny_builtin F.entry_max_loop ?_
  rw [Around.under_plainId F.plain_max_loop _]
  show wpAny _ A.in1 (seqItems? (.ref S) >>= _) _ _ s
  refine wpAny_bind (wpAny_seqItems hS rfl ?_)
  show wpAny _ A.in1 (tryCatch (pyNext (.ref I)) _ >>= _) _ _ s
  refine wpAny_bind (wpAny_tryCatch (W.done s _ _ hst fun h' tk hk' => ?_))
  exact wpAny_bind (wpAny_rule (wpAny_pure (hR h' tk hk')))
end
section
variable {prog : Program} {w : World} {A : Around} {E : Value → Shared → Prop} {s : Shared}
theorem call_tree_kw {id : String} {b : Builtin} {args : List Value} {kw : List (Str × Value)} {Q : Value → Shared → Prop} (hk : builtinKind id = none) (hp : plainId id = true)
    (hb : entryFor table id = some b) (ha : argsOk id ⟨args, kw⟩)
    (hfin : wpAny (model prog w) A.in1 (b ⟨args, kw⟩) (fun fin s' => match fin with
      | .done f => (match (Except.ok f : Result) with | .ok (.ret v) => Q v s' | .ok _ => False | .error e => E e s')
      | .again c' => c'.quiet = true ∧ codeAny (model prog w) A c' (fun r s' => match r with | .ok (.ret v) => Q v s' | .ok _ => False | .error e => E e s') s') E s) : wpAny (model prog w) A (call (.builtin id) args kw) Q E s := by
  refine wpAny_call (codeAny_call_builtin hp hb ?_)
  simp only [checkBuiltinCall, hk]
  cases hsig : Manifest.signature? id with
  | none => exact wpAny_pure hfin
  | some sig =>
    have ha' : Bind.checkArgs id sig ⟨args, kw⟩ = pure () := by simpa only [argsOk, hsig] using ha
    simp only [ha']
    exact wpAny_pure hfin
theorem mx_args (a d : Value) : argsOk "max" ⟨[a], [(Str.ofString "default", d)]⟩ := by unfold argsOk; kernel_rfl
theorem mx_call {x d : Value} {Q : Value → Shared → Prop}
    (h : wpAny (model prog w) A.in1 (pyIter x) (fun it s₂ => ∃ I fp wr n P St bt, it = .ref I ∧ Walks prog w A.in1 I fp wr n P St ∧ St 0 s₂.heap ∧ (∀ b ∈ fp, b < s₂.heap.objs.size) ∧ CmpOf prog w A.in1 .Gt P bt ∧
      (0 < n → ∀ v h' tk, P (argBest bt (n - 1)) v → (∀ b o, b ∉ wr → s₂.heap.get? b = some o → h'.get? b = some o) → Q v { s₂ with heap := h', toks := tk }) ∧
      (n = 0 → ∀ h' tk, (∀ b o, b ∉ wr → s₂.heap.get? b = some o → h'.get? b = some o) → Q d { s₂ with heap := h', toks := tk })) E s) :
    wpAny (model prog w) A (call (.builtin "max") [x] [(Str.ofString "default", d)]) Q E s := by
  have hname : (toString "max" ++ toString ".loop" : String) = "max.loop" := by decide
  refine call_tree_kw F.kind_max F.plain_max F.entry_max (mx_args _ _) ?_
  show wpAny _ A.in1 (Builtin.Builtins.bindParams "max" ["key", "default"] 0 ⟨[], [(Str.ofString "default", d)]⟩ >>= _) _ _ s
  refine wpAny_bind (wpAny_of_eq (show Builtin.Builtins.bindParams "max" ["key", "default"] 0 ⟨[], [(Str.ofString "default", d)]⟩ = pure [none, some d] from by kernel_rfl) ?_)
  refine wpAny_bind (wpAny_pure ?_)
  refine wpAny_bind (wpAny_mono h (fun it s₂ h₂ => ?_) fun _ _ e => e)
  obtain ⟨I, fp, wr, n, P, St, bt, rfl, W, hst, hfp, hcmp, hQ, hZ⟩ := h₂
  refine wpAny_bind (wpAny_newObj_type ?_)
  have hSf : s₂.heap.objs.size ∉ fp := fun hm => Nat.lt_irrefl _ (hfp _ hm)
  rw [hname]
  cases n with
  | zero =>
    refine wpAny_pure ⟨plainId_quiet F.plain_max_loop _, mx_none W s₂.heap.objs.size hSf (W.frame _ _ _ hst fun b _ o e => Heap.get?_push_of_some _ e) (Heap.get?_push_size _ rfl) fun h' tk hk => ?_⟩
    exact hZ rfl h' tk fun b o hbw e => hk b o hbw (Heap.get?_push_of_some _ e)
  | succ n =>
    refine wpAny_pure ⟨plainId_quiet F.plain_max_loop _, mx_first W bt hcmp s₂.heap.objs.size hSf (Nat.succ_pos _) (W.frame _ _ _ hst fun b _ o e => Heap.get?_push_of_some _ e) (Heap.get?_push_size _ rfl) fun v h' tk hP hk => ?_⟩
    exact hQ (Nat.succ_pos _) v h' tk hP fun b o hbw e => hk b o hbw (Nat.ne_of_lt (Heap.lt_size e)) (Heap.get?_push_of_some _ e)
end
/-- the greatest of some whole numbers, d where there is none -/
def MaxOf (d : Int) (ns : List Int) (m : Int) : Prop := (ns = [] ∧ m = d) ∨ (m ∈ ns ∧ ∀ y, y ∈ ns → y ≤ m)
abbrev rMaxDef (K : PySem.W.Frag) : List V → List V → Hp → VK → Prop := fun vs zs H Q => ∃ (a : Addr) (ns : List Int) (d : Int), vs = [V.ref a] ∧ zs = [V.int d] ∧ SqL K H a (ns.map V.int) ∧ ∀ m, MaxOf d ns m → Q (.int m) H
theorem call_maxDef {X : Cx} (hc : X.calm = true) : CallRK X (.builtin "max") [Str.ofString "default"] (rMaxDef X.K) := by
  intro pins s σ H vs zs us ws Q I r rz h
  obtain ⟨a, ns, d, rfl, rfl, hs, q⟩ := h
  obtain ⟨its, rv, hl, _⟩ := I.list hs
  rw [Vals.ref1 r]
  obtain ⟨u, rfl, t, rfl⟩ := vals1 rz
  have hi := rv.ints
  have hli := hl.isList
  obtain ⟨xs, e⟩ := hi.allInts.items
  have hn : numsOf (intItems xs).toList = ns := by rw [← e]; exact hi.numsOf
  rw [nums_intItems] at hn
  subst hn
  rw [e] at hli
  refine mx_call (iter_intList hli fun s₂ e2 st hfp hlI => ?_)
  subst e2
  refine ⟨_, _, _, _, _, _, _, rfl, Walks.list (A := X.A.in1) (I.ok.hd hc) _ a hlI (intItems xs), st, hfp, CmpOf.ints_gt (numAt xs) (fun _ _ => intItems_at), fun hpos v h' tk hP hk => ?_, fun h0 h' tk hk => ?_⟩
  · have hsz : 0 < xs.size := by simpa [intItems] using hpos
    have hP' : (intItems xs)[argBest (fun i j => decide (numAt xs i > numAt xs j)) (xs.size - 1)]? = some v := by simpa [intItems] using hP
    obtain ⟨t2, rfl⟩ := intItems_at hP'
    obtain ⟨h1, h2⟩ := argBest_gt (numAt xs) (xs.size - 1)
    refine ⟨.int _, H, I.kept (old_kept hk), ⟨_, rfl⟩, q _ (.inr ⟨?_, fun y hy => ?_⟩)⟩
    · rw [numAt_eq]; exact PySem.getD_mem (by rw [List.length_map, Array.length_toList]; omega)
    · obtain ⟨j, hj, rfl⟩ := mem_getD hy
      rw [List.length_map, Array.length_toList] at hj
      rw [← numAt_eq]; exact h2 j (by omega)
  · have hsz : xs.size = 0 := by simpa [intItems] using h0
    refine ⟨.int _, H, I.kept (old_kept hk), ⟨_, rfl⟩, q _ (.inl ⟨?_, rfl⟩)⟩
    rw [List.map_eq_nil_iff]
    exact List.eq_nil_of_length_eq_zero (by rw [Array.length_toList]; exact hsz)
abbrev rShl1 : R2 := fun x y H Q => ∃ k : Nat, x = .int 1 ∧ y = .int (k : Int) ∧ k ≤ 134217727 ∧ Q (.int (2 ^ k)) H
/-! ### how often a text stands in a list -/
def eqsV (k : Str) : Value → Bool
  | .str z _ => z.cps.toList == k.cps.toList
  | _ => false
def rCntS (K : PySem.W.Frag) : V → List V → Hp → VK → Prop := fun x xs H Q => ∃ (p : Addr) (ns : List Str) (k : Str), x = .ref p ∧ xs = [.str k] ∧ SqL K H p (ns.map V.str) ∧ Q (.int ((ns.countP fun z => z.cps.toList == k.cps.toList : Nat) : Int)) H
theorem eqsV_count {k : Str} : ∀ {vs : List Value} {ns : List Str}, StrsAre vs ns → vs.countP (eqsV k) = ns.countP fun z => z.cps.toList == k.cps.toList
  | _, _, .nil => rfl
  | _, _, .cons n t r => by
    rw [List.countP_cons, List.countP_cons, eqsV_count r]
    rfl
theorem mt_lcountS {X : Cx} : MtR X "list.count" (rCntS X.K) := by
  intro pins s σ H x xs v us Q I rx rxs h
  obtain ⟨p, ns, k, rfl, rfl, hs, q⟩ := h
  cases rx
  obtain ⟨u, rfl, ru⟩ := rxs.one
  obtain ⟨t, rfl⟩ := ru
  obtain ⟨its, rv, ⟨⟨cls, dd, data, sl⟩, n, ho, hc, hdn, hd⟩, hlen⟩ := I.list hs
  simp only at hc hd
  subst hc hd
  have hi := rv.strs
  refine call_meets PySem.F.slot_list_count ⟨_, ho, rfl⟩ PySem.F.entry_list_count (PySem.F.args_list_count_2 _ _)
    (SeqAt.list_countAt p its.toArray n dd sl (.str k t) (eqsV k)) ⟨ho, fun y hy => ?_, ?_⟩
  · obtain ⟨z, u, e⟩ := strs_mem hi y (by simpa using hy)
    rw [e]
    exact (SeqRoads2.EqGives.str z k u t).at _ _
  have ec : its.toArray.toList.countP (eqsV k) = ns.countP fun z => z.cps.toList == k.cps.toList := eqsV_count hi
  refine ⟨.int ((ns.countP fun z => z.cps.toList == k.cps.toList : Nat) : Int), H, I.tok _, ⟨s.toks, ?_⟩, q⟩
  show Value.int ((its.toArray.toList.countP (eqsV k) : Nat) : Int) s.toks = Value.int ((ns.countP fun z => z.cps.toList == k.cps.toList : Nat) : Int) s.toks
  rw [ec]
/-! ### the least, the greatest of a list of texts -/
theorem strs_atD : ∀ {us : List Value} {xs : List Str}, StrsAre us xs → ∀ (i : Nat) (v : Value), us[i]? = some v → ∃ t, v = .str (xs.getD i Str.empty) t
  | _, _, .nil, i, v, h => by simp at h
  | _, _, .cons n t hr, 0, v, h => by simp at h; exact ⟨t, by rw [← h] <;> rfl⟩
  | _, _, .cons n t hr, i + 1, v, h => by
    simp only [List.getElem?_cons_succ] at h
    obtain ⟨t', e⟩ := strs_atD hr i v h
    exact ⟨t', by rw [e] <;> rfl⟩
theorem cmpS_gt {prog : Program} {w : World} {A : Around} {P : Nat → Value → Prop} (val : Nat → Str) (hval : ∀ i v, P i v → ∃ t, v = .str (val i) t) :
    CmpOf prog w A .Gt P (fun i j => decide ((val j).cps.toList < (val i).cps.toList)) := fun i j vi vj s Q E hi hj h => by
  obtain ⟨t, rfl⟩ := hval i vi hi
  obtain ⟨u, rfl⟩ := hval j vj hj
  exact richCompare_gives (op := .Gt) (typeIs_str s _ t) (typeIs_str s _ u) PySem.F.slot_str_gt PySem.F.entry_str_gt (PySem.F.args_str_gt_2 _ _) (gives_str_gt _ _ t u) (fun x => nomatch x) h
theorem cmpS_lt {prog : Program} {w : World} {A : Around} {P : Nat → Value → Prop} (val : Nat → Str) (hval : ∀ i v, P i v → ∃ t, v = .str (val i) t) :
    CmpOf prog w A .Lt P (fun i j => decide ((val i).cps.toList < (val j).cps.toList)) := fun i j vi vj s Q E hi hj h => by
  obtain ⟨t, rfl⟩ := hval i vi hi
  obtain ⟨u, rfl⟩ := hval j vj hj
  exact richCompare_gives (op := .Lt) (typeIs_str s _ t) (typeIs_str s _ u) PySem.F.slot_str_lt PySem.F.entry_str_lt (PySem.F.args_str_lt_2 _ _) (gives_str_lt _ _ t u) (fun x => nomatch x) h
theorem bestL_gt (key : Nat → List Nat) : ∀ k, argBest (fun i j => decide (key j < key i)) k ≤ k ∧ ∀ j, j ≤ k → key j ≤ key (argBest (fun i j => decide (key j < key i)) k)
  | 0 => ⟨Nat.le_refl _, fun j hj => by obtain rfl : j = 0 := by omega
                                        exact List.le_refl _⟩
  | k + 1 => by
    obtain ⟨h1, h2⟩ := bestL_gt key k
    simp only [argBest]
    by_cases hc : key (argBest (fun i j => decide (key j < key i)) k) < key (k + 1)
    · rw [if_pos (decide_eq_true hc)]
      refine ⟨Nat.le_refl _, fun j hj => ?_⟩
      rcases Nat.lt_or_ge k j with h | h
      · obtain rfl : j = k + 1 := by omega
        exact List.le_refl _
      · exact List.le_trans (h2 j h) (List.le_of_lt hc)
    · rw [if_neg (by simpa using hc)]
      refine ⟨by omega, fun j hj => ?_⟩
      rcases Nat.lt_or_ge k j with h | h
      · obtain rfl : j = k + 1 := by omega
        exact List.not_lt.mp hc
      · exact h2 j h
theorem bestL_lt (key : Nat → List Nat) : ∀ k, argBest (fun i j => decide (key i < key j)) k ≤ k ∧ ∀ j, j ≤ k → key (argBest (fun i j => decide (key i < key j)) k) ≤ key j
  | 0 => ⟨Nat.le_refl _, fun j hj => by obtain rfl : j = 0 := by omega
                                        exact List.le_refl _⟩
  | k + 1 => by
    obtain ⟨h1, h2⟩ := bestL_lt key k
    simp only [argBest]
    by_cases hc : key (k + 1) < key (argBest (fun i j => decide (key i < key j)) k)
    · rw [if_pos (decide_eq_true hc)]
      refine ⟨Nat.le_refl _, fun j hj => ?_⟩
      rcases Nat.lt_or_ge k j with h | h
      · obtain rfl : j = k + 1 := by omega
        exact List.le_refl _
      · exact List.le_trans (List.le_of_lt hc) (h2 j h)
    · rw [if_neg (by simpa using hc)]
      refine ⟨by omega, fun j hj => ?_⟩
      rcases Nat.lt_or_ge k j with h | h
      · obtain rfl : j = k + 1 := by omega
        exact List.not_lt.mp hc
      · exact h2 j h
theorem iter_anyList {prog : Program} {w : World} {A : Around} {E : Value → Shared → Prop} {s : Shared} {l : Addr} {xs : Array Value} {Q : Value → Shared → Prop} (hl : s.heap.IsList l xs)
    (h : ∀ s₂ : Shared, s₂ = { s with heap := s.heap.push { cls := .type "list_iterator", data := .fields #[.ref l, .int 0 0] } } →
      (s₂.heap.IsListIter s.heap.objs.size l 0 ∧ s₂.heap.IsList l xs) → (∀ b ∈ [s.heap.objs.size, l], b < s₂.heap.objs.size) → l ≠ s.heap.objs.size → Q (.ref s.heap.objs.size) s₂) :
    wpAny (model prog w) A (pyIter (.ref l)) Q E s := by
  have hlt : l < s.heap.objs.size := by obtain ⟨_, e, _⟩ := hl; exact Heap.lt_size e
  refine wpAny_pyIter_list hl (h _ rfl ⟨⟨_, Heap.get?_push_size _ rfl, rfl, rfl⟩, hl.push _⟩ (fun b hb => ?_) (Nat.ne_of_lt hlt))
  show b < (s.heap.push _).objs.size
  rw [Heap.size_push]
  rcases List.mem_cons.mp hb with rfl | hb
  · exact Nat.lt_succ_self _
  · rcases List.mem_cons.mp hb with rfl | hb
    · exact Nat.lt_succ_of_lt hlt
    · cases hb
def rMaxS (K : PySem.W.Frag) : List V → Hp → VK → Prop := fun vs H Q => ∃ (a : Addr) (ns : List Str), vs = [V.ref a] ∧ SqL K H a (ns.map V.str) ∧ 0 < ns.length ∧ ∀ m, m ∈ ns → (∀ y, y ∈ ns → y.cps.toList ≤ m.cps.toList) → Q (.str m) H
def rMinS (K : PySem.W.Frag) : List V → Hp → VK → Prop := fun vs H Q => ∃ (a : Addr) (ns : List Str), vs = [V.ref a] ∧ SqL K H a (ns.map V.str) ∧ 0 < ns.length ∧ ∀ m, m ∈ ns → (∀ y, y ∈ ns → m.cps.toList ≤ y.cps.toList) → Q (.str m) H
theorem cr_maxS {X : Cx} (hc : X.calm = true) : CallR X (.builtin "max") (rMaxS X.K) := by
  intro pins s σ H vs us Q I r h
  obtain ⟨a, ns, rfl, hs, hne, q⟩ := h
  obtain ⟨its, rv, hl, _⟩ := I.list hs
  rw [Vals.ref1 r]
  have hi := rv.strs
  have hli := hl.isList
  have hsz : its.length = ns.length := hi.len_eq
  refine call_max_walk (iter_anyList hli fun s₂ e2 st hfp hlI => ?_)
  subst e2
  refine ⟨_, _, _, _, _, _, _, rfl, Walks.list (A := X.A.in1) (I.ok.hd hc) _ a hlI its.toArray, st, hfp, by rw [List.size_toArray, hsz]; exact hne, cmpS_gt (fun i => ns.getD i Str.empty) (fun i v h => strs_atD hi i v (by simpa using h)), fun v h' tk hP hk => ?_⟩
  obtain ⟨t2, rfl⟩ := strs_atD hi _ v (by rw [List.getElem?_toArray] at hP; exact hP)
  obtain ⟨h1, h2⟩ := bestL_gt (fun i => (ns.getD i Str.empty).cps.toList) (its.toArray.size - 1)
  rw [List.size_toArray, hsz] at h1 h2
  refine ⟨.str _, H, I.kept (old_kept hk), ⟨_, rfl⟩, q _ ?_ fun y hy => ?_⟩
  · rw [List.size_toArray, hsz, List.getD_eq_getElem?_getD, List.getElem?_eq_getElem (by omega)]
    exact List.getElem_mem _
  · obtain ⟨j, hj, rfl⟩ := List.mem_iff_getElem.mp hy
    have e : ns[j] = ns.getD j Str.empty := by rw [List.getD_eq_getElem?_getD, List.getElem?_eq_getElem hj]; rfl
    rw [List.size_toArray, hsz, e]; exact h2 j (by omega)
theorem cr_minS {X : Cx} (hc : X.calm = true) : CallR X (.builtin "min") (rMinS X.K) := by
  intro pins s σ H vs us Q I r h
  obtain ⟨a, ns, rfl, hs, hne, q⟩ := h
  obtain ⟨its, rv, hl, _⟩ := I.list hs
  rw [Vals.ref1 r]
  have hi := rv.strs
  have hli := hl.isList
  have hsz : its.length = ns.length := hi.len_eq
  refine call_min_walk (iter_anyList hli fun s₂ e2 st hfp hlI => ?_)
  subst e2
  refine ⟨_, _, _, _, _, _, _, rfl, Walks.list (A := X.A.in1) (I.ok.hd hc) _ a hlI its.toArray, st, hfp, by rw [List.size_toArray, hsz]; exact hne, cmpS_lt (fun i => ns.getD i Str.empty) (fun i v h => strs_atD hi i v (by simpa using h)), fun v h' tk hP hk => ?_⟩
  obtain ⟨t2, rfl⟩ := strs_atD hi _ v (by rw [List.getElem?_toArray] at hP; exact hP)
  obtain ⟨h1, h2⟩ := bestL_lt (fun i => (ns.getD i Str.empty).cps.toList) (its.toArray.size - 1)
  rw [List.size_toArray, hsz] at h1 h2
  refine ⟨.str _, H, I.kept (old_kept hk), ⟨_, rfl⟩, q _ ?_ fun y hy => ?_⟩
  · rw [List.size_toArray, hsz, List.getD_eq_getElem?_getD, List.getElem?_eq_getElem (by omega)]
    exact List.getElem_mem _
  · obtain ⟨j, hj, rfl⟩ := List.mem_iff_getElem.mp hy
    have e : ns[j] = ns.getD j Str.empty := by rw [List.getD_eq_getElem?_getD, List.getElem?_eq_getElem hj]; rfl
    rw [List.size_toArray, hsz, e]; exact h2 j (by omega)
/-! ### isinstance(e, (A, B, ..)), e the exception that the suite holds -/
def rIsET (K : PySem.W.Frag) (D a : Addr) : List V → Hp → VK → Prop := fun xs H Q => ∃ (tp : Addr) (cs : List V) (ws : List Value) (b : Bool), xs = [.ref a, .ref tp] ∧ H tp = some (.tup cs) ∧ Paired ClsV cs ws ∧ PySem.W.kitAny K (.ref D) ws = some b ∧ Q (.bl b) H
theorem call_isET {X : Cx} {a D : Addr} {oe : Obj} {pn : List (Addr × Obj)} (C : ExcC X.K D) (hz : Zc (.ref D) none oe) (hf : ∃ vs, oe.data = .fields vs) : CallR (X.suite a ((a, oe) :: pn)) (.builtin "isinstance") (rIsET X.K D a) := by
  intro pins s σ H xs us Q I r h
  obtain ⟨tp, cs, ws, b, rfl, hT, k, e, q⟩ := h
  obtain ⟨u1, u2, rfl, r1, r2⟩ := vals2 r
  cases (show u2 = Value.ref tp from r2)
  cases (show u1 = Value.ref a from r1)
  obtain ⟨hget, _⟩ := I.pin (a, oe) (List.mem_append.mpr (.inl List.mem_cons_self))
  obtain ⟨vs, hv⟩ := hf
  have J : PySem.W.InstAt s.heap a oe D none := by
    obtain ⟨oc, od, oda, osl⟩ := oe
    obtain ⟨h1, h2⟩ := hz
    dsimp only at h1 h2 hv
    subst h1 h2 hv
    exact ⟨hget, rfl, rfl, trivial⟩
  obtain ⟨_, its, rv, o, h1, h2, n, h3⟩ := (show ObjOk _ _ H s.heap tp (.tup cs) from I.hok tp _ hT)
  have e3 := ClsV.all k rv
  subst e3
  obtain ⟨oc, od, dt, sl⟩ := o
  simp only at h2 h3
  subst h2 h3
  exact PySem.W.kia_tup (PySem.W.handS_kitx_exc C.hg C.hk C.hs C.hd C.ha C.hn C.ht C.hm) I.kIn J h1 e (fun z => nomatch z) fun tk => ⟨.bl b, H, I.tok tk, rfl, q⟩
/-! ### how often True (False) stands in a list of such -/
def eqbV (k : Bool) : Value → Bool
  | .bool z => z == k
  | _ => false
def rCntB (K : PySem.W.Frag) : V → List V → Hp → VK → Prop := fun x xs H Q => ∃ (p : Addr) (ns : List Bool) (k : Bool), x = .ref p ∧ xs = [.bl k] ∧ SqL K H p (ns.map V.bl) ∧ Q (.int ((ns.countP fun z => z == k : Nat) : Int)) H
theorem eqbV_count {k : Bool} : ∀ ns : List Bool, (ns.map Value.bool).countP (eqbV k) = ns.countP fun z => z == k
  | [] => rfl
  | n :: r => by
    rw [List.map_cons, List.countP_cons, List.countP_cons, eqbV_count r]
    rfl
theorem mt_lcountB {X : Cx} : MtR X "list.count" (rCntB X.K) := by
  intro pins s σ H x xs v us Q I rx rxs h
  obtain ⟨p, ns, k, rfl, rfl, hs, q⟩ := h
  cases rx
  obtain ⟨u, rfl, ru⟩ := rxs.one
  cases (show u = Value.bool k from ru)
  obtain ⟨its, rv, ⟨⟨cls, dd, data, sl⟩, n, ho, hc, hdn, hd⟩, hlen⟩ := I.list hs
  simp only at hc hd
  subst hc hd
  have hi := Vals.bls rv
  subst hi
  refine call_meets PySem.F.slot_list_count ⟨_, ho, rfl⟩ PySem.F.entry_list_count (PySem.F.args_list_count_2 _ _)
    (SeqAt.list_countAt p (ns.map Value.bool).toArray n dd sl (.bool k) (eqbV k)) ⟨ho, fun y hy => ?_, ?_⟩
  · obtain ⟨z, hz, rfl⟩ := List.mem_map.mp (show y ∈ ns.map Value.bool by simpa using hy)
    exact eqAt_V (y := .bl z) (x := .bl k) rfl rfl rfl rfl
  have ec : (ns.map Value.bool).toArray.toList.countP (eqbV k) = ns.countP fun z => z == k := eqbV_count ns
  refine ⟨.int ((ns.countP fun z => z == k : Nat) : Int), H, I.tok _, ⟨s.toks, ?_⟩, q⟩
  show Value.int (((ns.map Value.bool).toArray.toList.countP (eqbV k) : Nat) : Int) s.toks = Value.int ((ns.countP fun z => z == k : Nat) : Int) s.toks
  rw [ec]
abbrev rEndsw : V → List V → Hp → VK → Prop := fun x xs H Q => ∃ a b, x = .str a ∧ xs = [.str b] ∧ Q (.bl (Txt.endswith a b)) H
/-! ### the keys of a dict, sorted -/
theorem risingS_pw : ∀ {r : List Str} {x : Str}, risingS x r = true → (x :: r).Pairwise fun a b => a.cps.toList ≤ b.cps.toList
  | [], _, _ => List.pairwise_singleton _ _
  | y :: r, x, h => by
    have h0 : (!ltCps y.cps.toList x.cps.toList && risingS y r) = true := h
    obtain ⟨h1, h2⟩ := (Bool.and_eq_true _ _).mp h0
    rw [ltCps_eq] at h1
    have hxy : x.cps.toList ≤ y.cps.toList := List.not_lt.mp (by simpa using h1)
    have ih := risingS_pw h2
    refine List.pairwise_cons.mpr ⟨fun z hz => ?_, ih⟩
    rcases List.mem_cons.mp hz with e | e
    · rw [e]; exact hxy
    · exact List.le_trans hxy ((List.pairwise_cons.mp ih).1 z e)
theorem sortedS_pw : ∀ {ys : List Str}, sortedS ys = true → ys.Pairwise fun a b => a.cps.toList ≤ b.cps.toList
  | [], _ => .nil
  | _ :: _, h => risingS_pw h
def rSortedD : List V → Hp → VK → Prop := fun xs H Q => ∃ (a : Addr) (kvs : List (Key × V)) (ks : List Str), xs = [.ref a] ∧ Rd H a (.dK kvs) ∧ kvs.map (·.1) = ks.map Sum.inr ∧ ks.length < 64 ∧
    ∀ (ys : List Str) (p : Addr), ys.Perm ks → (ys.Pairwise fun a b => a.cps.toList ≤ b.cps.toList) → H p = none → Q (.ref p) (upd H p (.lst (ys.map V.str)))
theorem cr_sortedD {X : Cx} (hc : X.calm = true) : CallR X (.builtin "sorted") rSortedD := fun pins s σ H xs us Q I r h =>
  call_sortedD hc pins s σ H xs us Q I r (by
    obtain ⟨a, kvs, ks, h1, h2, h3, h4, q⟩ := h
    exact ⟨a, kvs, ks, h1, h2, h3, h4, fun ys p k1 k2 k3 => q ys p k1 (sortedS_pw k2) k3⟩)
end Sm
/-! SmMath: plain mathematics of marks. -/
namespace Sm
open PySem PySem.Spec PyProof.Rows L2
theorem mulW {i j : Int} (a b : Nat) (h1 : i.natAbs < 2 ^ a) (h2 : j.natAbs < 2 ^ b) (ha : 0 < a := by decide) (hb : 0 < b := by decide) (h : a + b ≤ 1000000 := by decide) : CMulW i j := wide_mul h1 h2 ha hb h
theorem mulW64 {i j : Int} (h1 : -(2 ^ 64) < i ∧ i < 2 ^ 64) (h2 : -(2 ^ 64) < j ∧ j < 2 ^ 64) : CMulW i j := mulW 64 64 (by omega) (by omega)
theorem divW64 {i j : Int} (h1 : 0 < j) (h2 : j < 2 ^ 64) : CDivW i j := wide_div (b := 64) h1 (by omega) (by decide) (by decide)
/-! ### ifs -/
theorem iteD {p A B : Prop} [Decidable p] (h1 : p → A) (h2 : ¬ p → B) : if decide p = true then A else B := by
  by_cases h : p
  · rw [decide_eq_true h]; exact iteT (h1 h)
  · rw [decide_eq_false h]; exact iteF (h2 h)
theorem iteDN {p A B : Prop} [Decidable p] (h1 : ¬ p → A) (h2 : p → B) : if (!decide p) = true then A else B := by
  by_cases h : p
  · rw [decide_eq_true h]; exact iteF (h2 h)
  · rw [decide_eq_false h]; exact iteT (h1 h)
theorem iteEI {x y : Int} {A B : Prop} (h1 : x = y → A) (h2 : ¬ x = y → B) : if decide (V.int x = V.int y) = true then A else B :=
  iteD (fun h => h1 (V.int.inj h)) fun h => h2 fun e => h (by rw [e])
theorem iteNI {x y : Int} {A B : Prop} (h1 : ¬ x = y → A) (h2 : x = y → B) : if (!decide (V.int x = V.int y)) = true then A else B :=
  iteDN (fun h => h1 fun e => h (by rw [e])) fun h => h2 (V.int.inj h)
theorem iteES {x y : Str} {A B : Prop} (h1 : x = y → A) (h2 : ¬ x = y → B) : if decide (V.str x = V.str y) = true then A else B :=
  iteD (fun h => h1 (V.str.inj h)) fun h => h2 fun e => h (by rw [e])
theorem iteNS' {x y : Str} {A B : Prop} (h1 : ¬ x = y → A) (h2 : x = y → B) : if (!decide (V.str x = V.str y)) = true then A else B :=
  iteDN (fun h => h1 fun e => h (by rw [e])) fun h => h2 (V.str.inj h)
theorem sz : sizeLine = 16777216 := sizeLine_eq
/-! ### letters, texts -/
open SX
/-- a text of letters by their numbers -/
def txt (ds : List Nat) : Str := S (ds.map (97 + ·))
abbrev LET : Str := "abcdefghijklmnopqrstuvwxyz"
theorem let_S : LET = txt (List.range 26) := by decide +kernel
theorem txt_len (ds : List Nat) : (txt ds).length = ds.length := by unfold txt; rw [S_len, List.length_map]
theorem txt_inj {a b : List Nat} (h : txt a = txt b) : a = b := by
  have e := S_inj h
  exact List.map_inj_right (fun x y h => by omega) |>.mp e
theorem txt_cat (a b : List Nat) : txt a ++ txt b = txt (a ++ b) := by unfold txt; rw [S_cat, List.map_append]
theorem txt_tl (ds : List Nat) : (txt ds).cps.toList = ds.map (97 + ·) := rfl
theorem txt_nil : txt [] = ("" : Str) := by decide +kernel
theorem let_len : ("abcdefghijklmnopqrstuvwxyz" : Str).length = 26 := by decide +kernel
theorem S_nil : ("" : Str) = S [] := by decide +kernel
theorem S_a : ("a" : Str) = S [97] := by decide +kernel
theorem let_atN {i : Nat} (h : i < 26) : LET.cps.toList[i]? = some (97 + i) := by
  rw [let_S, txt_tl, List.getElem?_map, List.getElem?_range h]; rfl
theorem let_at {j : Int} (h0 : 0 ≤ j) (h : j < 26) : atI LET.cps.toList j = some (97 + j.toNat) := by
  obtain ⟨n, rfl⟩ := Int.eq_ofNat_of_zero_le h0
  exact atI_nat (let_atN (by omega))
theorem join_txt (ds : List Nat) : Txt.join ("" : Str) (ds.map fun d => txt [d]) = txt ds := by
  have e : (ds.map fun d => txt [d]) = ((ds.map fun d => [97 + d]).map S) := by rw [List.map_map]; rfl
  rw [e, show ("" : Str) = S [] by decide +kernel, join_S]
  refine congrArg S ?_
  clear e
  induction ds with
  | nil => rfl
  | cons a r ih =>
    cases r with
    | nil => rfl
    | cons b r =>
      show [97 + a] ++ ([] ++ TL.joinL [] ((b :: r).map fun d => [97 + d])) = _
      rw [ih]; rfl
theorem slice_mid {a : List Nat} {i j : Nat} (h1 : i ≤ j) (h2 : j ≤ a.length) : Txt.slice (S a) (some (i : Int)) (some (j : Int)) = S ((a.drop i).take (j - i)) := by
  have e := beq_iff_eq.mp (PyProof.Rows.slice_closesL (x := S a) (i := (i : Int)) (j := (j : Int)) (by omega) (by omega) (by rw [S_len]; omega))
  refine e.trans ?_
  show S (List.take _ (List.drop _ a)) = _
  rw [Int.toNat_natCast, show ((j : Int) - i).toNat = j - i by omega]
theorem slice_txt {ds : List Nat} {i j : Nat} (h1 : i ≤ j) (h2 : j ≤ ds.length) : Txt.slice (txt ds) (some (i : Int)) (some (j : Int)) = txt ((ds.drop i).take (j - i)) := by
  unfold txt
  rw [slice_mid h1 (by rw [List.length_map]; exact h2), ← List.map_drop, ← List.map_take]
/-! ### order of texts, sorted ones -/
theorem str_ext {x y : Str} (h : x.cps.toList = y.cps.toList) : x = y := by
  obtain ⟨a⟩ := x; obtain ⟨b⟩ := y
  have h' : a.toList = b.toList := h
  rw [Array.toList_inj.mp h']
theorem rising_pw : ∀ {l : List Str} {p : Str}, risingS p l = true → (p :: l).Pairwise fun a b => a.cps.toList ≤ b.cps.toList
  | [], p, _ => List.pairwise_singleton _ _
  | x :: r, p, h => by
    have h' : (!ltCps x.cps.toList p.cps.toList && risingS x r) = true := h
    rw [Bool.and_eq_true, ltCps_eq, Bool.not_eq_true', decide_eq_false_iff_not] at h'
    have ih := rising_pw h'.2
    refine List.pairwise_cons.mpr ⟨fun b hb => ?_, ih⟩
    have px : p.cps.toList ≤ x.cps.toList := h'.1
    rcases List.mem_cons.mp hb with rfl | hb
    · exact px
    · exact List.le_trans px ((List.pairwise_cons.mp ih).1 b hb)
theorem sorted_pw : ∀ {l : List Str}, sortedS l = true → l.Pairwise fun a b => a.cps.toList ≤ b.cps.toList
  | [], _ => List.Pairwise.nil
  | _ :: _, h => rising_pw h
theorem sorted_eq {xs ys : List Str} (hp : ys.Perm xs) (hs : sortedS ys = true) (hx : xs.Pairwise fun a b => a.cps.toList ≤ b.cps.toList) : ys = xs :=
  List.Perm.eq_of_pairwise (le := fun a b => a.cps.toList ≤ b.cps.toList) (fun a b _ _ h1 h2 => str_ext (List.le_antisymm h1 h2)) (sorted_pw hs) hx hp
theorem sorted_eqP {xs ys : List Str} (hp : ys.Perm xs) (hs : ys.Pairwise fun a b => a.cps.toList ≤ b.cps.toList) (hx : xs.Pairwise fun a b => a.cps.toList ≤ b.cps.toList) : ys = xs :=
  List.Perm.eq_of_pairwise (le := fun a b => a.cps.toList ≤ b.cps.toList) (fun a b _ _ h1 h2 => str_ext (List.le_antisymm h1 h2)) hs hx hp
/-! ### two lists of texts compared -/
theorem dpAll_strs {K : PySem.W.Frag} {H : Hp} : ∀ ys : List Str, DpAll K H (ys.map V.str) (ys.map PyData.str)
  | [] => .nil
  | y :: r => .cons (.str y) (dpAll_strs r)
structure Sh (n : Nat) (d : PyData) : Prop where
  lay : d.canLay0 = true
  dep : d.depth ≤ n
theorem Sh.shaped {n : Nat} {d : PyData} (h : Sh n d) (hn : n ≤ 64 := by decide) : SeqAt.shaped d = true := by
  show (d.canLay0 && decide (d.depth ≤ 64)) = true
  rw [h.lay, decide_eq_true (Nat.le_trans h.dep hn)]; rfl
theorem Sh.int {n : Nat} (i : Int) : Sh n (.int i) := ⟨by simp [PyData.canLay0], by simp [PyData.depth]⟩
theorem Sh.bl {n : Nat} (i : Bool) : Sh n (.bool i) := ⟨by simp [PyData.canLay0], by simp [PyData.depth]⟩
theorem Sh.non {n : Nat} : Sh n .none := ⟨by simp [PyData.canLay0], by simp [PyData.depth]⟩
theorem Sh.str {n : Nat} {x : Str} (h : PyData.strOk x = true) : Sh n (.str x) := ⟨by simpa [PyData.canLay0] using h, by simp [PyData.depth]⟩
theorem sh_all {n : Nat} : ∀ {ds : List PyData}, (∀ d ∈ ds, Sh n d) → PyData.canLayAll0 ds = true ∧ PyData.depthAll ds ≤ n
  | [], _ => ⟨by simp [PyData.canLayAll0], by simp [PyData.depthAll]⟩
  | d :: ds, h => by
    obtain ⟨a, b⟩ := sh_all fun x hx => h x (List.mem_cons_of_mem _ hx)
    have c := h d List.mem_cons_self
    exact ⟨by simp [PyData.canLayAll0, a, c.lay], by simp only [PyData.depthAll]; exact Nat.max_le.mpr ⟨c.dep, b⟩⟩
theorem Sh.list {n : Nat} {ds : List PyData} (h : ∀ d ∈ ds, Sh n d) : Sh (n + 1) (.list ds) := by
  obtain ⟨a, b⟩ := sh_all h
  exact ⟨by simpa [PyData.canLay0] using a, by simp only [PyData.depth]; omega⟩
theorem Sh.tup {n : Nat} {ds : List PyData} (h : ∀ d ∈ ds, Sh n d) : Sh (n + 1) (.tuple ds) := by
  obtain ⟨a, b⟩ := sh_all h
  exact ⟨by simpa [PyData.canLay0] using a, by simp only [PyData.depth]; omega⟩
theorem strOk_S {l : List Nat} (h : ∀ c ∈ l, c < 0x110000) : PyData.strOk (S l) = true := by
  show (S l).cps.all (· < 0x110000) = true
  rw [← Array.all_toList]
  exact List.all_eq_true.mpr fun c hc => decide_eq_true (h c hc)
theorem strOk_txt {ds : List Nat} (h : ∀ d ∈ ds, d < 1000) : PyData.strOk (txt ds) = true := strOk_S fun c hc => by
  obtain ⟨d, hd, rfl⟩ := List.mem_map.mp hc
  have := h d hd
  omega
theorem sh_strs {ys : List Str} (h : ∀ y ∈ ys, PyData.strOk y = true) : Sh 1 (.list (ys.map PyData.str)) := Sh.list fun d hd => by
  obtain ⟨y, hy, rfl⟩ := List.mem_map.mp hd
  exact Sh.str (h y hy)
theorem eqvAll_strs : ∀ xs ys : List Str, PyData.eqvAll (xs.map .str) (ys.map .str) = decide (xs = ys)
  | [], [] => by simp [PyData.eqvAll]
  | x :: xs, y :: ys => by
    rw [List.map_cons, List.map_cons, PyData.eqvAll, PyData.eqv, eqvAll_strs xs ys]
    by_cases h : x = y
    · subst h; simp
    · simp [h]
  | [], y :: ys => by simp [PyData.eqvAll]
  | x :: xs, [] => by simp [PyData.eqvAll]
theorem eqv_strs (xs ys : List Str) : PyData.eqv (.list (xs.map .str)) (.list (ys.map .str)) = decide (xs = ys) := by rw [PyData.eqv, eqvAll_strs]
/-! ### an item by its place -/
theorem pick {xs : List V} {e : Int} (P : V → Prop) (h0 : 0 ≤ e) (h1 : e < xs.length) (hP : ∀ x ∈ xs, P x) : ∃ x, atI xs e = some x ∧ P x := by
  obtain ⟨n, rfl⟩ := Int.eq_ofNat_of_zero_le h0
  have hn : n < xs.length := by omega
  exact ⟨xs[n], atI_nat (List.getElem?_eq_getElem hn), hP _ (List.getElem_mem hn)⟩
theorem all1 {α : Type} {P : α → Prop} {x : α} {r : List α} (h : P x) (t : ∀ y ∈ r, P y) : ∀ y ∈ x :: r, P y := fun y hy => by
  rcases List.mem_cons.mp hy with rfl | hy
  · exact h
  · exact t y hy
theorem all0 {α : Type} {P : α → Prop} : ∀ y ∈ ([] : List α), P y := fun _ h => nomatch h
/-! ### the law's own head -/
def sp_law (K : PySem.W.Frag) : Sp := fun vs H Q _ => ∃ (a : Addr) (ns : List Int), vs = [.ref a] ∧ SqL K H a (ns.map V.int) ∧ ns.length ≤ 63 ∧ Only H ∧ ∀ H', Q (.bl true) H'
theorem law_in {K : PySem.W.Frag} {H : Hp} {a : Addr} {ns : List Int} (hO : Only H) (hS : SqL K H a (ns.map V.int)) (hl : ns.length ≤ 63) : sp_law K [.ref a] H (fun v _ => v = .bl true) fun _ _ _ => False :=
  ⟨a, ns, rfl, hS, hl, hO, fun _ => rfl⟩
/-- the letters from b on whose number less 1 has rest d by h -/
def ends (L h d : Nat) : List Nat := ((List.range (L - 1)).filter fun i => i % h == d).map (· + 1)
theorem ends_le (L h d : Nat) : (ends L h d).length ≤ L := by
  unfold ends
  rw [List.length_map]
  exact Nat.le_trans (List.length_filter_le _ _) (by rw [List.length_range]; omega)
theorem filt_step {w d m m2 : Nat} (hd : m % w = d) (h1 : m < m2) (h2 : m2 ≤ m + w) : (List.range m2).filter (fun i => i % w == d) = (List.range m).filter (fun i => i % w == d) ++ [m] := by
  obtain ⟨k, rfl⟩ : ∃ k, m2 = m + 1 + k := ⟨m2 - (m + 1), by omega⟩
  induction k with
  | zero =>
    rw [Nat.add_zero, List.range_succ, List.filter_append, List.filter_cons, if_pos (beq_iff_eq.mpr hd)]; rfl
  | succ k ih =>
    have hne : ¬ ((m + 1 + k) % w == d) = true := fun h => by
      have e : (m + 1 + k) % w = m % w := (beq_iff_eq.mp h).trans hd.symm
      have z := Nat.sub_mod_eq_zero_of_mod_eq e
      rw [show m + 1 + k - m = k + 1 by omega, Nat.mod_eq_of_lt (by omega)] at z
      omega
    rw [show m + 1 + (k + 1) = (m + 1 + k) + 1 by omega, List.range_succ, List.filter_append, ih (by omega) (by omega), List.filter_cons, if_neg hne]
    show _ ++ [] = _
    rw [List.append_nil]
theorem filt_none {w d m : Nat} (h : m ≤ d) (hd : d < w) : (List.range m).filter (fun i => i % w == d) = [] := by
  rw [List.filter_eq_nil_iff]
  intro i hi
  have := List.mem_range.mp hi
  rw [Nat.mod_eq_of_lt (by omega), beq_iff_eq]
  omega
theorem ends_mem {L h d k : Nat} : k ∈ ends L h d ↔ 1 ≤ k ∧ k < L ∧ (k - 1) % h = d := by
  unfold ends
  rw [List.mem_map]
  constructor
  · rintro ⟨i, hi, rfl⟩
    obtain ⟨h1, h2⟩ := List.mem_filter.mp hi
    have := List.mem_range.mp h1
    exact ⟨by omega, by omega, by simpa using h2⟩
  · rintro ⟨h1, h2, h3⟩
    exact ⟨k - 1, List.mem_filter.mpr ⟨List.mem_range.mpr (by omega), by simpa using h3⟩, by omega⟩
theorem ends_ne {L h d : Nat} (h1 : d < h) (h2 : h < L) : ends L h d ≠ [] := fun e => by
  have : d + 1 ∈ ends L h d := ends_mem.mpr ⟨by omega, by omega, by rw [Nat.add_sub_cancel, Nat.mod_eq_of_lt h1]⟩
  rw [e] at this
  cases this
theorem nodup_filter {α : Type} {p : α → Bool} {l : List α} (h : l.Nodup) : (l.filter p).Nodup := List.filter_sublist.nodup h
theorem nodup_map {α β : Type} {f : α → β} (hf : ∀ x y, f x = f y → x = y) {l : List α} (h : l.Nodup) : (l.map f).Nodup :=
  List.Pairwise.map f (fun _ _ n e => n (hf _ _ e)) h
theorem ends_nodup (L h d : Nat) : (ends L h d).Nodup := nodup_map (fun _ _ e => by omega) (nodup_filter List.nodup_range)
/-- the ends of all hands ahead of n -/
def allEnds (L h : Nat) : Nat → List Nat
  | 0 => []
  | n + 1 => allEnds L h n ++ ends L h n
theorem allEnds_mem {L h : Nat} : ∀ {n k : Nat}, k ∈ allEnds L h n ↔ 1 ≤ k ∧ k < L ∧ (k - 1) % h < n
  | 0, k => ⟨fun h => (by cases h), fun h => by omega⟩
  | n + 1, k => by
    show k ∈ allEnds L h n ++ ends L h n ↔ _
    rw [List.mem_append, allEnds_mem, ends_mem]
    omega
theorem allEnds_nodup (L h : Nat) : ∀ n, (allEnds L h n).Nodup
  | 0 => List.nodup_nil
  | n + 1 => List.nodup_append.mpr ⟨allEnds_nodup L h n, ends_nodup L h n, fun a ha b hb e => by
      have h1 := (allEnds_mem.mp ha).2.2
      have h2 := (ends_mem.mp hb).2.2
      rw [← e] at h2
      omega⟩
theorem allEnds_len (L h n : Nat) : (allEnds L h n).length ≤ L - 1 := by
  have h1 := List.Nodup.length_le_of_subset (allEnds_nodup L h n) (l₂ := (List.range (L - 1)).map (· + 1)) fun k hk => by
    have := allEnds_mem.mp hk
    exact List.mem_map.mpr ⟨k - 1, List.mem_range.mpr (by omega), by omega⟩
  rw [List.length_map, List.length_range] at h1
  exact h1
theorem allEnds_perm {L h : Nat} (h0 : 0 < h) : (allEnds L h h).Perm ((List.range (L - 1)).map (· + 1)) := by
  refine (List.perm_ext_iff_of_nodup (allEnds_nodup L h h) (nodup_map (fun _ _ e => by omega) List.nodup_range)).mpr fun k => ?_
  rw [allEnds_mem, List.mem_map]
  constructor
  · rintro ⟨h1, h2, _⟩
    exact ⟨k - 1, List.mem_range.mpr (by omega), by omega⟩
  · rintro ⟨i, hi, rfl⟩
    have := List.mem_range.mp hi
    exact ⟨by omega, by omega, Nat.mod_lt _ h0⟩
theorem chars_txt (ds : List Nat) : chars (txt ds) = ds.map fun d => txt [d] := by
  show (List.map _ (txt ds).cps.toList) = _
  rw [txt_tl, List.map_map]; rfl
theorem letters_from_b (L : Nat) (h : L ≤ 26) (h1 : 1 ≤ L) : Txt.slice LET (some 1) (some (L : Int)) = txt ((List.range (L - 1)).map (· + 1)) := by
  rw [let_S]
  have e := slice_txt (ds := List.range 26) (i := 1) (j := L) h1 (by rw [List.length_range]; exact h)
  refine e.trans (congrArg txt ?_)
  apply List.ext_getElem?
  intro k
  rw [List.getElem?_map, List.getElem?_take, List.getElem?_drop]
  by_cases hk : k < L - 1
  · rw [if_pos hk, List.getElem?_range (show 1 + k < 26 by omega), List.getElem?_range hk]
    show some (1 + k) = some (k + 1)
    rw [Nat.add_comm]
  · rw [if_neg hk, List.getElem?_eq_none (l := List.range (L - 1)) (by rw [List.length_range]; omega)]
    rfl
theorem singles_pw {ds : List Nat} (h : ds.Pairwise (· < ·)) : (ds.map fun d => txt [d]).Pairwise fun a b => a.cps.toList ≤ b.cps.toList := by
  refine List.Pairwise.map _ (fun a b hab => ?_) h
  show [97 + a] ≤ [97 + b]
  exact List.le_of_lt (List.Lex.rel (by omega))
/-! ### marks as texts -/
/-- a sign is one of the first L letters -/
def isLet (L c : Nat) : Bool := decide (97 ≤ c) && decide (c < 97 + L)
/-- a text is a mark -/
def isMk (L : Nat) (l : List Nat) : Bool := !l.isEmpty && (!(l.getLast? == some 97) && l.all (isLet L))
theorem let_take {L : Nat} (h : L ≤ 26) : Txt.slice LET none (some (L : Int)) = txt (List.range L) := by
  rw [let_S]
  unfold txt
  rw [slice_to (by omega), Int.toNat_natCast, ← List.map_take, List.take_range]
  rw [show min L 26 = L by omega]
theorem mem_take {L c : Nat} : decide (c ∈ (txt (List.range L)).cps.toList) = isLet L c := by
  rw [txt_tl, Bool.eq_iff_iff, decide_eq_true_iff, isLet, Bool.and_eq_true, decide_eq_true_iff, decide_eq_true_iff, List.mem_map]
  constructor
  · rintro ⟨d, hd, rfl⟩
    have := List.mem_range.mp hd
    omega
  · rintro ⟨h1, h2⟩
    exact ⟨c - 97, List.mem_range.mpr (by omega), by omega⟩
theorem at_last {α : Type} {l : List α} (h : l ≠ []) : atI l (-1) = some (l.getLast h) := by
  have := atI_last l.dropLast (l.getLast h)
  rw [List.dropLast_concat_getLast] at this
  exact this
theorem at_len1 {α : Type} {l : List α} (h : l ≠ []) {j : Int} (e : j = (l.length : Int) - 1) : atI l j = some (l.getLast h) := by
  have hp : 0 < l.length := List.length_pos_iff.mpr h
  rw [e, show (l.length : Int) - 1 = ((l.length - 1 : Nat) : Int) by omega]
  refine atI_nat ?_
  rw [List.getLast_eq_getElem, List.getElem?_eq_getElem]
theorem S1_inj {c d : Nat} (h : (S [c] : Str) = S [d]) : c = d := by
  have := S_inj h
  simpa using this
theorem at_some {α : Type} {l : List α} {j : Int} (h0 : 0 ≤ j) (h1 : j < l.length) : ∃ c, atI l j = some c := by
  obtain ⟨n, rfl⟩ := Int.eq_ofNat_of_zero_le h0
  exact ⟨l[n]'(by omega), atI_nat (List.getElem?_eq_getElem (by omega))⟩
/-! ### figures, wholes, marks -/
/-- figures, first the lightest -/
def low (L n : Nat) : Nat → List Nat
  | 0 => []
  | k + 1 => low L n k ++ [n / L ^ k % L]
def digs (L n k : Nat) : List Nat := (low L n k).reverse
def trim (ds : List Nat) : List Nat := (ds.reverse.dropWhile (· == 0)).reverse
def markOf (L n k : Nat) : List Nat := trim (digs L n k)
def whole (L : Nat) (ds : List Nat) : Nat → Nat
  | 0 => 0
  | k + 1 => whole L ds k * L + ds.getD k 0
theorem low_len (L n : Nat) : ∀ k, (low L n k).length = k
  | 0 => rfl
  | k + 1 => by show (low L n k ++ _).length = _; rw [List.length_append, low_len L n k]; rfl
theorem low_cons (L n : Nat) : ∀ k, low L n (k + 1) = n % L :: low L (n / L) k
  | 0 => by show [] ++ [n / L ^ 0 % L] = _; rw [Nat.pow_zero, Nat.div_one]; rfl
  | k + 1 => by
    show low L n (k + 1) ++ [n / L ^ (k + 1) % L] = _
    rw [low_cons L n k, Nat.pow_succ, Nat.mul_comm, ← Nat.div_div_eq_div_mul]; rfl
theorem digs_len (L n k : Nat) : (digs L n k).length = k := by unfold digs; rw [List.length_reverse, low_len]
theorem digs_succ (L n k : Nat) : digs L n (k + 1) = digs L (n / L) k ++ [n % L] := by unfold digs; rw [low_cons, List.reverse_cons]
theorem low_lt {L n : Nat} (hL : 0 < L) : ∀ k, ∀ d ∈ low L n k, d < L
  | 0, d, h => nomatch h
  | k + 1, d, h => by
    rcases List.mem_append.mp h with h | h
    · exact low_lt hL k d h
    · rw [List.mem_singleton.mp h]; exact Nat.mod_lt _ hL
theorem digs_lt {L n k : Nat} (hL : 0 < L) : ∀ d ∈ digs L n k, d < L := fun d h => low_lt hL k d (List.mem_reverse.mp h)
theorem trim_snoc0 (ds : List Nat) : trim (ds ++ [0]) = trim ds := by unfold trim; rw [List.reverse_append]; rfl
theorem trim_last {ds : List Nat} (h : ∀ hn : ds ≠ [], ds.getLast hn ≠ 0) : trim ds = ds := by
  rcases List.eq_nil_or_concat ds with rfl | ⟨as, d, rfl⟩
  · rfl
  · have hd : d ≠ 0 := by simpa using h (by simp)
    unfold trim
    rw [List.concat_eq_append, List.reverse_append, List.reverse_singleton, List.singleton_append, List.dropWhile_cons, if_neg (by simpa using hd), List.reverse_cons, List.reverse_reverse]
theorem trim_rep (ds : List Nat) : ∀ m, trim (ds ++ List.replicate m 0) = trim ds
  | 0 => by rw [List.replicate_zero, List.append_nil]
  | m + 1 => by rw [List.replicate_succ', ← List.append_assoc, trim_snoc0, trim_rep ds m]
theorem trim_spec (ds : List Nat) : ∃ m, ds = trim ds ++ List.replicate m 0 := by
  suffices ∀ k (ds : List Nat), ds.length = k → ∃ m, ds = trim ds ++ List.replicate m 0 from this _ ds rfl
  intro k
  induction k with
  | zero => intro ds h; rw [List.length_eq_zero_iff.mp h]; exact ⟨0, rfl⟩
  | succ k ih =>
    intro ds h
    rcases List.eq_nil_or_concat ds with rfl | ⟨as, d, rfl⟩
    · exact ⟨0, rfl⟩
    · rw [List.concat_eq_append] at h ⊢
      by_cases hd : d = 0
      · subst hd
        obtain ⟨m, e⟩ := ih as (by simpa using h)
        refine ⟨m + 1, ?_⟩
        rw [trim_snoc0, List.replicate_succ', ← List.append_assoc, ← e]
      · refine ⟨0, ?_⟩
        rw [trim_last (fun _ => by simpa using hd), List.replicate_zero, List.append_nil]
theorem trim_ok (ds : List Nat) (h : trim ds ≠ []) : (trim ds).getLast h ≠ 0 := by
  intro e
  unfold trim at h e
  rw [List.getLast_reverse] at e
  have := List.head_dropWhile_not (fun x : Nat => x == 0) (l := ds.reverse) (by simpa using h)
  rw [e] at this
  simp at this
theorem trim_sub (ds : List Nat) : ∀ d ∈ trim ds, d ∈ ds := fun d h => by
  obtain ⟨m, e⟩ := trim_spec ds
  rw [e]; exact List.mem_append_left _ h
theorem trim_len (ds : List Nat) : (trim ds).length ≤ ds.length := by
  obtain ⟨m, e⟩ := trim_spec ds
  have := congrArg List.length e
  rw [List.length_append] at this
  omega
theorem getD_rep (ds : List Nat) (m j : Nat) : (ds ++ List.replicate m 0).getD j 0 = ds.getD j 0 := by
  rw [List.getD_eq_getElem?_getD, List.getD_eq_getElem?_getD, List.getElem?_append]
  by_cases h : j < ds.length
  · rw [if_pos h]
  · rw [if_neg h, List.getElem?_eq_none (l := ds) (by omega), List.getElem?_replicate]
    split <;> rfl
theorem trim_getD (ds : List Nat) (j : Nat) : (trim ds).getD j 0 = ds.getD j 0 := by
  obtain ⟨m, e⟩ := trim_spec ds
  conv => rhs; rw [e]
  rw [getD_rep]
theorem whole_congr {L : Nat} {a b : List Nat} : ∀ {k}, (∀ j, j < k → a.getD j 0 = b.getD j 0) → whole L a k = whole L b k
  | 0, _ => rfl
  | k + 1, h => by
    show whole L a k * L + a.getD k 0 = whole L b k * L + b.getD k 0
    rw [whole_congr fun j hj => h j (by omega), h k (by omega)]
theorem whole_trim (L : Nat) (ds : List Nat) (k : Nat) : whole L (trim ds) k = whole L ds k := whole_congr fun j _ => trim_getD ds j
theorem whole_nil (L : Nat) : ∀ k, whole L [] k = 0
  | 0 => rfl
  | k + 1 => by show whole L [] k * L + 0 = 0; rw [whole_nil L k, Nat.zero_mul]
theorem whole_cons (L d : Nat) (ds : List Nat) : ∀ k, whole L (d :: ds) (k + 1) = d * L ^ k + whole L ds k
  | 0 => by show 0 * L + d = d * L ^ 0 + 0; rw [Nat.zero_mul, Nat.pow_zero, Nat.mul_one, Nat.zero_add, Nat.add_zero]
  | k + 1 => by
    show whole L (d :: ds) (k + 1) * L + (d :: ds).getD (k + 1) 0 = d * L ^ (k + 1) + (whole L ds k * L + ds.getD k 0)
    rw [whole_cons L d ds k, Nat.add_mul, Nat.pow_succ, Nat.mul_assoc, Nat.add_assoc]; rfl
theorem getD_lt {L : Nat} (hL : 0 < L) {ds : List Nat} (h : ∀ d ∈ ds, d < L) (j : Nat) : ds.getD j 0 < L := by
  rw [List.getD_eq_getElem?_getD]
  cases e : ds[j]? with
  | none => exact hL
  | some d => exact h d (List.mem_of_getElem? e)
theorem whole_lt {L : Nat} (hL : 0 < L) {ds : List Nat} (h : ∀ d ∈ ds, d < L) : ∀ k, whole L ds k < L ^ k
  | 0 => by show 0 < L ^ 0; rw [Nat.pow_zero]; decide
  | k + 1 => by
    show whole L ds k * L + ds.getD k 0 < L ^ (k + 1)
    have h1 := whole_lt hL h k
    have h2 := getD_lt hL h k
    rw [Nat.pow_succ]
    have := Nat.mul_le_mul_right L (show whole L ds k + 1 ≤ L ^ k from h1)
    rw [Nat.add_mul, Nat.one_mul] at this
    omega
theorem whole_digs {L : Nat} : ∀ (k n : Nat), whole L (digs L n k) k = n % L ^ k
  | 0, n => by rw [Nat.pow_zero, Nat.mod_one]; rfl
  | k + 1, n => by
    show whole L (digs L n (k + 1)) k * L + (digs L n (k + 1)).getD k 0 = _
    have e1 : (digs L n (k + 1)).getD k 0 = n % L := by
      rw [digs_succ, List.getD_eq_getElem?_getD, List.getElem?_append_right (by rw [digs_len]; exact Nat.le_refl _), digs_len, Nat.sub_self]; rfl
    have e2 : whole L (digs L n (k + 1)) k = whole L (digs L (n / L) k) k := whole_congr fun j hj => by
      rw [digs_succ, List.getD_eq_getElem?_getD, List.getD_eq_getElem?_getD, List.getElem?_append_left (by rw [digs_len]; exact hj)]
    rw [e1, e2, whole_digs k (n / L), Nat.pow_succ, Nat.mul_comm (L ^ k) L, Nat.mod_mul, Nat.mul_comm, Nat.add_comm]
theorem whole_mark {L n k : Nat} (h : n < L ^ k) : whole L (markOf L n k) k = n := by
  unfold markOf
  rw [whole_trim, whole_digs, Nat.mod_eq_of_lt h]
/-- the first k figures, none missing -/
def cut (ds : List Nat) (k : Nat) : List Nat := ds.take k ++ List.replicate (k - ds.length) 0
theorem digs_whole {L : Nat} (hL : 0 < L) {ds : List Nat} (h : ∀ d ∈ ds, d < L) : ∀ k, digs L (whole L ds k) k = (List.range k).map fun j => ds.getD j 0
  | 0 => rfl
  | k + 1 => by
    have h2 := getD_lt hL h k
    rw [digs_succ]
    show digs L ((whole L ds k * L + ds.getD k 0) / L) k ++ [(whole L ds k * L + ds.getD k 0) % L] = _
    rw [Nat.mul_comm, Nat.mul_add_div hL, Nat.div_eq_of_lt h2, Nat.add_zero, Nat.mul_add_mod, Nat.mod_eq_of_lt h2, digs_whole hL h k, List.range_succ, List.map_append]; rfl
theorem range_getD {ds : List Nat} {k : Nat} (h : ds.length ≤ k) : ((List.range k).map fun j => ds.getD j 0) = ds ++ List.replicate (k - ds.length) 0 := by
  apply List.ext_getElem?
  intro i
  rw [List.getElem?_map, List.getElem?_append]
  by_cases hi : i < k
  · rw [List.getElem?_range hi]
    show some (ds.getD i 0) = _
    rw [List.getD_eq_getElem?_getD]
    by_cases h2 : i < ds.length
    · rw [if_pos h2, List.getElem?_eq_getElem h2]; rfl
    · rw [if_neg h2, List.getElem?_eq_none (l := ds) (by omega), List.getElem?_replicate, if_pos (by omega)]; rfl
  · rw [List.getElem?_eq_none (l := List.range k) (by rw [List.length_range]; omega), if_neg (by omega), List.getElem?_replicate, if_neg (by omega)]; rfl
/-- a mark or the empty text: the last figure is not 0, all are below L -/
structure Mk0 (L : Nat) (ds : List Nat) : Prop where
  lt : ∀ d ∈ ds, d < L
  last : ∀ h : ds ≠ [], ds.getLast h ≠ 0
theorem mk0_trim {L : Nat} {ds : List Nat} (h : ∀ d ∈ ds, d < L) : Mk0 L (trim ds) := ⟨fun d hd => h d (trim_sub ds d hd), fun z => trim_ok ds z⟩
theorem mk0_markOf {L n k : Nat} (hL : 0 < L) : Mk0 L (markOf L n k) := mk0_trim (digs_lt hL)
theorem markOf_len (L n k : Nat) : (markOf L n k).length ≤ k := Nat.le_trans (trim_len _) (Nat.le_of_eq (digs_len L n k))
theorem mark_whole {L : Nat} (hL : 0 < L) {ds : List Nat} (m : Mk0 L ds) {k : Nat} (h : ds.length ≤ k) : markOf L (whole L ds k) k = ds := by
  unfold markOf
  rw [digs_whole hL m.lt, range_getD h, trim_rep, trim_last m.last]
theorem Mk0.tail {L d : Nat} {ds : List Nat} (m : Mk0 L (d :: ds)) : Mk0 L ds := ⟨fun x hx => m.lt x (List.mem_cons_of_mem _ hx), fun h => by
  have := m.last (List.cons_ne_nil _ _)
  rwa [List.getLast_cons h] at this⟩
theorem whole_pos {L : Nat} (hL : 0 < L) : ∀ {ds : List Nat} {k : Nat}, Mk0 L ds → ds ≠ [] → ds.length ≤ k → 0 < whole L ds k
  | [], _, _, h, _ => absurd rfl h
  | d :: ds, 0, _, _, h => by cases h
  | d :: ds, k + 1, m, _, h => by
    rw [whole_cons]
    by_cases hn : ds = []
    · subst hn
      have hd : d ≠ 0 := by simpa using m.last (by simp)
      have := Nat.mul_pos (Nat.pos_of_ne_zero hd) (Nat.pow_pos (n := k) hL)
      omega
    · have := whole_pos hL m.tail hn (by simpa using h)
      omega
theorem ltG_whole {L : Nat} (hL : 0 < L) : ∀ {a b : List Nat} {k : Nat}, (∀ d ∈ a, d < L) → Mk0 L b → b.length ≤ k → (a < b ↔ whole L a k < whole L b k)
  | [], [], k, _, _, _ => by simp
  | [], e :: b, k, _, mb, hb => by
    have := whole_pos hL mb (by simp) hb
    rw [whole_nil]
    exact ⟨fun _ => this, fun _ => List.nil_lt_cons _ _⟩
  | d :: a, [], k, _, _, _ => by
    rw [whole_nil]
    exact ⟨fun h => absurd h (List.not_lt_nil _), fun h => by omega⟩
  | d :: a, e :: b, 0, _, _, h => by cases h
  | d :: a, e :: b, k + 1, ma, mb, hb => by
    have ma' : ∀ d ∈ a, d < L := fun x hx => ma x (List.mem_cons_of_mem _ hx)
    have ih := ltG_whole hL ma' mb.tail (k := k) (by simpa using hb)
    have h1 := whole_lt hL ma' k
    have h2 := whole_lt hL mb.tail.lt k
    rw [whole_cons, whole_cons, List.cons_lt_cons_iff]
    rcases Nat.lt_trichotomy d e with h | h | h
    · have z : (d + 1) * L ^ k ≤ e * L ^ k := Nat.mul_le_mul_right _ h
      rw [Nat.add_mul, Nat.one_mul] at z
      exact ⟨fun _ => by omega, fun _ => .inl h⟩
    · subst h
      exact ⟨fun z => by
        rcases z with z | ⟨_, z⟩
        · omega
        · have := ih.mp z; omega, fun z => .inr ⟨rfl, ih.mpr (by omega)⟩⟩
    · have z : (e + 1) * L ^ k ≤ d * L ^ k := Nat.mul_le_mul_right _ h
      rw [Nat.add_mul, Nat.one_mul] at z
      exact ⟨fun z2 => by
        rcases z2 with z2 | ⟨z2, _⟩ <;> omega, fun z2 => by omega⟩
theorem lt_whole {L : Nat} (hL : 0 < L) {a b : List Nat} {k : Nat} (ma : Mk0 L a) (mb : Mk0 L b) (ha : a.length ≤ k) (hb : b.length ≤ k) : (a < b ↔ whole L a k < whole L b k) := ltG_whole hL ma.lt mb hb
/-- a longer than k: behind a comes what is of at most k figures -/
theorem ltL_whole {L : Nat} (hL : 0 < L) {a b : List Nat} {k : Nat} (ma : Mk0 L a) (mb : Mk0 L b) (ha : a.length ≤ k) (hb : k < b.length) : (a < b ↔ whole L a k ≤ whole L b k) := by
  have h := ltG_whole hL mb.lt ma ha
  constructor
  · intro z
    refine Nat.not_lt.mp fun z2 => ?_
    exact absurd (h.mpr z2) (List.lt_asymm z)
  · intro z
    have n : ¬ b < a := fun z2 => by have := h.mp z2; omega
    rcases List.le_iff_lt_or_eq.mp (List.not_lt.mp n) with z2 | z2
    · exact z2
    · rw [z2] at ha; omega
theorem whole_inj {L : Nat} (hL : 0 < L) {a b : List Nat} {k : Nat} (ma : Mk0 L a) (mb : Mk0 L b) (ha : a.length ≤ k) (hb : b.length ≤ k) (h : whole L a k = whole L b k) : a = b := by
  rw [← mark_whole hL ma ha, ← mark_whole hL mb hb, h]
theorem map_lt {a b : List Nat} : a.map (97 + ·) < b.map (97 + ·) ↔ a < b := by
  induction a generalizing b with
  | nil => cases b with
    | nil => simp
    | cons e b => exact ⟨fun _ => List.nil_lt_cons _ _, fun _ => List.nil_lt_cons _ _⟩
  | cons d a ih => cases b with
    | nil => exact ⟨fun h => absurd h (List.not_lt_nil _), fun h => absurd h (List.not_lt_nil _)⟩
    | cons e b =>
      rw [List.map_cons, List.map_cons, List.cons_lt_cons_iff, List.cons_lt_cons_iff, ih]
      constructor
      · rintro (h | ⟨h, z⟩)
        · exact .inl (by omega)
        · exact .inr ⟨by omega, z⟩
      · rintro (h | ⟨h, z⟩)
        · exact .inl (by omega)
        · exact .inr ⟨by omega, z⟩
theorem txt_lt (a b : List Nat) : decide ((txt a).cps.toList < (txt b).cps.toList) = decide (a < b) := decide_eq_decide.mpr map_lt
theorem isMk_txt (L : Nat) (ds : List Nat) : isMk L (ds.map (97 + ·)) = (!ds.isEmpty && (!(ds.getLast? == some 0) && ds.all fun d => decide (d < L))) := by
  unfold isMk
  rw [List.isEmpty_map, List.getLast?_map, List.all_map]
  congr 2
  · cases ds.getLast? with
    | none => rfl
    | some d =>
      show (!(some (97 + d) == some 97)) = _
      congr 1
      rw [Bool.eq_iff_iff, beq_iff_eq, beq_iff_eq, Option.some_inj, Option.some_inj]
      omega
  · congr 1
    funext d
    show (decide (97 ≤ 97 + d) && decide (97 + d < 97 + L)) = decide (d < L)
    rw [decide_eq_true (by omega), Bool.true_and]
    exact decide_eq_decide.mpr (by omega)
theorem isMk_mk {L : Nat} {ds : List Nat} (m : Mk0 L ds) (h : ds ≠ []) : isMk L (ds.map (97 + ·)) = true := by
  rw [isMk_txt, List.getLast?_eq_some_getLast h]
  have h1 := m.last h
  have h2 : (ds.all fun d => decide (d < L)) = true := List.all_eq_true.mpr fun d hd => decide_eq_true (m.lt d hd)
  rw [h2]
  cases ds with
  | nil => exact absurd rfl h
  | cons d r =>
    have : (some ((d :: r).getLast h) == some 0) = false := by simpa using h1
    rw [this]; rfl
theorem takeWhile_map {p : Nat → Bool} {f : Nat → Nat} : ∀ l : List Nat, ((l.map f).takeWhile p).length = (l.takeWhile (fun x => p (f x))).length
  | [] => rfl
  | a :: l => by
    rw [List.map_cons, List.takeWhile_cons, List.takeWhile_cons]
    by_cases h : p (f a) = true
    · rw [if_pos h, if_pos h, List.length_cons, List.length_cons, takeWhile_map l]
    · rw [if_neg h, if_neg h]
theorem drop_take_len {p : Nat → Bool} (l : List Nat) : l.dropWhile p = l.drop (l.takeWhile p).length := by
  have e := List.takeWhile_append_dropWhile (p := p) (l := l)
  conv => rhs; arg 2; rw [← e]
  rw [List.drop_left]
theorem trim_take (ds : List Nat) : trim ds = ds.take (ds.length - (ds.reverse.takeWhile (· == 0)).length) := by
  unfold trim
  rw [drop_take_len, List.reverse_drop, List.reverse_reverse, List.length_reverse]
theorem strSub_tl (x : Str) (i j : Nat) : (Builtin.Str.strSub x i j).cps.toList = (x.cps.toList.drop i).take (j - i) := by
  show (x.cps.extract i j).toList = _
  simp [List.extract_eq_take_drop]
theorem rstrip_txt (ds : List Nat) : Txt.rstripChars (txt ds) "a" = txt (trim ds) := by
  refine str_ext ?_
  show (Txt.stripBy _ false true (txt ds)).cps.toList = _
  rw [PyProof.Rows.stripBy_eq, strSub_tl]
  have hc : ∀ c, ("a" : Str).cps.contains c = (c == 97) := fun c => by
    show (#[97] : Array Nat).contains c = _
    rw [Bool.eq_iff_iff]
    simp
  have e : stripHi ("a" : Str).cps.contains true (txt ds) (stripLo ("a" : Str).cps.contains false (txt ds)) = ds.length - (ds.reverse.takeWhile (· == 0)).length := by
    show (txt ds).length - (((txt ds).cps.toList.drop 0).reverse.takeWhile ("a" : Str).cps.contains).length = _
    rw [txt_len, List.drop_zero, txt_tl, ← List.map_reverse, takeWhile_map]
    congr 3
    funext x
    rw [hc, Bool.eq_iff_iff, beq_iff_eq, beq_iff_eq]
    omega
  rw [e, trim_take, txt_tl, txt_tl, List.map_take]
  rfl
theorem sum_singles : ∀ ds : List Nat, ((ds.map fun d => txt [d]).map (·.length)).sum = ds.length
  | [] => rfl
  | d :: ds => by
    rw [List.map_cons, List.map_cons, List.sum_cons, sum_singles ds, txt_len]
    show 1 + ds.length = ds.length + 1
    omega
theorem join_txts {K : PySem.W.Frag} {H : Hp} {p : Addr} {ds : List Nat} {Q : VK} (hS : SqL K H p ((ds.map fun d => txt [d]).map V.str)) (hz : ds.length ≤ 1000000) (q : Q (.str (txt ds)) H) : rJoin K (.str "") [.ref p] H Q :=
  ⟨_, p, _, rfl, rfl, .inl hS, by rw [sum_singles, show (Str.length "") = 0 from rfl]; omega, by rw [join_txt]; exact q⟩
theorem whole_lt26 {L : Nat} (hL : L ≤ 26) {ds : List Nat} (h : ∀ d ∈ ds, d < 26) : ∀ k, whole L ds k < 26 ^ k
  | 0 => by show 0 < 26 ^ 0; decide
  | k + 1 => by
    show whole L ds k * L + ds.getD k 0 < 26 ^ (k + 1)
    have h1 := whole_lt26 hL h k
    have h2 := getD_lt (L := 26) (by decide) h k
    have h3 := Nat.mul_le_mul_left (whole L ds k) hL
    rw [Nat.pow_succ]
    omega
theorem pow26 {k : Nat} (hk : k ≤ 100000) {L : Nat} (hL : L ≤ 26) : L ^ k ≤ 2 ^ 500000 := by
  refine Nat.le_trans (Nat.pow_le_pow_left (show L ≤ 2 ^ 5 by omega) k) ?_
  rw [← Nat.pow_mul]
  exact Nat.pow_le_pow_right (by decide) (by omega)
theorem whole_mulW {L : Nat} (hL : L ≤ 26) {ds : List Nat} (h : ∀ d ∈ ds, d < 26) {k : Nat} (hk : k ≤ 100000) : CMulW (whole L ds k : Int) (L : Int) :=
  mulW 500000 64 (Nat.lt_of_lt_of_le (whole_lt26 hL h k) (pow26 hk (Nat.le_refl _))) (by rw [Int.natAbs_natCast]; omega)
theorem pow_mulW {L : Nat} (hL : L ≤ 26) {k : Nat} (hk : k ≤ 100000) : CMulW ((L ^ k : Nat) : Int) (L : Int) :=
  mulW 500001 64 (Nat.lt_of_le_of_lt (pow26 hk hL) (Nat.pow_lt_pow_right (by decide) (by decide))) (by rw [Int.natAbs_natCast]; omega)
theorem idx_let : ∀ d, d < 26 → Txt.index0 ("abcdefghijklmnopqrstuvwxyz" : Str) ⟨#[97 + d]⟩ = some d := by decide +kernel
theorem txt_at {ds : List Nat} {j : Nat} (h : j < ds.length) : atI (txt ds).cps.toList (j : Int) = some (97 + ds.getD j 0) := by
  refine atI_nat ?_
  rw [txt_tl, List.getElem?_map, List.getElem?_eq_getElem h, List.getD_eq_getElem?_getD, List.getElem?_eq_getElem h]
  rfl
/-- the least long whose wholes pass m -/
structure Long (L m k : Nat) : Prop where
  gt : m < L ^ k
  le : ∀ j, j < k → L ^ j ≤ m
theorem Long.uniq {L m a b : Nat} (x : Long L m a) (y : Long L m b) : a = b := by
  rcases Nat.lt_trichotomy a b with h | h | h
  · have := y.le a h; have := x.gt; omega
  · exact h
  · have := x.le b h; have := y.gt; omega
theorem Long.le_m {L m k : Nat} (x : Long L m k) (hL : 2 ≤ L) : k ≤ m := by
  cases k with
  | zero => exact Nat.zero_le _
  | succ k =>
    have h1 := x.le k (by omega)
    have h2 : k < 2 ^ k := Nat.lt_two_pow_self
    have h3 := Nat.pow_le_pow_left hL k
    omega
/-- the i-th number of a renewal -/
def renN (L m k i : Nat) : Nat := (i + 1) * L ^ k / (m + 1)
def rens (L m k : Nat) : List (List Nat) := (List.range m).map fun i => markOf L (renN L m k i) k
theorem renN_lt {L m k i : Nat} (x : Long L m k) (hi : i < m) : 0 < renN L m k i ∧ renN L m k i < L ^ k := by
  unfold renN
  have h := x.gt
  constructor
  · refine Nat.div_pos ?_ (by omega)
    calc m + 1 ≤ L ^ k := h
      _ = 1 * L ^ k := (Nat.one_mul _).symm
      _ ≤ (i + 1) * L ^ k := Nat.mul_le_mul_right _ (by omega)
  · refine (Nat.div_lt_iff_lt_mul (by omega)).mpr ?_
    rw [Nat.mul_comm (L ^ k)]
    exact Nat.mul_lt_mul_of_pos_right (by omega) (by omega)
theorem renN_mono {L m k i j : Nat} (h : i ≤ j) : renN L m k i ≤ renN L m k j := Nat.div_le_div_right (Nat.mul_le_mul_right _ (by omega))
theorem mark_le {L a b k : Nat} (hL : 0 < L) (ha : a < L ^ k) (hb : b < L ^ k) (h : a ≤ b) : (txt (markOf L a k)).cps.toList ≤ (txt (markOf L b k)).cps.toList := by
  refine List.not_lt.mp fun z => ?_
  have z1 := map_lt.mp z
  have z2 := (lt_whole hL (mk0_markOf (n := b) (k := k) hL) (mk0_markOf (n := a) (k := k) hL) (markOf_len _ _ _) (markOf_len _ _ _)).mp z1
  rw [whole_mark ha, whole_mark hb] at z2
  omega
theorem rens_pw {L m k : Nat} (hL : 0 < L) (x : Long L m k) : ((rens L m k).map txt).Pairwise fun a b => a.cps.toList ≤ b.cps.toList := by
  unfold rens
  rw [List.map_map]
  refine List.pairwise_map.mpr ?_
  refine List.Pairwise.imp_of_mem (R := (· < ·)) (fun {a b} ha hb hab => ?_) List.pairwise_lt_range
  exact mark_le hL (renN_lt x (List.mem_range.mp ha)).2 (renN_lt x (List.mem_range.mp hb)).2 (renN_mono (Nat.le_of_lt hab))
theorem mark_ne {L n k : Nat} (h0 : 0 < n) (h : n < L ^ k) : markOf L n k ≠ [] := fun e => by
  have := whole_mark h
  rw [e, whole_nil] at this
  omega
theorem rens_V (L m k : Nat) : ((List.range m).map fun i => V.str (txt (markOf L (renN L m k i) k))) = ((rens L m k).map txt).map V.str := by
  unfold rens
  rw [List.map_map, List.map_map]
  rfl
theorem rens_ok {L m k : Nat} (hL : 0 < L) (hL2 : L ≤ 26) : ∀ y ∈ (rens L m k).map txt, PyData.strOk y = true := fun y hy => by
  obtain ⟨ds, hds, rfl⟩ := List.mem_map.mp hy
  obtain ⟨i, _, rfl⟩ := List.mem_map.mp hds
  exact strOk_txt fun d hd => by
    have := (mk0_markOf (L := L) (n := renN L m k i) (k := k) hL).lt d hd
    omega
theorem rens_len (L m k : Nat) : (rens L m k).length = m := by unfold rens; rw [List.length_map, List.length_range]
theorem neD_same {K : PySem.W.Frag} {H : Hp} {p q : Addr} {xs : List Str} {Q : VK} (hp : H p = some (.lst (xs.map V.str))) (hq : H q = some (.lst (xs.map V.str))) (hok : ∀ y ∈ xs, PyData.strOk y = true) (h : Q (.bl false) H) : rNeD K (.ref p) (.ref q) H Q :=
  ⟨_, _, .lst (.inl (.inl hp)) (dpAll_strs _), .lst (.inl (.inl hq)) (dpAll_strs _), (sh_strs hok).shaped, (sh_strs hok).shaped, by rw [eqv_strs, decide_eq_true rfl]; exact h⟩
theorem eqD_same {K : PySem.W.Frag} {H : Hp} {p q : Addr} {xs : List Str} {Q : VK} (hp : H p = some (.lst (xs.map V.str))) (hq : H q = some (.lst (xs.map V.str))) (hok : ∀ y ∈ xs, PyData.strOk y = true) (h : Q (.bl true) H) : rEqD K (.ref p) (.ref q) H Q :=
  ⟨_, _, .lst (.inl (.inl hp)) (dpAll_strs _), .lst (.inl (.inl hq)) (dpAll_strs _), (sh_strs hok).shaped, (sh_strs hok).shaped, by rw [eqv_strs, decide_eq_true rfl]; exact h⟩
/-- a whole number from lo to hi -/
def NatIn (lo hi : Nat) (v : V) : Prop := ∃ n : Nat, v = .int n ∧ lo ≤ n ∧ n ≤ hi
theorem natIn {lo hi : Nat} {x : Int} (h0 : (lo : Int) ≤ x) (h1 : x ≤ hi) : NatIn lo hi (.int x) := ⟨x.toNat, by congr 1; omega, by omega, by omega⟩
/-! ### numbers by their last figure -/
def cnt (F : List Nat) (r : Nat) : Nat := (F.filter fun f => decide (f < r)).length
def below (L : Nat) (F : List Nat) (n : Nat) : Nat := n / L * F.length + cnt F (n % L)
def nth (L : Nat) (F : List Nat) (m : Nat) : Nat := m / F.length * L + F.getD (m % F.length) 0
/-- figures of a hand: rising, below L, some -/
structure Figs (L : Nat) (F : List Nat) : Prop where
  lt : ∀ f ∈ F, f < L
  up : F.Pairwise (· < ·)
  ne : F ≠ []
theorem cnt_le (F : List Nat) (r : Nat) : cnt F r ≤ F.length := List.length_filter_le _ _
theorem cnt_all {L : Nat} {F : List Nat} (h : ∀ f ∈ F, f < L) : cnt F L = F.length := by
  unfold cnt
  rw [List.filter_eq_self.mpr fun f hf => decide_eq_true (h f hf)]
theorem cnt_succ {r : Nat} : ∀ {F : List Nat}, F.Pairwise (· < ·) → cnt F (r + 1) = cnt F r + if r ∈ F then 1 else 0
  | [], _ => rfl
  | f :: F, h => by
    have h2 := List.pairwise_cons.mp h
    have ih := cnt_succ (r := r) h2.2
    unfold cnt at ih ⊢
    rw [List.filter_cons, List.filter_cons]
    by_cases e : r = f
    · subst e
      have n : r ∉ F := fun z => by have := h2.1 r z; omega
      rw [if_neg n] at ih
      rw [if_pos (decide_eq_true (by omega)), if_neg (by simp), if_pos List.mem_cons_self, List.length_cons, ih]
    · have e2 : (r ∈ f :: F) = (r ∈ F) := by simp [e]
      simp only [e2]
      by_cases l : f < r
      · rw [if_pos (decide_eq_true (by omega)), if_pos (decide_eq_true l), List.length_cons, List.length_cons, ih]
        omega
      · rw [if_neg (by rw [decide_eq_false (by omega)]; decide), if_neg (by rw [decide_eq_false l]; decide), ih]
theorem getD_cnt {r : Nat} : ∀ {F : List Nat}, F.Pairwise (· < ·) → r ∈ F → cnt F r < F.length ∧ F.getD (cnt F r) 0 = r
  | [], _, h => nomatch h
  | f :: F, h, hr => by
    have h2 := List.pairwise_cons.mp h
    unfold cnt
    rw [List.filter_cons]
    by_cases e : r = f
    · subst e
      have z : F.filter (fun f => decide (f < r)) = [] := List.filter_eq_nil_iff.mpr fun f hf => by
        have := h2.1 f hf
        rw [decide_eq_true_iff]; omega
      rw [if_neg (by simp), z]
      exact ⟨by simp, rfl⟩
    · have hr2 : r ∈ F := by simpa [e] using hr
      have l := h2.1 r hr2
      have ih := getD_cnt h2.2 hr2
      unfold cnt at ih
      rw [if_pos (decide_eq_true l), List.length_cons, List.length_cons]
      exact ⟨by omega, ih.2⟩
theorem below_succ {L : Nat} {F : List Nat} (hF : Figs L F) (hL : 0 < L) (n : Nat) : below L F (n + 1) = below L F n + if n % L ∈ F then 1 else 0 := by
  unfold below
  have h1 := Nat.div_add_mod n L
  have h2 := Nat.mod_lt n hL
  by_cases e : n % L + 1 = L
  · have e1 : (n + 1) / L = n / L + 1 := by
      rw [show n + 1 = L * (n / L + 1) by rw [Nat.mul_add]; omega, Nat.mul_div_cancel_left _ hL]
    have e2 : (n + 1) % L = 0 := by
      rw [show n + 1 = L * (n / L + 1) by rw [Nat.mul_add]; omega, Nat.mul_mod_right]
    have e3 : cnt F 0 = 0 := by
      unfold cnt
      rw [List.filter_eq_nil_iff.mpr fun f _ => by simp]; rfl
    have e4 := cnt_succ (r := n % L) hF.up
    rw [e, cnt_all hF.lt] at e4
    rw [e1, e2, e3, Nat.add_mul, Nat.one_mul, Nat.add_zero, Nat.add_assoc, ← e4]
  · have e1 : (n + 1) / L = n / L := by
      rw [show n + 1 = (n % L + 1) + L * (n / L) by omega, Nat.add_mul_div_left _ _ hL, Nat.div_eq_of_lt (by omega), Nat.zero_add]
    have e2 : (n + 1) % L = n % L + 1 := by
      rw [show n + 1 = (n % L + 1) + L * (n / L) by omega, Nat.add_mul_mod_self_left, Nat.mod_eq_of_lt (by omega)]
    rw [e1, e2, cnt_succ hF.up, Nat.add_assoc]
theorem nth_below {L : Nat} {F : List Nat} (hF : Figs L F) {n : Nat} (h : n % L ∈ F) : nth L F (below L F n) = n := by
  obtain ⟨h1, h2⟩ := getD_cnt hF.up h
  have hp : 0 < F.length := List.length_pos_iff.mpr hF.ne
  unfold nth below
  rw [Nat.mul_comm (n / L), Nat.mul_add_div hp, Nat.div_eq_of_lt h1, Nat.add_zero, Nat.mul_add_mod, Nat.mod_eq_of_lt h1, h2, Nat.mul_comm]
  exact Nat.div_add_mod n L
theorem below_mono {L : Nat} {F : List Nat} (hF : Figs L F) (hL : 0 < L) {m n : Nat} (h : m ≤ n) : below L F m ≤ below L F n := by
  induction h with
  | refl => exact Nat.le_refl _
  | step h ih =>
    rw [below_succ hF hL]
    omega
/-- the numbers from lo to below n whose last figure is one of F -/
theorem nums_list {L : Nat} {F : List Nat} (hF : Figs L F) (hL : 0 < L) (lo : Nat) : ∀ n, (List.range n).filter (fun x => decide (x % L ∈ F) && decide (lo ≤ x)) = (List.range (below L F n - below L F lo)).map fun i => nth L F (below L F lo + i)
  | 0 => by
    have e : below L F 0 = 0 := by
      unfold below cnt
      rw [Nat.zero_div, Nat.zero_mul, Nat.zero_mod, List.filter_eq_nil_iff.mpr fun f _ => by simp]; rfl
    rw [e, Nat.zero_sub]; rfl
  | n + 1 => by
    rw [List.range_succ, List.filter_append, nums_list hF hL lo n, List.filter_cons, List.filter_nil]
    have hs := below_succ hF hL n
    by_cases h2 : lo ≤ n
    · have hm := below_mono hF hL h2
      by_cases h1 : n % L ∈ F
      · rw [if_pos h1] at hs
        rw [if_pos (by rw [decide_eq_true h1, decide_eq_true h2]; rfl), hs, show below L F n + 1 - below L F lo = (below L F n - below L F lo) + 1 by omega, List.range_succ, List.map_append]
        congr 1
        show [n] = [nth L F (below L F lo + (below L F n - below L F lo))]
        rw [show below L F lo + (below L F n - below L F lo) = below L F n by omega, nth_below hF h1]
      · rw [if_neg h1] at hs
        rw [if_neg (by rw [decide_eq_false h1]; simp), hs, List.append_nil]; rfl
    · have hm := below_mono hF hL (show n + 1 ≤ lo by omega)
      have hm2 := below_mono hF hL (show n ≤ lo by omega)
      rw [if_neg (by rw [decide_eq_false h2, Bool.and_false]; decide), List.append_nil, show below L F n - below L F lo = 0 by omega, show below L F (n + 1) - below L F lo = 0 by omega]
theorem figs_ends {L h d : Nat} (h1 : d < h) (h2 : h < L) : Figs L (ends L h d) := by
  refine ⟨fun f hf => (ends_mem.mp hf).2.1, ?_, ends_ne h1 h2⟩
  unfold ends
  exact List.Pairwise.map _ (fun _ _ h => by omega) (List.Pairwise.filter _ List.pairwise_lt_range)
/-! ### what lies between -/
def lowN (L : Nat) (lo : Option (List Nat)) (k : Nat) : Nat := match lo with | none => 1 | some a => whole L a k + 1
/-- one past the last -/
def pastN (L : Nat) (hi : Option (List Nat)) (k : Nat) : Nat := match hi with | none => L ^ k | some b => if b.length ≤ k then whole L b k else whole L b k + 1
def Betw (lo hi : Option (List Nat)) (x : List Nat) : Prop := (∀ a, lo = some a → a < x) ∧ ∀ b, hi = some b → x < b
/-- low, high: marks, low ahead of high -/
structure Ends2 (L : Nat) (lo hi : Option (List Nat)) : Prop where
  lo : ∀ a, lo = some a → Mk0 L a ∧ a ≠ []
  hi : ∀ b, hi = some b → Mk0 L b ∧ b ≠ []
theorem betw_iff {L k : Nat} {lo hi : Option (List Nat)} (hL : 0 < L) (e : Ends2 L lo hi) {x : List Nat} (m : Mk0 L x) (hx : x.length ≤ k) (h0 : x ≠ []) : Betw lo hi x ↔ lowN L lo k ≤ whole L x k ∧ whole L x k < pastN L hi k := by
  refine and_congr ?_ ?_
  · unfold lowN
    cases lo with
    | none => exact ⟨fun _ => whole_pos hL m h0 hx, fun _ a z => nomatch z⟩
    | some a =>
      have := ltG_whole hL (e.lo a rfl).1.lt m hx
      exact ⟨fun z => this.mp (z a rfl), fun z b hb => by cases hb; exact this.mpr z⟩
  · unfold pastN
    cases hi with
    | none => exact ⟨fun _ => whole_lt hL m.lt k, fun _ a z => nomatch z⟩
    | some b =>
      by_cases hb : b.length ≤ k
      · have := ltG_whole hL m.lt (e.hi b rfl).1 hb
        show _ ↔ _ < if b.length ≤ k then _ else _
        rw [if_pos hb]
        exact ⟨fun z => this.mp (z b rfl), fun z c hc => by cases hc; exact this.mpr z⟩
      · have := ltL_whole hL m (e.hi b rfl).1 hx (Nat.lt_of_not_le hb)
        show _ ↔ _ < if b.length ≤ k then _ else _
        rw [if_neg hb]
        exact ⟨fun z => Nat.lt_succ_of_le (this.mp (z b rfl)), fun z c hc => by cases hc; exact this.mpr (Nat.le_of_lt_succ z)⟩
theorem past_le {L k : Nat} {lo hi : Option (List Nat)} (hL : 0 < L) (e : Ends2 L lo hi) : pastN L hi k ≤ L ^ k := by
  unfold pastN
  cases hi with
  | none => exact Nat.le_refl _
  | some b =>
    have := whole_lt hL (e.hi b rfl).1.lt k
    show (if b.length ≤ k then _ else _) ≤ _
    split <;> omega
theorem low_pos (L : Nat) (lo : Option (List Nat)) (k : Nat) : 1 ≤ lowN L lo k := by
  unfold lowN
  cases lo <;> simp
theorem low_le {L k : Nat} {lo hi : Option (List Nat)} (hL : 0 < L) (e : Ends2 L lo hi) : lowN L lo k ≤ L ^ k := by
  unfold lowN
  cases lo with
  | none => exact Nat.pow_pos hL
  | some a => exact whole_lt hL (e.lo a rfl).1.lt k
abbrev natV (n : Nat) : V := .int n
theorem big_mulW {n : Nat} {j : Int} (h : n ≤ 2 ^ 500000) (hj : j.natAbs < 2 ^ 64) : CMulW (n : Int) j :=
  mulW 500001 64 (Nat.lt_of_le_of_lt h (Nat.pow_lt_pow_right (by decide) (by decide))) hj
/-- a text or None -/
def optV : Option (List Nat) → V
  | none => .non
  | some a => .str (txt a)
theorem below_le {L : Nat} {F : List Nat} (hF : Figs L F) (hL : 0 < L) : ∀ n, below L F n ≤ n
  | 0 => by
    unfold below cnt
    rw [Nat.zero_div, Nat.zero_mul, Nat.zero_mod, List.filter_eq_nil_iff.mpr fun f _ => by simp]
    exact Nat.le_refl _
  | n + 1 => by
    have := below_le hF hL n
    rw [below_succ hF hL]
    split <;> omega
theorem big_mulW2 {a b c : Nat} {j : Int} (ha : a ≤ 2 ^ 500000) (hb : b ≤ 2 ^ 500000) (hj : j.natAbs < 2 ^ 64) : CMulW (((a + b) / c : Nat) : Int) j := by
  refine mulW 500002 64 ?_ hj
  have h1 : (2 : Nat) ^ 500000 + 2 ^ 500000 = 2 ^ 500001 := by rw [← Nat.two_mul, ← Nat.pow_succ']
  have h2 : (2 : Nat) ^ 500001 < 2 ^ 500002 := Nat.pow_lt_pow_right (by decide) (by decide)
  have h3 := Nat.div_le_self (a + b) c
  rw [Int.natAbs_natCast]
  omega
theorem abcd_txt : ("abcd" : Str) = txt [0, 1, 2, 3] := by decide +kernel
theorem abcd_at {j : Int} (h0 : 0 ≤ j) (h : j < 4) : atI ("abcd" : Str).cps.toList j = some (97 + j.toNat) := by
  obtain ⟨n, rfl⟩ := Int.eq_ofNat_of_zero_le h0
  refine atI_nat ?_
  have hn : n < 4 := by omega
  match n, hn with
  | 0, _ => rfl
  | 1, _ => rfl
  | 2, _ => rfl
  | 3, _ => rfl
theorem abcd_idx : ∀ d, d < 4 → Txt.index0 ("abcd" : Str) ⟨#[97 + d]⟩ = some d := by decide +kernel
theorem all_snoc {L : Nat} {ds : List Nat} {x : Nat} (h : ∀ d ∈ ds, d < L) (hx : x < L) : ∀ d ∈ ds ++ [x], d < L := fun d hd => by
  rcases List.mem_append.mp hd with hd | hd
  · exact h d hd
  · rw [List.mem_singleton.mp hd]; exact hx
theorem mk0_snoc {L : Nat} {ds : List Nat} {x : Nat} (h : ∀ d ∈ ds, d < L) (hx : x < L) (h0 : x ≠ 0) : Mk0 L (ds ++ [x]) := ⟨all_snoc h hx, fun _ => by simpa using h0⟩
theorem mk0_app {L : Nat} {a b : List Nat} (h : ∀ d ∈ a, d < L) (hb : Mk0 L b) (h0 : b ≠ []) : Mk0 L (a ++ b) := ⟨fun d hd => by
  rcases List.mem_append.mp hd with hd | hd
  · exact h d hd
  · exact hb.lt d hd, fun _ => by rw [List.getLast_append_of_ne_nil _ h0]; exact hb.last h0⟩
theorem slice_txt_to {ds : List Nat} {j : Int} (h : 0 ≤ j) : Txt.slice (txt ds) none (some j) = txt (ds.take j.toNat) := by
  unfold txt
  rw [slice_to h, ← List.map_take]
theorem mul_a {n : Int} : Txt.mul ("a" : Str) n = txt (List.replicate n.toNat 0) := by
  refine str_ext ?_
  refine (mul_one_list 97 n).trans ?_
  rw [txt_tl, List.map_replicate]
/-- all texts of k letters, rising -/
def allT (L k : Nat) : List Str := (List.range (L ^ k)).map fun n => txt (digs L n k)
theorem digs_next {L n i k : Nat} (hi : i < L) : digs L (n * L + i) (k + 1) = digs L n k ++ [i] := by
  rw [digs_succ, Nat.mul_comm n L, Nat.mul_add_div (by omega), Nat.div_eq_of_lt hi, Nat.add_zero, Nat.mul_add_mod, Nat.mod_eq_of_lt hi]
theorem range_mul (L : Nat) : ∀ n, List.range (n * L) = (List.range n).flatMap fun a => (List.range L).map fun i => a * L + i
  | 0 => by rw [Nat.zero_mul]; rfl
  | n + 1 => by
    rw [List.range_succ, List.flatMap_append, ← range_mul L n, Nat.add_mul, Nat.one_mul, List.range_add]
    simp
/-- what is told of the first j texts, made longer by one letter -/
def moreT (L k j i : Nat) : List Str := (List.range (j * L + i)).map fun n => txt (digs L n (k + 1))
theorem moreT_succ {L k j i : Nat} (hi : i < L) : moreT L k j (i + 1) = moreT L k j i ++ [txt (digs L j k ++ [i])] := by
  unfold moreT
  rw [← Nat.add_assoc, List.range_succ, List.map_append, List.map_singleton, digs_next hi]
theorem moreT_turn (L k j : Nat) : moreT L k j L = moreT L k (j + 1) 0 := by
  unfold moreT
  rw [Nat.add_mul, Nat.one_mul]
  rfl
theorem moreT_end (L k : Nat) : moreT L k (L ^ k) 0 = allT L (k + 1) := by
  unfold moreT allT
  rw [Nat.pow_succ]
  rfl
theorem moreT_len (L k j i : Nat) : (moreT L k j i).length = j * L + i := by unfold moreT; rw [List.length_map, List.length_range]
theorem allT_len (L k : Nat) : (allT L k).length = L ^ k := by unfold allT; rw [List.length_map, List.length_range]
theorem allT_get {L k j : Nat} (h : j < L ^ k) : ((allT L k).map V.str).getD j .non = .str (txt (digs L j k)) := by
  unfold allT
  rw [List.getD_eq_getElem?_getD, List.getElem?_map, List.getElem?_map, List.getElem?_range h]; rfl
theorem digs_last {L n k : Nat} : (digs L n (k + 1)).getD k 0 = n % L := by
  rw [digs_succ, List.getD_eq_getElem?_getD, List.getElem?_append_right (by rw [digs_len]; exact Nat.le_refl _), digs_len, Nat.sub_self]; rfl
def lowB (lo : Option (List Nat)) (x : List Nat) : Bool := match lo with | none => true | some a => decide (a < x)
def highB (hi : Option (List Nat)) (x : List Nat) : Bool := match hi with | none => true | some b => decide (x < b)
theorem betwB_iff (lo hi : Option (List Nat)) (x : List Nat) : (lowB lo x && highB hi x) = true ↔ Betw lo hi x := by
  rw [Bool.and_eq_true]
  refine and_congr ?_ ?_
  · cases lo with
    | none => exact ⟨fun _ a z => (nomatch z), fun _ => rfl⟩
    | some a => exact ⟨fun z b hb => by cases hb; exact of_decide_eq_true z, fun z => decide_eq_true (z a rfl)⟩
  · cases hi with
    | none => exact ⟨fun _ a z => (nomatch z), fun _ => rfl⟩
    | some a => exact ⟨fun z b hb => by cases hb; exact of_decide_eq_true z, fun z => decide_eq_true (z a rfl)⟩
theorem filter_lt : ∀ {n m : Nat}, m ≤ n → (List.range n).filter (fun x => decide (x < m)) = List.range m
  | 0, m, h => by rw [Nat.le_zero.mp h]; rfl
  | n + 1, m, h => by
    by_cases e : m = n + 1
    · rw [e]
      exact List.filter_eq_self.mpr fun x hx => decide_eq_true (List.mem_range.mp hx)
    · rw [List.range_succ, List.filter_append, filter_lt (show m ≤ n by omega), List.filter_cons, if_neg (by simp; omega), List.filter_nil, List.append_nil]
theorem mk0_digs {L n k : Nat} (hL : 0 < L) (h0 : n % L ≠ 0) : Mk0 L (digs L n (k + 1)) := ⟨digs_lt hL, fun _ => by
  have : (digs L n (k + 1)).getLast? = some (n % L) := by rw [digs_succ, List.getLast?_concat]
  rw [List.getLast?_eq_some_getLast (by rw [digs_succ]; simp)] at this
  rw [Option.some.inj this]; exact h0⟩
theorem mark_digs {L n k : Nat} (hL : 0 < L) (h0 : n % L ≠ 0) : markOf L n (k + 1) = digs L n (k + 1) := trim_last (mk0_digs hL h0).last
/-- all texts of so many letters that end with a figure of F and lie between -/
theorem between_all {L k : Nat} {F : List Nat} {lo hi : Option (List Nat)} (hL : 0 < L) (hF : Figs L F) (hF0 : 0 ∉ F) (e : Ends2 L lo hi) :
    (List.range (L ^ (k + 1))).filter (fun n => decide (n % L ∈ F) && (lowB lo (digs L n (k + 1)) && highB hi (digs L n (k + 1)))) =
      (List.range (below L F (pastN L hi (k + 1)) - below L F (lowN L lo (k + 1)))).map fun i => nth L F (below L F (lowN L lo (k + 1)) + i) := by
  rw [← nums_list hF hL (lowN L lo (k + 1)) (pastN L hi (k + 1)), ← filter_lt (past_le (k := k + 1) hL e), List.filter_filter]
  refine List.filter_congr fun n hn => ?_
  have hn2 := List.mem_range.mp hn
  by_cases h1 : n % L ∈ F
  · have h0 : n % L ≠ 0 := fun z => hF0 (z ▸ h1)
    have b := betw_iff (k := k + 1) hL e (mk0_digs (k := k) hL h0) (Nat.le_of_eq (digs_len _ _ _)) (by rw [digs_succ]; simp)
    rw [whole_digs, Nat.mod_eq_of_lt hn2] at b
    rw [decide_eq_true h1, Bool.true_and, Bool.true_and, Bool.eq_iff_iff, betwB_iff, b, Bool.and_eq_true, decide_eq_true_iff, decide_eq_true_iff]
  · rw [decide_eq_false h1, Bool.false_and, Bool.false_and, Bool.false_and]
theorem nth_mod {L : Nat} {F : List Nat} (hF : Figs L F) (m : Nat) : nth L F m % L ∈ F := by
  have hp : 0 < F.length := List.length_pos_iff.mpr hF.ne
  have h2 : F.getD (m % F.length) 0 ∈ F := by
    rw [List.getD_eq_getElem?_getD, List.getElem?_eq_getElem (Nat.mod_lt _ hp)]
    exact List.getElem_mem _
  unfold nth
  rw [Nat.mul_comm, Nat.mul_add_mod, Nat.mod_eq_of_lt (hF.lt _ h2)]
  exact h2
theorem ends_0 (L h d : Nat) : 0 ∉ ends L h d := fun z => by have := (ends_mem.mp z).1; omega
theorem below_nth {L : Nat} {F : List Nat} (hF : Figs L F) (hL : 0 < L) (m : Nat) : below L F (nth L F m) = m := by
  have hp : 0 < F.length := List.length_pos_iff.mpr hF.ne
  have hj := Nat.mod_lt m hp
  have hg : F.getD (m % F.length) 0 = F[m % F.length] := by
    rw [List.getD_eq_getElem?_getD, List.getElem?_eq_getElem hj]; rfl
  have hlt : F[m % F.length] < L := hF.lt _ (List.getElem_mem hj)
  have hc : ∀ {F : List Nat} {j : Nat} (h : j < F.length), F.Pairwise (· < ·) → cnt F F[j] = j := by
    intro F
    induction F with
    | nil => intro j h; cases h
    | cons f F ih =>
      intro j h hu
      have h2 := List.pairwise_cons.mp hu
      unfold cnt
      rw [List.filter_cons]
      cases j with
      | zero =>
        rw [if_neg (by simp), List.getElem_cons_zero, List.filter_eq_nil_iff.mpr fun x hx => by
          have := h2.1 x hx
          rw [decide_eq_true_iff]; omega]
        rfl
      | succ j =>
        have hj2 : j < F.length := by simpa using h
        have l : f < F[j] := h2.1 _ (List.getElem_mem hj2)
        rw [List.getElem_cons_succ, if_pos (decide_eq_true l), List.length_cons]
        have := ih hj2 h2.2
        unfold cnt at this
        rw [this]
  unfold below nth
  rw [hg, Nat.mul_comm (m / F.length) L, Nat.mul_add_div hL, Nat.div_eq_of_lt hlt, Nat.add_zero, Nat.mul_add_mod, Nat.mod_eq_of_lt hlt, hc hj hF.up, Nat.mul_comm]
  exact Nat.div_add_mod m F.length
/-- as many as the numbers below n that end with f -/
theorem floor_one {L n f : Nat} (hf : f < L) : ((n : Int) - 1 - f) / (L : Int) + 1 = ((n / L + if f < n % L then 1 else 0 : Nat) : Int) := by
  have h1 := Nat.div_add_mod n L
  have h2 := Nat.mod_lt n (show 0 < L by omega)
  have e : (n : Int) - 1 - f = ((n % L : Nat) : Int) - 1 - f + (L : Int) * ((n / L : Nat) : Int) := by
    have : (n : Int) = (L : Int) * ((n / L : Nat) : Int) + ((n % L : Nat) : Int) := by exact_mod_cast h1.symm
    omega
  rw [e, Int.add_mul_ediv_left _ _ (show (L : Int) ≠ 0 by omega)]
  by_cases c : f < n % L
  · rw [if_pos c, Int.ediv_eq_zero_of_lt (by omega) (by omega)]
    omega
  · rw [if_neg c]
    have : (((n % L : Nat) : Int) - 1 - f) / (L : Int) = -1 := by
      rw [Int.ediv_eq_iff_of_pos (by omega)]
      omega
    rw [this]
    omega
def floorSum (L : Nat) (n : Int) : List Nat → Int
  | [] => 0
  | f :: F => ((n - 1 - f) / (L : Int) + 1) + floorSum L n F
theorem below_sum {L n : Nat} : ∀ {F : List Nat}, (∀ f ∈ F, f < L) → floorSum L n F = (below L F n : Nat)
  | [], _ => by unfold below cnt floorSum; simp
  | f :: F, h => by
    have ih := below_sum (n := n) fun x hx => h x (List.mem_cons_of_mem _ hx)
    show _ + floorSum L n F = _
    rw [ih, floor_one (h f List.mem_cons_self)]
    unfold below cnt
    rw [List.filter_cons, List.length_cons, Nat.mul_add, Nat.mul_one]
    by_cases c : f < n % L
    · rw [if_pos c, if_pos (decide_eq_true c), List.length_cons]; omega
    · rw [if_neg c, if_neg (by rw [decide_eq_false c]; decide)]; omega
/-- the hand's figures up to the i-th -/
def figG (L h d i : Nat) : List Nat := ((List.range (min (d + i * h) (L - 1))).filter fun x => x % h == d).map (· + 1)
theorem figG_0 {L h d : Nat} (hd : d < h) : figG L h d 0 = [] := by
  unfold figG
  rw [Nat.zero_mul, Nat.add_zero, filt_none (Nat.min_le_left _ _) hd]; rfl
theorem figG_succ {L h d i : Nat} (hd : d < h) (hi : d + i * h < L - 1) : figG L h d (i + 1) = figG L h d i ++ [d + i * h + 1] := by
  unfold figG
  have e : d + (i + 1) * h = d + i * h + h := by rw [Nat.add_mul, Nat.one_mul, Nat.add_assoc]
  rw [e, show min (d + i * h) (L - 1) = d + i * h by omega, filt_step (m := d + i * h) (m2 := min (d + i * h + h) (L - 1)) (by rw [Nat.add_mul_mod_self_right, Nat.mod_eq_of_lt hd]) (by omega) (by omega), List.map_append]
  rfl
theorem figG_end {L h d n : Nat} (h1 : L - 1 ≤ d + n * h) : figG L h d n = ends L h d := by
  unfold figG ends
  rw [show min (d + n * h) (L - 1) = L - 1 by omega]
theorem floorSum_snoc (L : Nat) (n : Int) (x : Nat) : ∀ F : List Nat, floorSum L n (F ++ [x]) = floorSum L n F + ((n - 1 - x) / (L : Int) + 1)
  | [] => by show _ + 0 = 0 + _; omega
  | f :: F => by
    show _ + floorSum L n (F ++ [x]) = _ + floorSum L n F + _
    rw [floorSum_snoc L n x F]; omega
/-- there is room at a length beyond both -/
theorem room_ex {L h d k : Nat} {lo hi : Option (List Nat)} (hL : 2 ≤ L) (hd : d < h) (hh : h < L) (e : Ends2 L lo hi) (hr : ∀ a b, lo = some a → hi = some b → a < b) (hlo : ∀ a, lo = some a → a.length ≤ k) (hhi : ∀ b, hi = some b → b.length ≤ k) :
    below L (ends L h d) (lowN L lo (k + 1)) < below L (ends L h d) (pastN L hi (k + 1)) := by
  have hF := figs_ends hd hh
  have step : ∀ a : List Nat, a.length ≤ k → whole L a (k + 1) = whole L a k * L := fun a ha => by
    show whole L a k * L + a.getD k 0 = _
    rw [List.getD_eq_getElem?_getD, List.getElem?_eq_none (by omega)]; rfl
  -- low is one past a multiple of L, high a multiple of L beyond it
  obtain ⟨q, hq⟩ : ∃ q, lowN L lo (k + 1) = q * L + 1 := by
    unfold lowN
    cases lo with
    | none => exact ⟨0, by rw [Nat.zero_mul]⟩
    | some a => exact ⟨whole L a k, by show whole L a (k + 1) + 1 = _; rw [step a (hlo a rfl)]⟩
  obtain ⟨p, hp⟩ : ∃ p, pastN L hi (k + 1) = p * L := by
    unfold pastN
    cases hi with
    | none => exact ⟨L ^ k, Nat.pow_succ ..⟩
    | some b =>
      have hb := hhi b rfl
      exact ⟨whole L b k, by show (if b.length ≤ k + 1 then _ else _) = _; rw [if_pos (by omega), step b hb]⟩
  have hlt : lowN L lo (k + 1) ≤ pastN L hi (k + 1) := by
    unfold lowN pastN
    cases lo with
    | none =>
      cases hi with
      | none => exact Nat.pow_pos (by omega)
      | some b =>
        have hb := hhi b rfl
        show 1 ≤ if b.length ≤ k + 1 then _ else _
        rw [if_pos (by omega)]
        exact whole_pos (by omega) (e.hi b rfl).1 (e.hi b rfl).2 (by omega)
    | some a =>
      cases hi with
      | none => exact whole_lt (by omega) (e.lo a rfl).1.lt _
      | some b =>
        have hb := hhi b rfl
        show whole L a (k + 1) + 1 ≤ if b.length ≤ k + 1 then _ else _
        rw [if_pos (by omega)]
        exact (ltG_whole (by omega) (e.lo a rfl).1.lt (e.hi b rfl).1 (by omega)).mp (hr a b rfl rfl)
  rw [hq, hp] at hlt ⊢
  have hqp : q + 1 ≤ p := by
    refine Nat.not_lt.mp fun z => ?_
    have := Nat.mul_le_mul_right L (show p ≤ q by omega)
    omega
  have h1 : below L (ends L h d) (q * L + 1) = q * (ends L h d).length := by
    unfold below cnt
    rw [Nat.mul_comm q L, Nat.mul_add_div (by omega), Nat.div_eq_of_lt (by omega), Nat.mul_add_mod, Nat.mod_eq_of_lt (show 1 < L by omega), Nat.add_zero, List.filter_eq_nil_iff.mpr fun f hf => by
      have := (ends_mem.mp hf).1
      rw [decide_eq_true_iff]; omega]
    rfl
  have h2 : below L (ends L h d) (p * L) = p * (ends L h d).length := by
    unfold below cnt
    rw [Nat.mul_div_cancel _ (by omega), Nat.mul_mod_left, List.filter_eq_nil_iff.mpr fun f _ => by simp]
    rfl
  have h3 : 0 < (ends L h d).length := List.length_pos_iff.mpr hF.ne
  rw [h1, h2]
  exact Nat.mul_lt_mul_of_pos_right (by omega) h3
theorem rgC_small {a b c : Nat} (hc : 0 < c) (hc2 : c ≤ 1000) (h : a < b) (hb : b ≤ 1000) : RgC (a : Int) (b : Int) (c : Int) ((b - a - 1) / c + 1) := by
  have e : Builtin.Range.rangeSize (a : Int) (b : Int) (c : Int) = (((b - a - 1) / c + 1 : Nat) : Int) := by
    unfold Builtin.Range.rangeSize
    rw [if_pos (show (c : Int) > 0 by omega), if_pos (show (a : Int) < b by omega), show (b : Int) - a - 1 = ((b - a - 1 : Nat) : Int) by omega]
    rfl
  have h2 : (b - a - 1) / c ≤ b := Nat.le_trans (Nat.div_le_self _ _) (by omega)
  have h3 : (b - a - 1) / c * c ≤ b - a - 1 := Nat.div_mul_le_self _ _
  refine ⟨by omega, by omega, ?_, e⟩
  unfold Builtin.Range.small
  rw [e]
  simp only [Builtin.Range.rangeFitsLong, Bool.and_eq_true, Bool.or_eq_true, decide_eq_true_eq, beq_iff_eq, show (c : Int) > 0 by omega, if_true]
  generalize (b - a - 1) / c = t at *
  omega
theorem idx_take : ∀ L, L < 27 → ∀ d, d < L → Txt.index0 (txt (List.range L)) ⟨#[97 + d]⟩ = some d := by decide +kernel
theorem take_at {L : Nat} {j : Int} (h0 : 0 ≤ j) (h : j < L) : atI (txt (List.range L)).cps.toList j = some (97 + j.toNat) := by
  obtain ⟨n, rfl⟩ := Int.eq_ofNat_of_zero_le h0
  refine atI_nat ?_
  rw [txt_tl, List.getElem?_map, List.getElem?_range (by omega)]; rfl
theorem rep_lt {L n : Nat} (hL : 0 < L) : ∀ d ∈ List.replicate n 0, d < L := fun d hd => by rw [(List.mem_replicate.mp hd).2]; exact hL
theorem app_lt {L : Nat} {a b : List Nat} (ha : ∀ d ∈ a, d < L) (hb : ∀ d ∈ b, d < L) : ∀ d ∈ a ++ b, d < L := fun d hd => by
  rcases List.mem_append.mp hd with hd | hd
  · exact ha d hd
  · exact hb d hd
theorem take_lt {L n : Nat} {a : List Nat} (ha : ∀ d ∈ a, d < L) : ∀ d ∈ a.take n, d < L := fun d hd => ha d (List.mem_of_mem_take hd)
/-- what is less in its first k figures comes ahead -/
theorem trunc_lt {L : Nat} (hL : 0 < L) : ∀ {a b : List Nat} {k : Nat}, (∀ d ∈ a, d < L) → (∀ d ∈ b, d < L) → whole L a k < whole L b k → a < b
  | a, b, 0, _, _, h => absurd h (by show ¬ 0 < 0; omega)
  | [], [], k + 1, _, _, h => by rw [whole_nil] at h; omega
  | [], e :: b, k + 1, _, _, _ => List.nil_lt_cons _ _
  | d :: a, [], k + 1, _, _, h => by rw [whole_nil] at h; omega
  | d :: a, e :: b, k + 1, ha, hb, h => by
    have ha' : ∀ d ∈ a, d < L := fun x hx => ha x (List.mem_cons_of_mem _ hx)
    have hb' : ∀ d ∈ b, d < L := fun x hx => hb x (List.mem_cons_of_mem _ hx)
    rw [whole_cons, whole_cons] at h
    have h1 := whole_lt hL ha' k
    have h2 := whole_lt hL hb' k
    rw [List.cons_lt_cons_iff]
    rcases Nat.lt_trichotomy d e with z | z | z
    · exact .inl z
    · subst z
      exact .inr ⟨rfl, trunc_lt hL ha' hb' (Nat.lt_of_add_lt_add_left h)⟩
    · have y : (e + 1) * L ^ k ≤ d * L ^ k := Nat.mul_le_mul_right _ z
      rw [Nat.add_mul, Nat.one_mul] at y
      exact absurd h (by omega)
theorem whole_pad {L k : Nat} {a : List Nat} (ha : a.length ≤ k) : ∀ j, whole L a (k + j) = whole L a k * L ^ j
  | 0 => by rw [Nat.pow_zero, Nat.mul_one]; rfl
  | j + 1 => by
    show whole L a (k + j) * L + a.getD (k + j) 0 = _
    rw [whole_pad ha j, List.getD_eq_getElem?_getD, List.getElem?_eq_none (by omega), Nat.pow_succ, Nat.mul_assoc]; rfl
/-- so much room at a length well beyond both -/
theorem room_exN {L h d k j : Nat} {lo hi : Option (List Nat)} (hL : 2 ≤ L) (hd : d < h) (hh : h < L) (e : Ends2 L lo hi) (hr : ∀ a b, lo = some a → hi = some b → a < b) (hlo : ∀ a, lo = some a → a.length ≤ k) (hhi : ∀ b, hi = some b → b.length ≤ k) :
    below L (ends L h d) (lowN L lo (k + (j + 1))) + 2 ^ j ≤ below L (ends L h d) (pastN L hi (k + (j + 1))) := by
  have hF := figs_ends hd hh
  obtain ⟨q, hq, hq2⟩ : ∃ q, lowN L lo (k + (j + 1)) = q * L ^ (j + 1) + 1 ∧ ∀ p, (hi = none → p = L ^ k) → (∀ b, hi = some b → p = whole L b k) → q < p := by
    cases lo with
    | none =>
      refine ⟨0, by unfold lowN; rw [Nat.zero_mul], fun p h1 h2 => ?_⟩
      cases hi with
      | none => rw [h1 rfl]; exact Nat.pow_pos (by omega)
      | some b => rw [h2 b rfl]; exact whole_pos (by omega) (e.hi b rfl).1 (e.hi b rfl).2 (hhi b rfl)
    | some a =>
      refine ⟨whole L a k, by show whole L a (k + (j + 1)) + 1 = _; rw [whole_pad (hlo a rfl)], fun p h1 h2 => ?_⟩
      cases hi with
      | none => rw [h1 rfl]; exact whole_lt (by omega) (e.lo a rfl).1.lt _
      | some b => rw [h2 b rfl]; exact (ltG_whole (by omega) (e.lo a rfl).1.lt (e.hi b rfl).1 (hhi b rfl)).mp (hr a b rfl rfl)
  obtain ⟨p, hp, hqp⟩ : ∃ p, pastN L hi (k + (j + 1)) = p * L ^ (j + 1) ∧ q < p := by
    cases hi with
    | none => exact ⟨L ^ k, Nat.pow_add .., hq2 _ (fun _ => rfl) fun b z => (nomatch z)⟩
    | some b =>
      have hb := hhi b rfl
      exact ⟨whole L b k, by show (if b.length ≤ k + (j + 1) then _ else _) = _; rw [if_pos (by omega), whole_pad hb], hq2 _ (fun z => (nomatch z)) fun b' z => by cases z; rfl⟩
  rw [hq, hp]
  have eq1 : q * L ^ (j + 1) + 1 = L * (q * L ^ j) + 1 := by rw [Nat.pow_succ, ← Nat.mul_assoc, Nat.mul_comm]
  have eq2 : p * L ^ (j + 1) = (p * L ^ j) * L := by rw [Nat.pow_succ, Nat.mul_assoc]
  rw [eq1, eq2]
  have h1 : below L (ends L h d) (L * (q * L ^ j) + 1) = q * L ^ j * (ends L h d).length := by
    unfold below cnt
    rw [Nat.mul_add_div (by omega), Nat.div_eq_of_lt (by omega), Nat.mul_add_mod, Nat.mod_eq_of_lt (show 1 < L by omega), Nat.add_zero, List.filter_eq_nil_iff.mpr fun f hf => by
      have := (ends_mem.mp hf).1
      rw [decide_eq_true_iff]; omega]
    rfl
  have h2 : below L (ends L h d) (p * L ^ j * L) = p * L ^ j * (ends L h d).length := by
    unfold below cnt
    rw [Nat.mul_div_cancel _ (by omega), Nat.mul_mod_left, List.filter_eq_nil_iff.mpr fun f _ => by simp]
    rfl
  have h3 : 1 ≤ (ends L h d).length := List.length_pos_iff.mpr hF.ne
  rw [h1, h2]
  have h4 : 2 ^ j ≤ L ^ j := Nat.pow_le_pow_left hL j
  have h5 : (q + 1) * L ^ j * (ends L h d).length ≤ p * L ^ j * (ends L h d).length := Nat.mul_le_mul_right _ (Nat.mul_le_mul_right _ hqp)
  rw [Nat.add_mul, Nat.one_mul, Nat.add_mul] at h5
  have h6 : L ^ j * 1 ≤ L ^ j * (ends L h d).length := Nat.mul_le_mul_left _ h3
  omega
theorem figG_map {L h d : Nat} (hd : d < h) : ∀ i, (∀ j, j < i → d + j * h < L - 1) → figG L h d i = (List.range i).map fun j => d + j * h + 1
  | 0, _ => figG_0 hd
  | i + 1, hi => by
    rw [figG_succ hd (hi i (by omega)), figG_map hd i fun j hj => hi j (by omega), List.range_succ, List.map_append]; rfl
theorem rngL_ends {L h d : Nat} (hd : d < h) (hh : h < L) : rngL (1 + (d : Int)) (h : Int) ((L - (1 + d) - 1) / h + 1) = (ends L h d).map natV := by
  have hmul : (L - (1 + d) - 1) / h * h ≤ L - (1 + d) - 1 := Nat.div_mul_le_self _ _
  have hmod := Nat.div_add_mod (L - (1 + d) - 1) h
  have hml := Nat.mod_lt (L - (1 + d) - 1) (show 0 < h by omega)
  rw [Nat.mul_comm] at hmod
  generalize (L - (1 + d) - 1) / h = n at *
  have hend : L - 1 ≤ d + (n + 1) * h := by
    rw [Nat.add_mul, Nat.one_mul]; omega
  rw [← figG_end hend, figG_map hd (n + 1) fun j hj => by
    have := Nat.mul_le_mul_right h (show j ≤ n by omega)
    omega]
  unfold rngL
  rw [List.map_map]
  refine List.map_congr_left fun j _ => ?_
  show V.int _ = V.int ((d + j * h + 1 : Nat) : Int)
  congr 1
  rw [Int.natCast_add, Int.natCast_add, Int.natCast_mul]; omega
/-! ### lists of one's own -/
theorem sqL_ex {K : PySem.W.Frag} {H H' : Hp} {a : Addr} {xs : List V} (h : SqL K H a xs) (e : Ex H H') : SqL K H' a xs := by
  rcases h with h | h
  · rcases h with h | ⟨ob, h⟩
    · exact .inl (.inl (e _ _ h))
    · exact .inl (.inr ⟨ob, e _ _ h⟩)
  · exact .inr h
/-- behind H0 there are lists qs, no two at one place, that hold cs -/
structure Box (H0 H : Hp) (qs : List Addr) (cs : List (List V)) : Prop where
  nd : qs.Nodup
  fresh : ∀ q ∈ qs, H0 q = none
  at_ : ∀ (i : Nat) (q : Addr) (c : List V), qs[i]? = some q → cs[i]? = some c → H q = some (.lst c)
  ex : Ex H0 H
  clo : Clo H
theorem Box.nil {H : Hp} (c : Clo H) : Box H H [] [] := ⟨.nil, fun _ h => (nomatch h), fun _ _ _ h => (by simp at h), Ex.refl H, c⟩
theorem Box.ext {H0 H H' : Hp} {qs : List Addr} {cs : List (List V)} (b : Box H0 H qs cs) (e : Ex H H') (c : Clo H') : Box H0 H' qs cs := ⟨b.nd, b.fresh, fun i q x h1 h2 => e _ _ (b.at_ i q x h1 h2), b.ex.trans e, c⟩
theorem Box.new {H0 H : Hp} {qs : List Addr} {cs : List (List V)} {p : Addr} {o : HO} (b : Box H0 H qs cs) (hp : H p = none) (ho : plainO o = true) : Box H0 (upd H p o) qs cs := b.ext (Ex.new (Ex.refl H) hp) (clo_new b.clo hp ho)
/-- a further list -/
theorem Box.add {H0 H H' : Hp} {qs : List Addr} {cs : List (List V)} {p : Addr} {c : List V} (b : Box H0 H qs cs) (hl : qs.length = cs.length) (hp : H p = none) (e : Ex H H') (h : H' p = some (.lst c)) (hc : Clo H') : Box H0 H' (qs ++ [p]) (cs ++ [c]) := by
  have n0 : ∀ q ∈ qs, q ≠ p := fun q hq e => by
    obtain ⟨i, hi, rfl⟩ := List.mem_iff_getElem.mp hq
    have := b.at_ i _ _ (List.getElem?_eq_getElem hi) (List.getElem?_eq_getElem (by omega))
    rw [e, hp] at this
    cases this
  refine ⟨List.nodup_append.mpr ⟨b.nd, by simp, fun x hx y hy => by rw [List.mem_singleton.mp hy]; exact n0 x hx⟩, fun q hq => ?_, fun i q x h1 h2 => ?_, b.ex.trans e, hc⟩
  · rcases List.mem_append.mp hq with z | z
    · exact b.fresh q z
    · rw [List.mem_singleton.mp z]; exact Ex.back b.ex hp
  · by_cases hi : i < qs.length
    · rw [List.getElem?_append_left hi] at h1
      rw [List.getElem?_append_left (by omega)] at h2
      exact e _ _ (b.at_ i q x h1 h2)
    · rw [List.getElem?_append_right (by omega)] at h1
      rw [List.getElem?_append_right (by omega)] at h2
      have hi2 : i - qs.length = 0 := by
        obtain ⟨z, _⟩ := List.getElem?_eq_some_iff.mp h1
        simpa using z
      rw [hi2] at h1
      rw [show i - cs.length = 0 by omega] at h2
      cases h1
      cases h2
      exact h
theorem Box.ne {H0 H : Hp} {qs : List Addr} {cs : List (List V)} {p q : Addr} (b : Box H0 H qs cs) (i j : Nat) (hij : i ≠ j) (hi : qs[i]? = some p) (hj : qs[j]? = some q) : p ≠ q := fun e => by
  obtain ⟨h1, e1⟩ := List.getElem?_eq_some_iff.mp hi
  obtain ⟨h2, e2⟩ := List.getElem?_eq_some_iff.mp hj
  rcases Nat.lt_or_gt_of_ne hij with z | z
  · exact List.pairwise_iff_getElem.mp b.nd i j h1 h2 z (by rw [e1, e2, e])
  · exact List.pairwise_iff_getElem.mp b.nd j i h2 h1 z (by rw [e1, e2, e])
theorem Box.set {H0 H : Hp} {qs : List Addr} {cs : List (List V)} {p : Addr} {c x : List V} (b : Box H0 H qs cs) (i : Nat) (hi : qs[i]? = some p) (hc : cs[i]? = some c) : Box H0 (upd H p (.lst x)) qs (cs.set i x) := by
  have hp := b.at_ i p c hi hc
  refine ⟨b.nd, b.fresh, fun j q y h1 h2 => ?_, fun a o e => ?_, clo_set b.clo (fun z e => by rw [hp] at e; cases e) rfl⟩
  · by_cases hj : i = j
    · subst hj
      rw [hi] at h1
      cases h1
      rw [List.getElem?_set_self (List.getElem?_eq_some_iff.mp hc).1] at h2
      cases h2
      exact upd_same
    · rw [List.getElem?_set_ne hj] at h2
      rw [upd_ne (b.ne j i (Ne.symm hj) h1 hi)]
      exact b.at_ j q y h1 h2
  · rw [upd_ne (fun z => by
      have := b.fresh p (List.mem_of_getElem? hi)
      rw [z, this] at e; cases e)]
    exact b.ex a o e
theorem Box.sq {K : PySem.W.Frag} {H0 H : Hp} {qs : List Addr} {cs : List (List V)} {p : Addr} {c : List V} (b : Box H0 H qs cs) (i : Nat) (hi : qs[i]? = some p) (hc : cs[i]? = some c) : SqL K H p c := .inl (.inl (b.at_ i p c hi hc))
theorem Box.kp {H0 H : Hp} {qs : List Addr} {cs : List (List V)} {p : Addr} {c : List V} {o : HO} (b : Box H0 H qs cs) (i : Nat) (hi : qs[i]? = some p) (hc : cs[i]? = some c) (ho : plainO o = true) : Kp H (upd H p o) := Kp.set b.clo (b.at_ i p c hi hc) ho
/-- a comprehension whose turns tell some P -/
theorem lc_ex {J : It} {n : Nat} {G : Hp → Prop} {f : Nat → V} (w : Walk J n G (YFn f)) {g : TG} {te : TE} {vs : List Nat} {σ : L2.St} {H1 : Hp} {D : Addr} {Qd : Hp → Prop} (P : V → Prop) (hn : n ≤ 1000000)
    (hG : ∀ acc, G (upd H1 D (.lst acc)))
    (turn : ∀ i acc, i < n → acc.length = i → ∀ N : Hp → Prop, (∀ y, P y → N (upd H1 D (.lst (acc ++ [y])))) →
      g (f i) (wipe σ vs) (upd H1 D (.lst acc)) fun σ2 H2 => wipe σ2 vs = wipe σ vs ∧ te σ2 H2 fun y H4 => ∃ acc, H4 D = some (.lst acc) ∧ acc.length < sizeLine ∧ N (upd H4 D (.lst (acc ++ [y]))))
    (hgm : ∀ x σ0 H0 (Q Q' : L2.St → Hp → Prop), (∀ s h, Q s h → Q' s h) → g x σ0 H0 Q → g x σ0 H0 Q')
    (hq : ∀ acc : List V, acc.length = n → (∀ y ∈ acc, P y) → Qd (upd H1 D (.lst acc))) :
    ∃ W : Nat → Nat → Hp → Prop, (∃ m, W 0 m (upd H1 D (.lst []))) ∧ ∀ i m H, W i m H →
      (J.stop i H ∧ Qd H) ∨ (J.go i H ∧ ∃ Nx : Hp → Prop, (∀ H', Nx H' → ∃ m', m' < m ∧ W (i + 1) m' H') ∧ ∀ x H', J.yld i H x H' → g x (wipe σ vs) H' fun σ2 H2 => wipe σ2 vs = wipe σ vs ∧ tYes σ2 H2 fun b H3 =>
        if b = true then te σ2 H3 fun y H4 => ∃ acc, H4 D = some (.lst acc) ∧ acc.length < sizeLine ∧ Nx (upd H4 D (.lst (acc ++ [y]))) else Nx H3) := by
  refine lc_it w (fun i H => ∃ acc : List V, acc.length = i ∧ (∀ y ∈ acc, P y) ∧ H = upd H1 D (.lst acc)) ⟨[], rfl, fun _ h => (nomatch h), rfl⟩ (fun i H _ h => by obtain ⟨acc, _, _, e⟩ := h; rw [e]; exact hG _) ?_ (fun H h => by
    obtain ⟨acc, h1, h2, rfl⟩ := h
    exact hq acc h1 h2)
  rintro i x H H' hi ⟨acc, hl, hP, rfl⟩ ⟨rfl, rfl⟩
  refine hgm _ _ _ _ _ (fun s h z => ?_) (turn i acc hi hl (fun H => ∃ acc : List V, acc.length = i + 1 ∧ (∀ y ∈ acc, P y) ∧ H = upd H1 D (.lst acc)) fun y hy => ⟨acc ++ [y], by rw [List.length_append, hl]; rfl, fun z hz => ?_, rfl⟩)
  · exact ⟨z.1, z.2⟩
  · rcases List.mem_append.mp hz with hz | hz
    · exact hP z hz
    · rw [List.mem_singleton.mp hz]; exact hy
theorem join_codes (cs : List Nat) : Txt.join ("" : Str) (cs.map fun c => S [c]) = S cs := by
  have e : (cs.map fun c => S [c]) = ((cs.map fun c => [c]).map S) := by rw [List.map_map]; rfl
  rw [e, show ("" : Str) = S [] by decide +kernel, join_S]
  refine congrArg S ?_
  clear e
  induction cs with
  | nil => rfl
  | cons a r ih =>
    cases r with
    | nil => rfl
    | cons b r =>
      show [a] ++ ([] ++ TL.joinL [] ((b :: r).map fun d => [d])) = _
      rw [ih]; rfl
theorem sum_codes : ∀ cs : List Nat, ((cs.map fun c => S [c]).map (·.length)).sum = cs.length
  | [] => rfl
  | d :: ds => by
    rw [List.map_cons, List.map_cons, List.sum_cons, sum_codes ds, S_len]
    show 1 + ds.length = ds.length + 1
    omega
theorem codes_ex {P : Nat → Prop} : ∀ acc : List V, (∀ y ∈ acc, ∃ c, P c ∧ y = .str (S [c])) → ∃ cs : List Nat, cs.length = acc.length ∧ (∀ c ∈ cs, P c) ∧ acc = (cs.map fun c => S [c]).map V.str
  | [], _ => ⟨[], rfl, fun _ h => (nomatch h), rfl⟩
  | y :: r, h => by
    obtain ⟨c, hc, rfl⟩ := h y List.mem_cons_self
    obtain ⟨cs, h1, h2, h3⟩ := codes_ex r fun z hz => h z (List.mem_cons_of_mem _ hz)
    exact ⟨c :: cs, by simp [h1], all1 hc h2, by rw [h3]; rfl⟩
theorem Box.notin {H0 H : Hp} {qs : List Addr} {cs : List (List V)} {p : Addr} (b : Box H0 H qs cs) (hl : qs.length = cs.length) (hp : H p = none) : ∀ q ∈ qs, q ≠ p := fun q hq e => by
  obtain ⟨i, hi, rfl⟩ := List.mem_iff_getElem.mp hq
  have := b.at_ i _ _ (List.getElem?_eq_getElem hi) (List.getElem?_eq_getElem (by omega))
  rw [e, hp] at this
  cases this
theorem Box.put {H0 H : Hp} {qs : List Addr} {cs : List (List V)} {p : Addr} {c : List V} (b : Box H0 H qs cs) (hl : qs.length = cs.length) (n : ∀ q ∈ qs, q ≠ p) (h0 : H0 p = none) (h : H p = some (.lst c)) : Box H0 H (qs ++ [p]) (cs ++ [c]) := by
  refine ⟨List.nodup_append.mpr ⟨b.nd, by simp, fun x hx y hy => by rw [List.mem_singleton.mp hy]; exact n x hx⟩, fun q hq => ?_, fun i q x h1 h2 => ?_, b.ex, b.clo⟩
  · rcases List.mem_append.mp hq with z | z
    · exact b.fresh q z
    · rw [List.mem_singleton.mp z]; exact h0
  · by_cases hi : i < qs.length
    · rw [List.getElem?_append_left hi] at h1
      rw [List.getElem?_append_left (by omega)] at h2
      exact b.at_ i q x h1 h2
    · rw [List.getElem?_append_right (by omega)] at h1
      rw [List.getElem?_append_right (by omega)] at h2
      have hi2 : i - qs.length = 0 := by
        obtain ⟨z, _⟩ := List.getElem?_eq_some_iff.mp h1
        simpa using z
      rw [hi2] at h1
      rw [show i - cs.length = 0 by omega] at h2
      cases h1
      cases h2
      exact h
/-- two further lists -/
theorem Box.add2 {H0 H H' : Hp} {qs : List Addr} {cs : List (List V)} {p r : Addr} {c d : List V} (b : Box H0 H qs cs) (hl : qs.length = cs.length) (hp : H p = none) (hr : H r = none) (ne : p ≠ r) (e : Ex H H') (h : H' p = some (.lst c)) (h2 : H' r = some (.lst d)) (hc : Clo H') : Box H0 H' (qs ++ [p] ++ [r]) (cs ++ [c] ++ [d]) := by
  have b1 := (b.ext e hc).put hl (b.notin hl hp) (b.ex.back hp) h
  refine b1.put (by rw [List.length_append, List.length_append, hl]; rfl) (fun q hq => ?_) (b.ex.back hr) h2
  rcases List.mem_append.mp hq with z | z
  · exact b.notin hl hr q z
  · rw [List.mem_singleton.mp z]; exact ne
theorem clo_made {H : Hp} {x dx C : Addr} (c : Clo H) (hx : H x = none) (hd : H dx = none) (ne : dx ≠ x) : Clo (upd (upd H dx (.own x)) x (.ins C dx [])) := by
  refine clo_upd (clo_upd c hd trivial) (by rw [upd_ne ne.symm]; exact hx) ?_
  show upd (upd H dx (.own x)) x (.ins C dx []) dx = some (.own x)
  rw [upd_ne ne]
  exact upd_same
theorem ex_made {H : Hp} {x dx C : Addr} (hx : H x = none) (hd : H dx = none) : Ex H (upd (upd H dx (.own x)) x (.ins C dx [])) := Ex.new (Ex.new (Ex.refl H) hd) hx
/-- an object of one's own is changed -/
theorem Box.keep {H0 H H' : Hp} {qs : List Addr} {cs : List (List V)} {p C dx : Addr} {fs : List (Str × V)} (b : Box H0 H qs cs) (h0 : H0 p = none) (hp : H p = some (.ins C dx fs)) (k : ∀ a o, a ≠ p → H a = some o → H' a = some o) (c : Clo H') : Box H0 H' qs cs :=
  ⟨b.nd, b.fresh, fun i q x h1 h2 => k _ _ (fun e => by have := b.at_ i q x h1 h2; rw [e, hp] at this; cases this) (b.at_ i q x h1 h2), fun a o e => k _ _ (fun z => by rw [z, h0] at e; cases e) (b.ex a o e), c⟩
/-- another list in the place of the i-th -/
theorem Box.swap {H0 H : Hp} {qs : List Addr} {cs : List (List V)} {p : Addr} {x : List V} (b : Box H0 H qs cs) (i : Nat) (n : ∀ q ∈ qs, q ≠ p) (h0 : H0 p = none) (h : H p = some (.lst x)) : Box H0 H (qs.set i p) (cs.set i x) := by
  refine ⟨?_, fun q hq => ?_, fun j q y h1 h2 => ?_, b.ex, b.clo⟩
  · refine List.pairwise_iff_getElem.mpr fun a c ha hc hac => ?_
    rw [List.length_set] at ha hc
    rw [List.getElem_set, List.getElem_set]
    by_cases e1 : i = a
    · rw [if_pos e1, if_neg (by omega)]
      exact Ne.symm (n _ (List.getElem_mem hc))
    · rw [if_neg e1]
      by_cases e2 : i = c
      · rw [if_pos e2]; exact n _ (List.getElem_mem ha)
      · rw [if_neg e2]; exact List.pairwise_iff_getElem.mp b.nd a c ha hc hac
  · rcases List.mem_or_eq_of_mem_set hq with z | z
    · exact b.fresh q z
    · rw [z]; exact h0
  · by_cases e : i = j
    · subst e
      rw [List.getElem?_set] at h1 h2
      simp only [if_true] at h1 h2
      split at h1
      · split at h2
        · cases h1; cases h2; exact h
        · cases h2
      · cases h1
    · rw [List.getElem?_set_ne e] at h1 h2
      exact b.at_ j q y h1 h2
theorem eraseIdx_mapL {α β : Type} (f : α → β) : ∀ (l : List α) (n : Nat), (l.map f).eraseIdx n = (l.eraseIdx n).map f
  | [], _ => rfl
  | _ :: _, 0 => rfl
  | x :: l, n + 1 => by
    rw [List.map_cons, List.eraseIdx_cons_succ, List.eraseIdx_cons_succ, List.map_cons, eraseIdx_mapL f l n]
/-- an attribute of p is another, new lists may have come -/
theorem clo_fld {H H' : Hp} {p dx C C' : Addr} {fs fs' : List (Str × V)} (c : Clo H) (hp : H p = some (.ins C dx fs)) (hdp : dx ≠ p) (hdx : H dx = some (.own p)) (hp2 : H' p = some (.ins C' dx fs')) (k : ∀ a o, a ≠ p → H a = some o → H' a = some o)
    (n : ∀ a o, a ≠ p → H' a = some o → H a = some o ∨ plainO o = true) : Clo H' := fun a o e => by
  by_cases ha : a = p
  · rw [ha, hp2] at e
    cases e
    rw [ha]
    exact k dx _ hdp hdx
  · rcases n a o ha e with z | z
    · have y := c a o z
      clear e z
      induction o with
      | dT _ => exact y
      | ins C dx' fs =>
        have z' : H dx' = some (.own a) := y
        exact k dx' _ (fun w => by rw [w, hp] at z'; cases z') z'
      | frz ob v ih => exact ih y
      | _ => trivial
    · exact okO_plain z
theorem kp_fld {H H' : Hp} {p dx C : Addr} {fs : List (Str × V)} (c : Clo H') (hp : H p = some (.ins C dx fs)) (k : ∀ a o, a ≠ p → H a = some o → H' a = some o) : Kp H H' := by
  refine ⟨fun _ _ h => h, fun a xs e => ?_, fun a o u e => ?_, fun a ps e => ⟨#[], ?_⟩, c⟩
  · exact k a _ (fun y => by rw [y, hp] at e; cases e) e
  · exact k a _ (fun y => by rw [y, hp] at e; cases e) e
  · rw [k a _ (fun y => by rw [y, hp] at e; cases e) e, Array.append_empty]
theorem Box.pre {H0 H : Hp} {qs rs : List Addr} {cs ds : List (List V)} (hl : qs.length = cs.length) (b : Box H0 H (qs ++ rs) (cs ++ ds)) : Box H0 H qs cs :=
  ⟨(List.nodup_append.mp b.nd).1, fun q hq => b.fresh q (List.mem_append_left _ hq), fun i q c h1 h2 => by
    have a1 := (List.getElem?_eq_some_iff.mp h1).1
    refine b.at_ i q c ?_ ?_
    · rw [List.getElem?_append_left a1]; exact h1
    · rw [List.getElem?_append_left (by omega)]; exact h2, b.ex, b.clo⟩
theorem indices_last {n : Nat} (h : 1 ≤ n) : Builtin.Str.strSliceIndices none (some (-1)) 1 n = Builtin.Str.strSliceIndices none (some ((n : Int) - 1)) 1 n := by
  have h0 : ¬ (n : Int) - 1 < 0 := by omega
  have h1 : (-1 : Int) < 0 := by decide
  have h2 : (1 : Int) > 0 := by decide
  simp only [Builtin.Str.strSliceIndices, h0, h1, h2, if_false, if_true, show (-1 : Int) + (n : Int) = (n : Int) - 1 by omega]
theorem slice_cut1 {ds : List Nat} (h : 1 ≤ ds.length) : Txt.slice (txt ds) none (some (-1)) = txt (ds.take (ds.length - 1)) := by
  have e2 : Txt.slice (txt ds) none (some (-1)) = Txt.slice (txt ds) none (some ((ds.length : Int) - 1)) := by
    unfold Txt.slice
    rw [txt_len, indices_last h]
  rw [e2]
  unfold txt
  rw [slice_to (by omega), show ((ds.length : Int) - 1).toNat = ds.length - 1 by omega, ← List.map_take]
/-! ### lists of tuples -/
abbrev refs (qs : List Addr) : List V := qs.map V.ref
theorem refs_len (qs : List Addr) : (refs qs).length = qs.length := List.length_map _
structure TupsAt (H : Hp) (qs : List Addr) (rs : List (List V)) : Prop where
  len : qs.length = rs.length
  at_ : ∀ (i : Nat) (q : Addr) (r : List V), qs[i]? = some q → rs[i]? = some r → H q = some (.tup r)
theorem TupsAt.nil (H : Hp) : TupsAt H [] [] := ⟨rfl, fun _ _ _ h => by simp at h⟩
theorem TupsAt.kp {H H' : Hp} {qs : List Addr} {rs : List (List V)} (t : TupsAt H qs rs) (k : Kp H H') : TupsAt H' qs rs := ⟨t.len, fun i q r a b => k.tup q r (t.at_ i q r a b)⟩
theorem TupsAt.ex {H H' : Hp} {qs : List Addr} {rs : List (List V)} (t : TupsAt H qs rs) (e : Ex H H') : TupsAt H' qs rs := ⟨t.len, fun i q r a b => e q _ (t.at_ i q r a b)⟩
theorem TupsAt.snoc {H : Hp} {qs : List Addr} {rs : List (List V)} {q : Addr} {r : List V} (t : TupsAt H qs rs) (h : H q = some (.tup r)) : TupsAt H (qs ++ [q]) (rs ++ [r]) := by
  refine ⟨by rw [List.length_append, List.length_append, t.len]; rfl, fun i a b h1 h2 => ?_⟩
  by_cases c : i < qs.length
  · rw [List.getElem?_append_left c] at h1
    rw [List.getElem?_append_left (by rw [← t.len]; exact c)] at h2
    exact t.at_ i a b h1 h2
  · rw [List.getElem?_append_right (by omega)] at h1
    rw [List.getElem?_append_right (by rw [← t.len]; omega), ← t.len] at h2
    cases hj : i - qs.length with
    | zero =>
      rw [hj] at h1 h2
      cases h1
      cases h2
      exact h
    | succ j => rw [hj] at h1; simp at h1
theorem TupsAt.cons {H : Hp} {q : Addr} {qs : List Addr} {r : List V} {rs : List (List V)} (t : TupsAt H (q :: qs) (r :: rs)) : H q = some (.tup r) ∧ TupsAt H qs rs :=
  ⟨t.at_ 0 q r rfl rfl, ⟨by have := t.len; simpa using this, fun i a b h1 h2 => t.at_ (i + 1) a b (by simpa using h1) (by simpa using h2)⟩⟩
theorem TupsAt.get {H : Hp} {qs : List Addr} {rs : List (List V)} (t : TupsAt H qs rs) {i : Nat} (h : i < rs.length) : ∃ q, (refs qs).getD i .non = .ref q ∧ H q = some (.tup rs[i]) := by
  have h2 : i < qs.length := by rw [t.len]; exact h
  refine ⟨qs[i], ?_, t.at_ i _ _ (List.getElem?_eq_getElem h2) (List.getElem?_eq_getElem h)⟩
  rw [List.getD_eq_getElem?_getD, List.getElem?_map, List.getElem?_eq_getElem h2]; rfl
theorem tup_sq {K : PySem.W.Frag} {H : Hp} {q : Addr} {r : List V} (h : H q = some (.tup r)) : SqT K H q r := .inl (.inl h)
def optD : Option (List Nat) → PyData
  | none => .none
  | some x => .str (txt x)
abbrev Row := List Nat × Option (List Nat)
def rowV (r : Row) : List V := [.str (txt r.1), optV r.2]
def rowD (r : Row) : List PyData := [.str (txt r.1), optD r.2]
abbrev Known := List Nat × Bool
def knV (r : Known) : List V := [.str (txt r.1), .bl r.2]
def knD (r : Known) : List PyData := [.str (txt r.1), .bool r.2]
section
variable {K : PySem.W.Frag} {H : Hp}
theorem dp_opt : ∀ o : Option (List Nat), Dp K H (optV o) (optD o)
  | none => .non
  | some x => .str (txt x)
theorem dp_row (r : Row) : DpAll K H (rowV r) (rowD r) := .cons (.str _) (.cons (dp_opt _) .nil)
theorem dp_kn (r : Known) : DpAll K H (knV r) (knD r) := .cons (.str _) (.cons (.bl _) .nil)
theorem dpAll_tups {α : Type} {f : α → List V} {g : α → List PyData} (hfg : ∀ x, DpAll K H (f x) (g x)) : ∀ {qs : List Addr} {rs : List α}, TupsAt H qs (rs.map f) → DpAll K H (refs qs) (rs.map fun x => .tuple (g x))
  | [], [], _ => .nil
  | [], _ :: _, t => nomatch t.len
  | _ :: _, [], t => nomatch t.len
  | q :: qs, r :: rs, t => by
    obtain ⟨h1, h2⟩ := t.cons
    exact .cons (.tup (tup_sq h1) (hfg r)) (dpAll_tups hfg h2)
theorem eqvAll_self : ∀ {ds : List PyData}, (∀ d ∈ ds, PyData.eqv d d = true) → PyData.eqvAll ds ds = true
  | [], _ => by simp [PyData.eqvAll]
  | d :: ds, h => by rw [PyData.eqvAll, h d List.mem_cons_self, eqvAll_self fun x hx => h x (List.mem_cons_of_mem _ hx)]; rfl
theorem eqv_tup {ds : List PyData} (h : ∀ d ∈ ds, PyData.eqv d d = true) : PyData.eqv (.tuple ds) (.tuple ds) = true := by rw [PyData.eqv]; exact eqvAll_self h
theorem eqv_list {ds : List PyData} (h : ∀ d ∈ ds, PyData.eqv d d = true) : PyData.eqv (.list ds) (.list ds) = true := by rw [PyData.eqv]; exact eqvAll_self h
theorem eqv_str (x : Str) : PyData.eqv (.str x) (.str x) = true := by simp [PyData.eqv]
theorem eqv_bool (x : Bool) : PyData.eqv (.bool x) (.bool x) = true := by simp [PyData.eqv]
theorem eqv_none : PyData.eqv .none .none = true := by simp [PyData.eqv]
theorem eqv_opt : ∀ o : Option (List Nat), PyData.eqv (optD o) (optD o) = true
  | none => eqv_none
  | some _ => eqv_str _
theorem all2 {P : PyData → Prop} {a b : PyData} (ha : P a) (hb : P b) : ∀ d ∈ [a, b], P d := fun d hd => by
  rcases List.mem_cons.mp hd with h | h
  · rw [h]; exact ha
  · rw [List.mem_singleton.mp h]; exact hb
theorem eqv_row (r : Row) : PyData.eqv (.tuple (rowD r)) (.tuple (rowD r)) = true := eqv_tup (all2 (eqv_str _) (eqv_opt _))
theorem eqv_kn (r : Known) : PyData.eqv (.tuple (knD r)) (.tuple (knD r)) = true := eqv_tup (all2 (eqv_str _) (eqv_bool _))
/-- figures of a text that the machine has -/
def Low (ds : List Nat) : Prop := ∀ d ∈ ds, d < 1000
def LowR (r : Row) : Prop := Low r.1 ∧ ∀ x, r.2 = some x → Low x
theorem sh_opt {n : Nat} : ∀ {o : Option (List Nat)}, (∀ x, o = some x → Low x) → Sh n (optD o)
  | none, _ => Sh.non
  | some x, h => Sh.str (strOk_txt (h x rfl))
theorem sh_row {r : Row} (h : LowR r) : Sh 1 (.tuple (rowD r)) := Sh.tup (n := 0) (all2 (Sh.str (strOk_txt h.1)) (sh_opt h.2))
theorem sh_kn {r : Known} (h : Low r.1) : Sh 1 (.tuple (knD r)) := Sh.tup (n := 0) (all2 (Sh.str (strOk_txt h)) (Sh.bl _))
theorem neD_data {x y : V} {d : PyData} {n : Nat} {Q : VK} (h1 : Dp K H x d) (h2 : Dp K H y d) (hs : Sh n d) (hn : n ≤ 64) (e : PyData.eqv d d = true) (q : Q (.bl false) H) : rNeD K x y H Q :=
  ⟨d, d, h1, h2, hs.shaped hn, hs.shaped hn, by rw [e]; exact q⟩
theorem eqD_data {x y : V} {d : PyData} {n : Nat} {Q : VK} (h1 : Dp K H x d) (h2 : Dp K H y d) (hs : Sh n d) (hn : n ≤ 64) (e : PyData.eqv d d = true) (q : Q (.bl true) H) : rEqD K x y H Q :=
  ⟨d, d, h1, h2, hs.shaped hn, hs.shaped hn, by rw [e]; exact q⟩
theorem map_all {α : Type} {P : PyData → Prop} {rs : List α} {g : α → PyData} (h : ∀ r ∈ rs, P (g r)) : ∀ d ∈ rs.map g, P d := fun d hd => by
  obtain ⟨r, hr, rfl⟩ := List.mem_map.mp hd
  exact h r hr
/-- a list of pairs of old and new marks -/
abbrev rowsD (rs : List Row) : PyData := .list (rs.map fun r => .tuple (rowD r))
abbrev knsD (rs : List Known) : PyData := .list (rs.map fun r => .tuple (knD r))
theorem dp_rows {p : Addr} {qs : List Addr} {rs : List Row} (h : H p = some (.lst (refs qs))) (t : TupsAt H qs (rs.map rowV)) : Dp K H (.ref p) (rowsD rs) := .lst (.inl (.inl h)) (dpAll_tups dp_row t)
theorem dp_kns {p : Addr} {qs : List Addr} {rs : List Known} (h : H p = some (.lst (refs qs))) (t : TupsAt H qs (rs.map knV)) : Dp K H (.ref p) (knsD rs) := .lst (.inl (.inl h)) (dpAll_tups dp_kn t)
theorem sh_rows {rs : List Row} (h : ∀ r ∈ rs, LowR r) : Sh 2 (rowsD rs) := Sh.list (map_all fun r hr => sh_row (h r hr))
theorem sh_kns {rs : List Known} (h : ∀ r ∈ rs, Low r.1) : Sh 2 (knsD rs) := Sh.list (map_all fun r hr => sh_kn (h r hr))
theorem eqv_rows (rs : List Row) : PyData.eqv (rowsD rs) (rowsD rs) = true := eqv_list (map_all fun r _ => eqv_row r)
theorem eqv_kns (rs : List Known) : PyData.eqv (knsD rs) (knsD rs) = true := eqv_list (map_all fun r _ => eqv_kn r)
end
/-- how many stand among the first i -/
def cntT (ks : List Known) (i : Nat) : Nat := (ks.take i).countP (·.2)
theorem cntT_succ {ks : List Known} {i : Nat} (h : i < ks.length) : cntT ks (i + 1) = cntT ks i + if (ks[i]).2 = true then 1 else 0 := by
  unfold cntT
  rw [List.take_succ, List.countP_append, List.getElem?_eq_getElem h]
  show _ + List.countP _ [ks[i]] = _
  rw [List.countP_singleton]
theorem cntT_le {ks : List Known} : ∀ {i j : Nat}, i ≤ j → cntT ks i ≤ cntT ks j := fun {i j} h => by
  unfold cntT
  exact List.Sublist.countP_le (List.take_sublist_take_left h)
theorem cntT_all (ks : List Known) : cntT ks ks.length = ks.countP (·.2) := by unfold cntT; rw [List.take_length]
/-- the row of the i-th -/
def renRow (fs : List (List Nat)) (ks : List Known) (i : Nat) : Row := ((ks.getD i ([], false)).1, if (ks.getD i ([], false)).2 = true then some (fs.getD (cntT ks i) []) else none)
/-- the rows of a renewal -/
def renRows (fs : List (List Nat)) (ks : List Known) (n : Nat) : List Row := (List.range n).map (renRow fs ks)
theorem renRows_succ (fs : List (List Nat)) (ks : List Known) (n : Nat) : renRows fs ks (n + 1) = renRows fs ks n ++ [renRow fs ks n] := by
  unfold renRows
  rw [List.range_succ, List.map_append]; rfl
theorem renRows_len (fs : List (List Nat)) (ks : List Known) (n : Nat) : (renRows fs ks n).length = n := by unfold renRows; rw [List.length_map, List.length_range]
/-- a new tuple behind one's own i-th list -/
theorem Box.tupAdd {H0 H : Hp} {qs : List Addr} {cs : List (List V)} {r t : Addr} {ts : List Addr} {rs : List (List V)} {x : List V} (b : Box H0 H qs cs) (i : Nat) (hi : qs[i]? = some r) (hc : cs[i]? = some (refs ts)) (tt : TupsAt H ts rs) (ht : H t = none) :
    Box H0 (upd (upd H t (.tup x)) r (.lst (refs ts ++ [.ref t]))) qs (cs.set i (refs (ts ++ [t]))) ∧ TupsAt (upd (upd H t (.tup x)) r (.lst (refs ts ++ [.ref t]))) (ts ++ [t]) (rs ++ [x]) ∧ Kp H (upd (upd H t (.tup x)) r (.lst (refs ts ++ [.ref t]))) := by
  have b1 := b.new (o := .tup x) ht rfl
  have e : refs ts ++ [.ref t] = refs (ts ++ [t]) := by unfold refs; rw [List.map_append]; rfl
  rw [e]
  have b2 := b1.set (x := refs (ts ++ [t])) i hi hc
  have k1 : Kp H (upd H t (.tup x)) := Kp.new b.clo ht rfl
  have k2 : Kp (upd H t (.tup x)) (upd (upd H t (.tup x)) r (.lst (refs (ts ++ [t])))) := b1.kp i hi hc rfl
  exact ⟨b2, ((tt.kp k1).snoc upd_same).kp k2, k1.trans k2⟩
theorem indices_from2 {n : Nat} : Builtin.Str.strSliceIndices (some (-2)) none 1 n = Builtin.Str.strSliceIndices (some ((n - 2 : Nat) : Int)) (some (n : Int)) 1 n := by
  have h1 : (-2 : Int) < 0 := by decide
  have h2 : (1 : Int) > 0 := by decide
  have h3 : ¬ ((n : Int) < 0) := by omega
  have h4 : ¬ (((n - 2 : Nat) : Int) < 0) := by omega
  have h5 : ¬ ((n : Int) > n) := by omega
  simp only [Builtin.Str.strSliceIndices, h1, h2, h3, h4, if_true, if_false]
  rw [show max 0 (min (-2 + (n : Int)) n) = max 0 (min ((n - 2 : Nat) : Int) n) by omega, show max 0 (min (n : Int) n) = n by omega]
theorem slice_last2 {ds : List Nat} : Txt.slice (txt ds) (some (-2)) none = txt (ds.drop (ds.length - 2)) := by
  have e2 : Txt.slice (txt ds) (some (-2)) none = Txt.slice (txt ds) (some ((ds.length - 2 : Nat) : Int)) (some (ds.length : Int)) := by
    unfold Txt.slice
    rw [txt_len, indices_from2]
  rw [e2, slice_txt (by omega) (Nat.le_refl _), List.take_of_length_le (by rw [List.length_drop]; omega)]
/-- marks, rising, not too long -/
structure MkRow (L B : Nat) (M : List (List Nat)) : Prop where
  all : ∀ m ∈ M, Mk0 L m ∧ m ≠ [] ∧ m.length ≤ B
  up : M.Pairwise (· < ·)
theorem txt_le {a b : List Nat} (h : (txt a).cps.toList ≤ (txt b).cps.toList) : a < b ∨ a = b := by
  have h1 : ¬ b < a := fun z => h (by have := (map_lt (a := b) (b := a)).mpr z; rw [txt_tl, txt_tl]; exact this)
  rcases Classical.em (a < b) with z | z
  · exact .inl z
  · exact .inr (List.le_antisymm h1 z)
def untxt (s : Str) : List Nat := s.cps.toList.map (· - 97)
theorem untxt_txt (a : List Nat) : untxt (txt a) = a := by
  unfold untxt
  rw [txt_tl, List.map_map]
  refine (List.map_congr_left (g := id) fun x _ => ?_).trans (List.map_id _)
  show 97 + x - 97 = x
  omega
/-- marks, each once, sorted -/
theorem sort_up {M : List (List Nat)} (hn : M.Nodup) {ys : List Str} (hp : ys.Perm (M.map txt)) (hs : ys.Pairwise fun a b => a.cps.toList ≤ b.cps.toList) : ∃ M' : List (List Nat), ys = M'.map txt ∧ M'.Perm M ∧ M'.Pairwise (· < ·) := by
  have e : ys = (ys.map untxt).map txt := by
    rw [List.map_map]
    refine ((List.map_congr_left (g := id) fun y hy => ?_).trans (List.map_id _)).symm
    obtain ⟨a, _, rfl⟩ := List.mem_map.mp (hp.mem_iff.mp hy)
    show txt (untxt (txt a)) = txt a
    rw [untxt_txt]
  have hp2 : (ys.map untxt).Perm M := by
    have := hp.map untxt
    rw [List.map_map] at this
    refine this.trans (List.Perm.of_eq ((List.map_congr_left (g := id) fun x _ => untxt_txt x).trans (List.map_id _)))
  refine ⟨ys.map untxt, e, hp2, ?_⟩
  have hn2 : (ys.map untxt).Nodup := hp2.nodup_iff.mpr hn
  rw [e] at hs
  have h3 := List.pairwise_map.mp hs
  exact (h3.and hn2).imp fun {a b} ⟨h1, h2⟩ => (txt_le h1).resolve_right h2
theorem in_txt {d : List Nat} {M : List (List Nat)} : inV (V.str (txt d)) ((M.map txt).map V.str) = decide (d ∈ M) := by
  rw [Bool.eq_iff_iff, decide_eq_true_iff]
  constructor
  · intro z
    obtain ⟨v, hv, hv2⟩ := List.any_eq_true.mp z
    obtain ⟨y, hy, rfl⟩ := List.mem_map.mp hv
    obtain ⟨x, hx, rfl⟩ := List.mem_map.mp hy
    have e : txt x = txt d := by
      unfold eqV at hv2
      exact eq_of_beq hv2
    rw [← txt_inj e]
    exact hx
  · intro z
    refine List.any_eq_true.mpr ⟨.str (txt d), List.mem_map.mpr ⟨_, List.mem_map.mpr ⟨d, z, rfl⟩, rfl⟩, ?_⟩
    unfold eqV
    exact beq_self_eq_true _
theorem low_nil : Low [] := fun _ h => (nomatch h)
theorem low_getD {fs : List (List Nat)} (h : ∀ x ∈ fs, Low x) (i : Nat) : Low (fs.getD i []) := by
  rw [List.getD_eq_getElem?_getD]
  cases e : fs[i]? with
  | none => exact low_nil
  | some x => exact h x (List.mem_of_getElem? e)
theorem renRows_low {fs : List (List Nat)} {ks : List Known} {n : Nat} (h1 : ∀ r ∈ ks, Low r.1) (h2 : ∀ x ∈ fs, Low x) : ∀ r ∈ renRows fs ks n, LowR r := fun r hr => by
  obtain ⟨i, _, rfl⟩ := List.mem_map.mp hr
  refine ⟨?_, fun x hx => ?_⟩
  · show Low (ks.getD i ([], false)).1
    rw [List.getD_eq_getElem?_getD]
    cases e : ks[i]? with
    | none => exact low_nil
    | some x => exact h1 x (List.mem_of_getElem? e)
  · have hx : (if (ks.getD i ([], false)).2 = true then some (fs.getD (cntT ks i) []) else none) = some x := hx
    split at hx
    · cases hx
      exact low_getD h2 _
    · cases hx
theorem rens_low {L m k : Nat} (hL : 0 < L) (hL2 : L ≤ 26) : ∀ x ∈ rens L m k, Low x := fun x hx => by
  obtain ⟨i, _, rfl⟩ := List.mem_map.mp hx
  intro d hd
  have := (mk0_markOf (L := L) (n := renN L m k i) (k := k) hL).lt d hd
  omega
theorem isi_tup {K : PySem.W.Frag} {p : Addr} {xs : List V} {H : Hp} {Q : VK} (h : H p = some (.tup xs)) (q : Q (.bl true) H) : rIsi K [.ref p, .ty "tuple"] H Q := rIsi_of (.base (.tup h)) (by decide +kernel) q
theorem TupsAt.mem {α : Type} {H : Hp} {qs : List Addr} {rs : List α} {f : α → List V} (t : TupsAt H qs (rs.map f)) : ∀ v ∈ refs qs, ∃ q r, v = .ref q ∧ r ∈ rs ∧ H q = some (.tup (f r)) := fun v hv => by
  obtain ⟨q, hq, rfl⟩ := List.mem_map.mp hv
  obtain ⟨i, hi, rfl⟩ := List.mem_iff_getElem.mp hq
  have hi2 : i < rs.length := by have := t.len; rw [List.length_map] at this; omega
  exact ⟨_, rs[i], rfl, List.getElem_mem hi2, t.at_ i _ _ (List.getElem?_eq_getElem hi) (by rw [List.getElem?_map, List.getElem?_eq_getElem hi2]; rfl)⟩
/-- one's own list is changed, what is new forgotten -/
theorem trim_put {H H' : Hp} {p : Addr} {xs ys : List V} (c : Clo H) (hp : H p = some (.lst xs)) (e : Ex H H') : Trim H (upd H' p (.lst ys)) (upd H p (.lst ys)) := by
  have k := Kp.set (o := .lst ys) c hp rfl
  exact ⟨Ex.both e, k.tup, k.frz, k.tbl, k.clo⟩
theorem clo_setL {H : Hp} {p : Addr} {xs : List V} {o : HO} (c : Clo H) (hp : H p = some (.lst xs)) (ho : plainO o = true) : Clo (upd H p o) := clo_set c (fun x z => by rw [hp] at z; cases z) ho
theorem clo_setD {H : Hp} {p : Addr} {xs : List (Key × V)} {o : HO} (c : Clo H) (hp : H p = some (.dK xs)) (ho : plainO o = true) : Clo (upd H p o) := clo_set c (fun x z => by rw [hp] at z; cases z) ho
theorem Kp.setD {H : Hp} {p : Addr} {xs : List (Key × V)} {o : HO} (c : Clo H) (hp : H p = some (.dK xs)) (ho : plainO o = true) : Kp H (upd H p o) := by
  refine ⟨fun _ _ h => h, fun a ys h => ?_, fun a ob u h => ?_, fun a ps h => ⟨#[], ?_⟩, clo_set c (fun x z => by rw [hp] at z; cases z) ho⟩
  · rw [upd_ne (fun e => by rw [e, hp] at h; cases h)]; exact h
  · rw [upd_ne (fun e => by rw [e, hp] at h; cases h)]; exact h
  · rw [upd_ne (fun e => by rw [e, hp] at h; cases h), h, Array.append_empty]
theorem trim_putD {H H' : Hp} {p : Addr} {xs : List (Key × V)} {o : HO} (c : Clo H) (hp : H p = some (.dK xs)) (e : Ex H H') (ho : plainO o = true) : Trim H (upd H' p o) (upd H p o) := by
  have k := Kp.setD (o := o) c hp ho
  exact ⟨Ex.both e, k.tup, k.frz, k.tbl, k.clo⟩
theorem slice_txt_from {ds : List Nat} {j : Int} (h : 0 ≤ j) : Txt.slice (txt ds) (some j) none = txt (ds.drop j.toNat) := by
  unfold txt
  rw [slice_from h, ← List.map_drop]
theorem cps_app (x y : Str) : (x ++ y).cps.toList = x.cps.toList ++ y.cps.toList := by
  rw [PySem.Str.cps_append, Array.toList_append]
end Sm
/-! SmExc: a caught exception that stays at hand behind its suite; calls within a suite that raise nothing. -/
namespace Sm
open PySem PySem.Spec PyProof.Rows L2
/-- at a: an exception of the class cls, its own dict at d -/
def ExT (cls : Value) (d : Option Addr) (a : Addr) : HO := .ext fun h => ∃ (oe : Obj) (vs : Array Value), h.get? a = some oe ∧ Zc cls d oe ∧ oe.data = .fields vs
theorem exT_ok {P : Program} {w : World} {H : Hp} {h : Heap} {a : Addr} {cls : Value} {d : Option Addr} {oe : Obj} {vs : Array Value} (e : h.get? a = some oe) (z : Zc cls d oe) (hd : oe.data = .fields vs) : ObjOk P w H h a (ExT cls d a) :=
  ⟨⟨oe, vs, e, z, hd⟩, ⟨oe, e⟩, fun _ _ ⟨o, v, q, r⟩ k => ⟨o, v, k o q, r⟩⟩
theorem exT_at {P : Program} {w : World} {H : Hp} {h : Heap} {a : Addr} {cls : Value} {d : Option Addr} (hok : HOk P w H h) (e : H a = some (ExT cls d a)) : ∃ (oe : Obj) (vs : Array Value), h.get? a = some oe ∧ Zc cls d oe ∧ oe.data = .fields vs := by
  have x : ObjOk P w H h a (ExT cls d a) := hok a _ e
  exact x.1
theorem exT_ne_tup {cls : Value} {d : Option Addr} {a : Addr} {xs : List V} : ExT cls d a ≠ .tup xs := fun z => by
  have z' : HO.ext _ = HO.tup xs := z
  cases z'
section
variable {X : Cx} {pins : List (Addr × Obj)} {σ : L2.St} {H : Hp} {s : Shared}
theorem inv_suiteT (I : Inv X pins σ H s) {a : Addr} {oe : Obj} {vs : Array Value} {cls : Value} {d : Option Addr} (ha : s.heap.get? a = some oe) (hz : Zc cls d oe) (hd : oe.data = .fields vs) (na : H a = none) (nL : a ≠ X.env.locals) (n0 : X.s_0.heap.get? a = none) (np : ∀ p ∈ X.pn ++ pins, p.1 ≠ a) :
    Inv (X.suite a (X.pn ++ pins)) [] σ (upd H a (ExT cls d a)) s := by
  refine ⟨I.ok.suite _ _, I.os, I.bare, ⟨I.base.keep, I.base.slot, fun b o e n hx => ?_, I.base.there, fun b xs e => ?_, fun b o u e => ?_, fun b ps e => ?_⟩, I.loc, I.cell, ?_, fun x c e => ?_, fun p hp => ?_, fun b o e => ?_, I.len⟩
  · rw [upd_ne (fun z => by rw [z, n0] at e; cases e)]
    exact I.base.free b o e n hx
  · have q := I.base.tups b xs e
    rw [upd_ne (ne_of_none q na)]; exact q
  · have q := I.base.frzs b o u e
    rw [upd_ne (ne_of_none q na)]; exact q
  · obtain ⟨m, q⟩ := I.base.tbls b ps e
    exact ⟨m, by rw [upd_ne (ne_of_none q na)]; exact q⟩
  · show upd H a _ X.env.locals = none
    rw [upd_ne (Ne.symm nL)]; exact I.free
  · have q := I.freeC x c e
    rw [upd_ne (fun z => ?_)]
    · exact q
    · obtain ⟨v, hv⟩ := I.cell x c e
      obtain ⟨o1, h1, h2⟩ := hv
      rw [z, ha] at h1
      cases h1
      rw [hd] at h2
      simp at h2
  · have hp' : p ∈ X.pn ++ pins := by
      have : p ∈ (X.pn ++ pins) ++ ([] : List (Addr × Obj)) := hp
      rwa [List.append_nil] at this
    obtain ⟨h1, h2, h3, h4, h5⟩ := I.pin p hp'
    exact ⟨h1, by rw [upd_ne (np p hp')]; exact h2, h3, h4, h5⟩
  · by_cases hb : b = a
    · subst hb
      rw [upd_same] at e
      cases e
      exact exT_ok ha hz hd
    · rw [upd_ne hb] at e
      exact (I.hok b o e).stay (fun c v _ q => q) (fun c q => by rw [upd_ne (ne_of_none q na)]; exact q) fun c xs q => by rw [upd_ne (ne_of_none q na)]; exact q
theorem inv_unsuiteT {a : Addr} {pn' : List (Addr × Obj)} (I : Inv (X.suite a (X.pn ++ pins)) pn' σ H s) (ok : X.Ok) : Inv X pins σ H s :=
  ⟨ok, I.os, I.bare, I.base, I.loc, I.cell, I.free, I.freeC, fun p hp => I.pin p (List.mem_append_left _ hp), I.hok, I.len⟩
end
/-- what the clause 'except x as n' wishes of an exception of the body; the exception is known from then on -/
def wAsT (K : PySem.W.Frag) (c : Value) (i : Nat) (ts : TS) (Wout : WX) (D : Ends) : WX := fun cls d σ H =>
  ∃ b, PySem.W.exmOne K cls c = some b ∧ (b = true → ∀ a, H a = none → ts { nx := fun σ' H' => D.nx (σ'.set i none) H', rt := D.rt, bk := fun σ' H' => D.bk (σ'.set i none) H', ct := fun σ' H' => D.ct (σ'.set i none) H' } (σ.set i (some (.ref a))) (upd H a (ExT cls d a))) ∧
    (b = false → Wout cls d σ H)
def tTryT (K : PySem.W.Frag) (c : Value) (i : Nat) (ts : TS) (Wout : WX) (tb : WX → TS) : TS := fun D σ H => tb (wAsT K c i ts Wout D) D σ H
section
variable {X : Cx} {x n : Str} {c : Value} {i : Nat} {body suite : List Stmt} {b₀ : Stmt} {np pos pos' : Pos} {tb : WX → TS} {ts : TS} {Wout : WX}
theorem ps_try_asT (hs : X.stack = X.env :: X.outer) (hf : X.env.frame = some X.env.locals) (hex : X.ex = []) (hN : X.N.Nodup) (hi : X.N[i]? = some n) (hln : X.env.kindOf n = some .local) (hc : Names X x c) (tk : Takes X Wout)
    (hb : ∀ (W : WX) (pn : List (Addr × Obj)) (xe : Value → Shared → Prop), Takes (X.tr pn xe) W → PassesOwn (model X.prog X.w) X.A X.env xe → PSs (X.tr pn xe) body (tb W))
    (hsu : ∀ (a : Addr) (pn : List (Addr × Obj)), PSs (X.suite a pn) (b₀ :: suite) ts) :
    PS X (.Try body [.ExceptHandler (some (.Name x np)) (some n) (b₀ :: suite) pos'] [] [] pos) (tTryT X.K c i ts Wout tb) := by
  refine ⟨fun pins s σ H D I h => ?_⟩
  have ok := I.ok
  have hfr : X.A.frames = some (X.env :: X.outer) := by rw [ok.frames, hs]
  have hloc : Loc X.env.scope n := .inl hln
  refine wpAny_Try_except ?_
  refine wpAny_mono ((hb (wAsT X.K c i ts Wout D) (X.pn ++ pins) (fun e s₁ => wpAny (model X.prog X.w) X.A (noteFrame e X.env) (fun _ s₂ => wpAny (model X.prog X.w) X.A (setFlight e none) (fun _ s₃ =>
    wpAny (model X.prog X.w) X.A (handleBy e X.env [.ExceptHandler (some (.Name x np)) (some n) (b₀ :: suite) pos']) (SP X pins D) X.xe s₃) X.xe s₂) X.xe s₁) (fun u s' xx => ?_) PassesOwn.looking).run [] s σ H D (I.toTry _) h) (fun f s1 hsp => ?_) (fun e s1 he => he)
  · obtain ⟨a, B, sI, pins', σ', H', cls, d, rfl, J', nb, up, sky, na, os, ag, b, hb1, hyes, hno⟩ := xx
    have J : Inv X pins σ' H' sI := J'.ofTry ok
    have sky' : Sky B (X.env :: X.outer) a (Zc cls d) X.env.locals s'.heap := by rw [← hs]; exact sky
    show wpAny (model X.prog X.w) X.A (noteFrame (.ref a) X.env) _ _ _
    refine Sky.land Zc.steady hfr hf sky' fun h3 fl3 up3 => ?_
    have J3 : Inv X pins σ' H' { s' with heap := h3 } := J.landed nb fl3.1 (up.trans up3) os ag
    obtain ⟨oe3, vs3, he3, hz3, hd3⟩ := fl3.there
    have notFr : ∀ {h : Heap} {o : Obj} {vs : Array Value}, h.FunFrames B (X.env :: X.outer) → h.get? a = some o → o.data = .fields vs → a ∉ frs (X.env :: X.outer) := fun {h o vs} ff e dd hm => by
      obtain ⟨_, o', e', hnf⟩ := ff.mem hm
      rw [e] at e'; cases e'
      exact hnf _ dd
    have nfr := notFr fl3.2.2.1 he3 hd3
    have nL : a ≠ X.env.locals := fun z => nfr (List.mem_filterMap.mpr ⟨X.env, List.mem_cons_self, by rw [hf, z]⟩)
    have nF : a ∉ X.fs := fun hm => by
      obtain ⟨e, he, q⟩ := List.mem_filterMap.mp hm
      exact nfr (List.mem_filterMap.mpr ⟨e, List.mem_cons_of_mem _ he, q⟩)
    have nI : sI.heap.get? a = none := by
      cases q : sI.heap.get? a with
      | none => rfl
      | some o =>
        have q2 := nb a o q (by rw [hs]; exact nfr)
        rw [fl3.2.1] at q2
        cases q2
    have n0 : X.s_0.heap.get? a = none := by
      cases q : X.s_0.heap.get? a with
      | none => rfl
      | some o =>
        obtain ⟨o', q2⟩ := J.base.there a o q (by rw [hex]; simp)
        rw [nI] at q2
        cases q2
    have npn : ∀ p ∈ X.pn ++ pins, p.1 ≠ a := fun p hp z => by
      have q2 := (J.pin p hp).1
      rw [z, nI] at q2
      cases q2
    have S3 := J3.suite he3 hd3 na nL nF
    refine wpAny_handleBy_cons (codeAny_handlers_test ?_) (by intro q; cases q)
    have LT : PySem.W.Looks (model X.prog X.w) h3 (typeOf (.ref a)) cls := fun A Q E s k q => wpAny_typeOf_ref (k _ _ he3) (by rw [hz3.1]; exact q)
    have LM := PySem.W.exm_one (M := model X.prog X.w) (J3.kIn) LT hb1
    have test : ∀ {Q : Value → Shared → Prop} {E : Value → Shared → Prop}, Q c { s' with heap := h3 } → wpAny (model X.prog X.w) (X.A.mark (some (.ref a))) (eval (.Name x np) X.env) Q E { s' with heap := h3 } := fun {Q E} q => by
      obtain ⟨hg, hdbg, hm | ⟨hm, hv, hnn⟩⟩ := hc
      · exact ld_glob (X := X.suite a ((a, oe3) :: (X.pn ++ pins))) S3 hg hm q hdbg
      · exact ld_blt (X := X.suite a ((a, oe3) :: (X.pn ++ pins))) S3 hg hm hv q hnn hdbg
    refine test (LM.here ?_)
    cases b with
    | true =>
      refine codeAny_handlers_suite_as ?_
      refine HandSPX.lands_againZ fl3 fun h4 fl4 up4 => ?_
      have J4 : Inv X pins σ' H' { s' with heap := h4 } := J.landed nb fl4.1 ((up.trans up3).trans up4) os ag
      obtain ⟨oe4, vs4, he4, hz4, hd4⟩ := fl4.there
      have S4 := inv_suiteT J4 he4 hz4 hd4 na nL n0 npn
      refine store_ok (X := X.suite a (X.pn ++ pins)) (v := .ref a) S4 hN hi hloc rfl (fun s5 S5 => ?_) (.inr hln)
      refine wpAny_mono ((hsu a (X.pn ++ pins)).run [] s5 _ _ _ S5 (hyes rfl a na)) (fun f s6 hsp => ?_) (fun _ _ z => False.elim z)
      have end_ : ∀ {σ6 : L2.St} {H6 : Hp} {Q : Shared → Prop}, Inv (X.suite a (X.pn ++ pins)) [] σ6 H6 s6 → (∀ s7, Inv X pins (σ6.set i none) H6 s7 → Q s7) →
          wpAny (model X.prog X.w) X.A (do bindName X.env n .none; unbindBehindTheSuite X.env n pos') (fun _ s7 => Q s7) X.xe s6 := fun {σ6 H6 Q} S6 hq => gone_ok (inv_unsuiteT S6 ok) hN hi hln hq
      cases f with
      | next =>
        obtain ⟨σ6, H6, S6, q6⟩ := hsp
        exact end_ S6 fun s7 J7 => ⟨_, _, J7, q6⟩
      | brk =>
        obtain ⟨σ6, H6, S6, q6⟩ := hsp
        exact end_ S6 fun s7 J7 => ⟨_, _, J7, q6⟩
      | cont =>
        obtain ⟨σ6, H6, S6, q6⟩ := hsp
        exact end_ S6 fun s7 J7 => ⟨_, _, J7, q6⟩
      | ret u =>
        obtain ⟨v6, σ6, H6, S6, r6, q6⟩ := hsp
        exact end_ S6 fun s7 J7 => ⟨_, _, _, J7, r6, q6⟩
    | false =>
      show wpAny _ X.A (handleBy (.ref a) X.env []) _ _ _
      refine wpAny_handleBy_nil ?_
      obtain ⟨k1, k2, k3, oe, vs, T, oT, ts', he, hz, hd, h1, hr⟩ := id fl3
      unfold PySem.passOn
      refine wpAny_bind (wpAny_field he hd h1 ?_)
      rw [if_neg (show ¬ ((Value.ref T == Value.none) = true) from by simp)]
      have fin : wpAny (model X.prog X.w) X.A (setFlight (.ref a) X.env.frame) (fun _ s4 => wpAny (model X.prog X.w) X.A (throw (.ref a) : Sem Flow) (SP X pins D) X.xe s4) X.xe { s' with heap := h3 } := by
        rw [hf]
        refine HandSPX.setFlight_upZ fl3 fun h4 hh4 up4 => wpAny_throw (tk _ _ ?_)
        exact ⟨a, B, sI, pins, σ', H', cls, d, rfl, J, nb, (up.trans up3).trans up4, .inr (.inr (by rw [hs]; exact hh4)), na, os, ag, hno rfl⟩
      first
        | exact wpAny_bind (wpAny_pure (wpAny_bind fin))
        | exact wpAny_bind fin
  · cases f with
    | next =>
      obtain ⟨σ', H', J', q⟩ := hsp
      exact wpAny_execs_nil ⟨σ', H', J'.ofTry ok, q⟩
    | brk =>
      obtain ⟨σ', H', J', q⟩ := hsp
      exact ⟨σ', H', J'.ofTry ok, q⟩
    | cont =>
      obtain ⟨σ', H', J', q⟩ := hsp
      exact ⟨σ', H', J'.ofTry ok, q⟩
    | ret u =>
      obtain ⟨v, σ', H', J', r, q⟩ := hsp
      exact ⟨v, σ', H', J'.ofTry ok, r, q⟩
end
/-! ### isinstance of a known exception -/
section
open PySem.W PySem.Calls
variable {prog : Program} {w : World} {A : Around} {E : Value → Shared → Prop} {s : Shared} {K : PySem.W.Frag} {x D : Addr} {ox : Obj} {od : Option Obj}
theorem findObj_dataD {C : Addr} {name : Str} {a g : Value} (hc : (clsIn K C).isSome = true) (ha : findIn K (.ref C) name = some (some a)) (hg : specialIn K a "__get__" = some (some g)) (ht : takesIn K a = some true) : findObj K C od name = some (.bind g a) := by
  obtain ⟨cd, hc⟩ := Option.isSome_iff_exists.mp hc
  unfold findObj
  rw [hc, Option.bind_some, ha, Option.bind_some]
  simp [hg, ht]
theorem kin_classD {Q : Option Value → Shared → Prop} (C : ExcC K D) (X : K.In s.heap) (I : InstAt s.heap x ox D od) (h : Q (some (.ref D)) { s with toks := s.toks + 1 }) : wpAny (model prog w) A (getAttr? (.ref x) "__class__") Q E s := by
  obtain ⟨hga, hgt, hsub, hdct, ha, hn, htk, hm⟩ := C
  have hf : findObj K D od "__class__" = some (.bind (.builtin "getset_descriptor.__get__") (.builtin "object.__class__")) := findObj_dataD (by obtain ⟨cd, hc, _⟩ := any_some hdct; rw [hc]; rfl) ha hn htk
  obtain ⟨hp, g, d, t, os⟩ := s
  have L0 := I.type (M := model prog w)
  have L1 := looks_findIn (M := model prog w) X hga
  have L2 := looks_findIn (M := model prog w) X hgt
  have L3 := looks_find (M := model prog w) X I hf
  have sub : Looks (model prog w) hp (isInstance (.ref x) (.type "BaseException")) true := L0.andThen (looks_subIn X hsub)
  have hx0 : (false && onTheHeap (Value.builtin "BaseException.__getattribute__")) = false := rfl
  have hx2 : (Value.builtin "BaseException.__getattribute__" == Value.builtin "object.__getattribute__") = false := by decide +kernel
  have hx1 : (onTheHeap (Value.ref D) && Value.builtin "BaseException.__getattribute__" == Value.builtin "object.__getattribute__") = false := by rw [hx2]; rfl
  unfold getAttr? getAttrBy? getAttrBy
  refine wpAny_bind (wpAny_mkText (wpAny_bind (wpAny_attempt (wpAny_holding (wpAny_bind (L0.at (wpAny_bind (L1.at ?_))))))))
  show wpAny _ _ (if (onTheHeap (Value.ref D) && Value.builtin "BaseException.__getattribute__" == Value.builtin "object.__getattribute__") = true then _ else _) _ _ _
  rw [hx1, if_neg Bool.false_ne_true]
  unfold getAttrByItsOwn hookBefore
  refine wpAny_bind ?_
  rw [if_pos (show onTheHeap (Value.ref D) = true from rfl)]
  refine L2.at ?_
  refine wpAny_bind (wpAny_attempt (wpAny_holding ?_))
  unfold callGetattribute
  rw [hx0, if_neg Bool.false_ne_true]
  unfold boundAndCalled
  rw [PySem.F.excAttr_ValueError.ga.bind (.ref x)]
  refine wpAny_bind (wpAny_pure ?_)
  show wpAny _ _ (call (.builtin "BaseException.__getattribute__") [.ref x, .str "__class__" t]) _ _ _
  refine wpAny_call (codeAny_call_builtin PySem.F.excAttr_ValueError.ga.plain PySem.F.entry_bexc_ga ?_)
  refine @check_slot (model prog w) _ _ ⟨hp, g, d, t + 1, os⟩ "BaseException.__getattribute__" "BaseException" "__getattribute__" (.ref x) [.str "__class__" t] [] _ (by decide +kernel) (by decide +kernel) sub (PySem.F.args_bexc_ga (.ref x) (.str "__class__" t)) ?_
  unfold Builtin.«object.__getattribute__»
  refine wpAny_bind (wpAny_of_eq (a := ((Value.ref x : Value), [Value.str "__class__" t])) (by first | rfl | (simp only [slotArgs]; rfl)) ?_)
  refine wpAny_bind (wpAny_pure (wpAny_bind (L0.at (wpAny_bind (L3.at ?_)))))
  show wpAny _ _ (holding [Value.builtin "object.__class__"] (call (.builtin "getset_descriptor.__get__") [.builtin "object.__class__", .ref x, .ref D]) >>= ret) _ _ _
  refine wpAny_bind (wpAny_holding (wpAny_call (class_get (s := ⟨hp, g, d, t + 1, os⟩) (ox := ox) (od := od) X I hm ?_)))
  refine wpAny_pure ?_
  show wpAny _ _ (handedOut (.ref D)) _ _ _
  rw [handedOut_of (v := .ref D) rfl]
  first
    | exact wpAny_pure (wpAny_pure h)
    | exact wpAny_pure h
    | exact wpAny_pure (wpAny_bind (wpAny_pure (wpAny_pure h)))
theorem kitx_excD (C : ExcC K D) : KitX K (.ref x) (.ref D) (fun h => ∃ od, InstAt h x ox D od) where
  ty := fun _ _ _ ⟨_, I⟩ => I.type
  it := fun _ _ X _ => by
    obtain ⟨cdD, hcD, _⟩ := any_some C.hd
    unfold clsIn at hcD
    split at hcD
    · rename_i c' d' cd' sl' ho
      intro A' Q' E' s' k q
      unfold isType loadHead
      exact wpAny_bind (wpAny_loadPart (k _ _ (X _ _ ho)) (wpAny_pure q))
    · cases hcD
  ne := fun h tp dd its n sl X htp => by
    obtain ⟨cdD, hcD, _⟩ := any_some C.hd
    refine Bool.eq_false_iff.mpr fun q => ?_
    have e : D = tp := Value.ref.inj (beq_iff_eq.mp q)
    subst e
    unfold clsIn at hcD
    split at hcD
    · rename_i c' d' cd' sl' ho
      have z := (X _ _ ho).symm.trans htp
      cases z
    · cases hcD
  ca := fun X ⟨_, I⟩ k => kin_classD C X I k
end
/-- the exception's own dict is known, where it has one -/
def XdOk (H : Hp) (d : Option Addr) : Prop := ∀ dd, d = some dd → ∃ fs, H dd = some (.xd fs)
theorem xdOk_none {H : Hp} : XdOk H none := fun _ h => nomatch h
theorem xdOk_some {H : Hp} {dd : Addr} {fs : List (Str × V)} (h : H dd = some (.xd fs)) : XdOk H (some dd) := fun _ e => by
  cases e
  exact ⟨_, h⟩
/-- isinstance(e, c), e a known exception -/
def rIsT (K : PySem.W.Frag) : List V → Hp → VK → Prop := fun xs H Q => ∃ (a D : Addr) (d : Option Addr) (c : V) (cv : Value) (b : Bool), xs = [.ref a, c] ∧ H a = some (ExT (.ref D) d a) ∧ XdOk H d ∧ ExcC K D ∧ (∀ u, RelV c u → u = cv) ∧ PySem.W.kitOne K (.ref D) cv = some b ∧ Q (.bl b) H
/-- .., c a tuple of classes -/
def rIsTT (K : PySem.W.Frag) : List V → Hp → VK → Prop := fun xs H Q => ∃ (a D tp : Addr) (d : Option Addr) (cs : List V) (ws : List Value) (b : Bool), xs = [.ref a, .ref tp] ∧ H a = some (ExT (.ref D) d a) ∧ XdOk H d ∧ ExcC K D ∧ H tp = some (.tup cs) ∧ Paired ClsV cs ws ∧ PySem.W.kitAny K (.ref D) ws = some b ∧ Q (.bl b) H
/-- e.f, e a known exception -/
def tFldT (K : PySem.W.Frag) (f : Str) (te : TE) : TE := fun σ H Q => te σ H fun x H1 => ∃ (a D dd : Addr) (fs : List (Str × V)) (v : V), x = .ref a ∧ H1 a = some (ExT (.ref D) (some dd) a) ∧ H1 dd = some (.xd fs) ∧ ExcC K D ∧ NoAttr K D f ∧ fs.lookup f = some v ∧ Q v H1
section
variable {X : Cx} {pins : List (Addr × Obj)} {σ : L2.St} {H : Hp} {s : Shared}
theorem instT (I : Inv X pins σ H s) {a D : Addr} {d : Option Addr} (e : H a = some (ExT (.ref D) d a)) (hd : XdOk H d) : ∃ (oe : Obj) (od : Option Obj), PySem.W.InstAt s.heap a oe D od := by
  obtain ⟨oe, vs, h1, hz, h2⟩ := exT_at I.hok e
  cases d with
  | none => exact ⟨oe, none, h1, hz.1, by unfold PySem.W.notCls; rw [h2] <;> rfl, by rw [hz.2]; trivial⟩
  | some dd =>
    obtain ⟨fs, hx⟩ := hd dd rfl
    have hx : ObjOk X.prog X.w H s.heap dd (.xd fs) := I.hok dd _ hx
    obtain ⟨mA, hns, _⟩ := hx
    obtain ⟨od, ho, _⟩ := lookIn_ns hns
    exact ⟨oe, some od, h1, hz.1, by unfold PySem.W.notCls; rw [h2] <;> rfl, by rw [hz.2]; exact ho⟩
theorem call_isT : CallR X (.builtin "isinstance") (rIsT X.K) := by
  intro pins s σ H xs us Q I r h
  obtain ⟨a, D, d, c, cv, b, rfl, ha, hd, C, hcv, e, q⟩ := h
  obtain ⟨u1, u2, rfl, r1, r2⟩ := vals2 r
  cases (show u1 = Value.ref a from r1)
  have ec := hcv _ r2
  subst ec
  obtain ⟨oe, od, J⟩ := instT I ha hd
  exact PySem.W.kia_one (kitx_excD (ox := oe) C) I.kIn ⟨od, J⟩ e (fun z => nomatch z) fun tk => ⟨.bl b, H, I.tok tk, rfl, q⟩
theorem call_isTT : CallR X (.builtin "isinstance") (rIsTT X.K) := by
  intro pins s σ H xs us Q I r h
  obtain ⟨a, D, tp, d, cs, ws, b, rfl, ha, hd, C, hT, k, e, q⟩ := h
  obtain ⟨u1, u2, rfl, r1, r2⟩ := vals2 r
  cases (show u2 = Value.ref tp from r2)
  cases (show u1 = Value.ref a from r1)
  obtain ⟨oe, od, J⟩ := instT I ha hd
  obtain ⟨_, its, rv, o, h1, h2, n, h3⟩ := (show ObjOk _ _ H s.heap tp (.tup cs) from I.hok tp _ hT)
  have e3 := ClsV.all k rv
  subst e3
  obtain ⟨oc, od', dt, sl⟩ := o
  simp only at h2 h3
  subst h2 h3
  exact PySem.W.kia_tup (kitx_excD (ox := oe) C) I.kIn ⟨od, J⟩ h1 e (fun z => nomatch z) fun tk => ⟨.bl b, H, I.tok tk, rfl, q⟩
theorem pe_fldT {e : Expr} {te : TE} {f : Str} {pos : Pos} (he : PE X e te) (hb : attributeBase e f X.env (eval e X.env) = eval e X.env := by rfl) : PE X (.Attribute e f pos) (tFldT X.K f te) := by
  refine ⟨fun pins s σ H Q I h => ?_⟩
  refine attr_of hb (thn (he.run pins s σ H _ I h) fun u s1 hh => ?_)
  obtain ⟨x, H1, I1, rx, a, D, dd, fs, v, ex, ha, hx, C, hno, hl, q⟩ := hh
  subst ex
  obtain rfl : u = Value.ref a := rx
  obtain ⟨oe, vs, h1, hz, h2⟩ := exT_at I1.hok ha
  have hx : ObjOk X.prog X.w H1 s1.heap dd (.xd fs) := I1.hok dd _ hx
  obtain ⟨mA, hns, hr⟩ := hx
  obtain ⟨od, ho, hlk⟩ := lookIn_ns hns
  obtain ⟨u, hu, ru⟩ := RelO.some_of (v := v) (o := mA f) (by rw [← hl]; exact hr f)
  have J : PySem.W.InstAt s1.heap a oe D (some od) := ⟨h1, hz.1, by unfold PySem.W.notCls; rw [h2] <;> rfl, by rw [hz.2]; exact ho⟩
  exact HandSPX.exc_get I1.kIn J C.hg C.hk C.hs (PySem.W.findObj_own C.hd hno rfl (by rw [hlk, hu])) (handed_of ru) ⟨v, H1, I1.tok _, ru, q⟩
end
theorem isT_to {K : PySem.W.Frag} {H : Hp} {Q : VK} {a D C : Addr} {d : Option Addr} {b : Bool} (ha : H a = some (ExT (.ref D) d a)) (hd : XdOk H d) (c : ExcC K D) (k : PySem.W.kitOne K (.ref D) (.ref C) = some b) (q : Q (.bl b) H) : rIsT K [.ref a, .ref C] H Q :=
  ⟨a, D, d, _, _, b, rfl, ha, hd, c, fun _ h => h, k, q⟩
theorem isT_ty {K : PySem.W.Frag} {H : Hp} {Q : VK} {a D : Addr} {d : Option Addr} {b : Bool} {n : String} (ha : H a = some (ExT (.ref D) d a)) (hd : XdOk H d) (c : ExcC K D) (k : PySem.W.kitOne K (.ref D) (.type n) = some b) (q : Q (.bl b) H) : rIsT K [.ref a, .ty n] H Q :=
  ⟨a, D, d, _, _, b, rfl, ha, hd, c, fun _ h => h, k, q⟩
/-! ### defs that are called within a suite and raise nothing -/
structure FnQ (P : Program) (w : World) (K : PySem.W.Frag) (mg : Str → Option Value) (base : Heap) (CX : CXT) (k : Nat) (f : Addr) (fd : FuncData) (ps : List Str) (sp : Sp) : Prop where
  len : ∀ vs H Q E, sp vs H Q E → vs.length = ps.length
  run : ∀ (A : Around) (outer : List Env) (s : Shared) (H : Hp) (args : Args) (us : List Value) (vs : List V) (Q : VK) (E : XK), L2H.RoomH k A → Env0 P w K mg base A outer s H → BindsTo s fd args (ps.zip us) → Vals vs us → sp vs H Q E → codeAny (model P w) A (.call (.ref f) args) (CR CX outer P w H s Q E) s
/-- the context of such a def's body -/
abbrev cxQ (CX : CXT) (P : Program) (w : World) (K : PySem.W.Frag) (mg : Str → Option Value) (base : Heap) (N : List Str) (qual : Str) (scope : Scope) (f : Addr) (cd : Value) (A : Around) (outer : List Env) (s : Shared) (H : Hp) (E : XK) : Cx :=
  { cxOf CX P w K mg base N qual scope f cd A outer s H E with calm := false }
section
variable {CX : CXT} {P : Program} {w : World} {K : PySem.W.Frag} {mg : Str → Option Value} {base : Heap} {N ps : List Str} {qual : Str} {scope : Scope} {f : Addr} {cd : Value} {A : Around} {outer : List Env} {s s1 : Shared} {H : Hp} {E : XK} {us : List Value} {vs : List V} {sp : Sp} {k : Nat}
theorem env0_mark (e0 : Env0 P w K mg base A outer s H) : Env0 P w K mg base ({ A with handled := none } : Around) outer s H := ⟨e0.frames, e0.mod, e0.bs, e0.bsz, e0.funs, e0.frf, e0.hok, e0.bare⟩
theorem inv_startQ (S : FnScope N ps scope) (e0 : Env0 P w K mg base A outer s H) (hl : vs.length = ps.length) (r : Vals vs us)
    (x : InCallC s s.heap.objs.size (bindL (envOfC qual scope s.heap.objs.size f cd).kindOf (ps.zip us) fun _ => none) (cellsFrom (s.heap.objs.size + 1) scope.names []) (bindC (envOfC qual scope s.heap.objs.size f cd).kindOf (ps.zip us) fun _ => none) s1) :
    Inv (cxQ CX P w K mg base N qual scope f cd A outer s H E) [] (L2.start N vs) H s1 := by
  have I := inv_start (CX := CX) (A := ({ A with handled := none } : Around)) (E := E) S rfl (env0_mark e0) hl r x
  exact ⟨⟨I.ok.mod, I.ok.kind, I.ok.glob, I.ok.blt, I.ok.above, I.ok.inj, I.ok.has, I.ok.cab, (fun z => Bool.noConfusion (show false = true from z)), I.ok.frames, I.ok.stk, I.ok.exf, I.ok.bs, I.ok.bsz, I.ok.noex, I.ok.exfs, I.ok.funs, I.ok.frf⟩, I.os, I.bare, I.base, I.loc, I.cell, I.free, I.freeC, I.pin, I.hok, I.len⟩
theorem okQ {x : Str} {params : Arguments} {body : List Stmt} {dvs : List V} {kws : List (Str × V)} {fd : FuncData} (F : FunD K x qual params body scope dvs kws f fd) (S : FnScope N ps scope) (len : ∀ vs H Q E, sp vs H Q E → vs.length = ps.length)
    (hbody : ∀ (cdv : Value) (A : Around) (outer : List Env) (s : Shared) (H : Hp) (vs : List V) (Q : VK) (E : XK), L2H.RoomH k (A.deeper (envOfC qual scope s.heap.objs.size f cdv)) → sp vs H Q E →
      ∃ t, PSs (cxQ CX P w K mg base N qual scope f cdv A outer s H E) body t ∧ t { nx := fun _ H' => Q .non H', rt := Q } (L2.start N vs) H) : FnQ P w K mg base CX (k + 1) f fd ps sp := by
  obtain ⟨oc, od, dV, kV, doc, pm, an, cdv, ct, osl, rfl, lk, hcd, _, _⟩ := F.ex
  refine ⟨len, fun A outer s H args us vs Q E hr e0 hb r hsp => ?_⟩
  have hl := len _ _ _ _ hsp
  have KX : K.In s.heap := e0.mod.kin.keeps fun b o e => (e0.bs b o e).1
  have lim : s.heap.NoLimit := e0.mod.nolimit.keeps fun b o e => (e0.bs b o e).1
  have hkind : ∀ y ∈ ps.zip us, scope.names.lookup y.1 = some .local ∨ (scope.names.lookup y.1 = some .cell ∧ ((cellsFrom (s.heap.objs.size + 1) scope.names []).lookup y.1).isSome = true) := fun ⟨n, v⟩ hy => by
    rcases S.par n (List.of_mem_zip hy).1 with q | q
    · exact .inl q
    · exact .inr ⟨q, PySem.W.cellsFrom_some _ _ _ (.inl q)⟩
  refine codeAny_call_function hr.depth (KX _ _ lk) rfl S.co S.gen rfl (PySem.W.codeRec_of KX hcd) (hb _ _ _ _ ?_)
  refine wpAny_newFunctionEnv_cells S.kind hkind fun env he s1 x => ?_
  subst he
  refine ⟨lim.keeps x.toInCall.keep, codeAny_func ?_⟩
  obtain ⟨t, ht, hq⟩ := hbody cdv A outer s H vs Q E (hr.deeper _) hsp
  have I : Inv (cxQ CX P w K mg base N qual scope f cdv A outer s H E) [] (L2.start N vs) H s1 := inv_startQ S e0 hl r x
  refine wpAny_mono (ht.run [] s1 (L2.start N vs) H _ I hq) (fun fl s' hs => ?_) fun e s' hs => hs
  have fin : ∀ {σ' : L2.St} {H' : Hp} {v : V} {u : Value}, Inv (cxQ CX P w K mg base N qual scope f cdv A outer s H E) [] σ' H' s' → RelV v u → Q v H' → CE outer P w H s Q u s' :=
    fun {σ' H' v u} J rv q => ⟨v, H', J.os, J.bare, J.base, J.hok, rv, q⟩
  cases fl with
  | ret u =>
    obtain ⟨v, σ', H', J, rv, q⟩ := hs
    exact fin J rv q
  | next =>
    obtain ⟨σ', H', J, q⟩ := hs
    exact fin (v := V.non) (u := Value.none) J rfl q
  | brk =>
    obtain ⟨_, _, _, q⟩ := hs
    exact False.elim q
  | cont =>
    obtain ⟨_, _, _, q⟩ := hs
    exact False.elim q
end
theorem roomQ {k : Nat} {A : Around} {h : Option Value} (r : Room k A) : L2H.RoomH k (A.mark h) := ⟨r.dp, r.un⟩
structure FnGQ (P : Program) (w : World) (K : PySem.W.Frag) (mg : Str → Option Value) (base : Heap) (CX : CXT) (x : Str) (ps : List Str) (k : Nat) (sp : Sp) : Prop where
  ex : ∃ f fd, mg x = some (.ref f) ∧ PySem.W.keepIn K (.ref f) = true ∧ Binds K fd ps [] ∧ FnQ P w K mg base CX k f fd ps sp
theorem pe_Q {X : Cx} {CX : CXT} {j k : Nat} {ps : List Str} {sp : Sp} {x : Str} {p pos : Pos} {e : Expr} {es : List Expr} {t : TA} (G : FnGQ X.prog X.w X.K X.mg X.base CX x ps k sp) (hr : L2H.RoomH j X.A) (hjk : k ≤ j) (hg : Gl X x) (hx : Passes CX X E0) (ha : PA X (e :: es) t)
    (hdb : (x == ("__debug__" : Str)) = false := by decide) (he : starEach (e :: es) X.env = (false, eval e X.env) :: starEach es X.env := by rfl) (hpl : (backTo pos (starEach es X.env)).any (·.1) = false := by rfl) :
    PE X (.Call (.Name x p) (e :: es) [] pos) (tCall sp [] E0 t) := by
  obtain ⟨f, fd, hm, hk, hb, F⟩ := G.ex
  refine ⟨fun pins s σ H Q I h => ?_⟩
  refine wpAny_Call_Name_kw (ld_glob I hg hm ?_ hdb)
  refine PySem.W.callWith_K (h₀ := X.base) I.ok.mod.kin hk (thn (ha.run pos pins s σ H _ I h) fun us s1 ⟨vs, H1, I1, r, q⟩ => ⟨I1.kIn, ?_⟩) he hpl
  have q : sp (vs ++ []) H1 Q E0 := q
  rw [List.append_nil] at q
  have hl : us.length = ps.length := by rw [← r.length]; exact F.len _ _ _ _ q
  have b := hb s1 us I1.kIn (by rw [List.append_nil]; exact hl)
  rw [List.append_nil] at b
  refine wpAny_call (codeAny_mono (F.run X.A X.stack s1 H1 ⟨us, []⟩ us vs Q E0 (hr.mono hjk) I1.env0 b r q) fun r s' hq => ?_)
  cases r with
  | error e => exact hx pins σ H1 s1 e s' I1 hq
  | ok fl =>
    cases fl with
    | ret u => exact I1.after hq
    | next => exact False.elim hq
    | brk => exact False.elim hq
    | cont => exact False.elim hq
end Sm
namespace Sm
open PySem PySem.Spec PyProof.Rows L2 SX
local macro_rules | `(tactic| walk_at "b") => `(tactic| dsimp only [tNil, tCons, tC, tVar])
local macro_rules | `(tactic| walk_at "n") => `(tactic| dsimp only [tNil, tCons, tC])
local macro_rules | `(tactic| walk_at "len") => `(tactic| (intro hlen; repeat (first | (obtain ⟨e, _⟩ := hlen; subst e; rfl) | (obtain ⟨_, hlen⟩ := hlen))))
local macro_rules | `(tactic| walk_at "ex") => `(tactic| first
  | assumption | exact Ex.refl _ | exact Rst.refl _ | exact upd_same
  | (refine Ex.new ?_ ?_ <;> walk_at "ex") | (refine Ex.back ?_ (by assumption) <;> walk_at "ex") | (refine Rst.new ?_ ?_ rfl <;> walk_at "ex")
  | (refine clo_new ?_ ?_ rfl <;> walk_at "ex"))
local macro_rules | `(tactic| walk_at "side") => `(tactic| first
  | with_reducible assumption | omega | (dsimp only; omega) | exact mulW64 (by omega) (by omega) | exact divW64 (by omega) (by omega) | decide | (rw [sz]; omega) | (refine ⟨?_, ?_⟩ <;> walk_at "side") | (rw [sz, txt_len]; omega) | walk_at "ex" | (rw [sz]; simp only [List.length_cons, List.length_nil]; omega) | decide +kernel)
local macro_rules | `(tactic| walk_at "go1") => `(tactic| first
  | refine ⟨_, rfl, ?_⟩
  | refine ⟨_, _, rfl, rfl, ?_⟩
  | refine ⟨_, _, rfl, ?_⟩
  | refine ⟨_, _, _, rfl, ?_⟩
  | refine ⟨rfl, ?_⟩
  | refine gTupN2 sqT_at ?_ | refine gTupN3 sqT_at ?_
  | refine ⟨tyV_list upd_same, ?_⟩ | refine ⟨tyV_list (by assumption), ?_⟩
  | refine ⟨_, _, rfl, Or.inl ‹SqL _ _ _ _›, ?_⟩
  | refine isi1 (isi_bl_bool ?_) | refine isi1 (isi_int_int ?_) | refine isi1 (isi_int_bool ?_) | refine isi1 (isi_str_str ?_) | refine isi1 (isi_lst ‹(_ : Option HO) = some (HO.lst _)› ?_)
  | refine ⟨_, _, _, _, rfl, rfl, ‹SqL _ _ _ _›, ‹atI _ _ = some _›, ?_⟩
  | refine ⟨_, _, _, rfl, rfl, (by walk_at "side"), ‹atI _ _ = some _›, ?_⟩)
local macro_rules | `(tactic| walk_at "go2") => `(tactic| first | walk_at "go1" | refine And.intro (by walk_at "side") ?_ | refine ⟨_, Trim.back (by walk_at "ex") ‹Clo _›, ?_⟩)
local macro_rules | `(tactic| walk_at "go") => `(tactic| repeat walk_at "go2")
local macro_rules | `(tactic| walk_at "if") => `(tactic| first | refine iteEI ?_ ?_ | refine iteNI ?_ ?_ | refine iteES ?_ ?_ | refine iteNS' ?_ ?_ | refine iteD ?_ ?_ | refine iteDN ?_ ?_ | refine ite2 ?_ ?_)
local macro_rules | `(tactic| walk_at "sq") => `(tactic| first | assumption | exact sqL_at | exact sqT_at | (refine sqL_new ?_ ?_ <;> walk_at "sq") | walk_at "ex")
local macro_rules | `(tactic| walk_at "draw") => `(tactic| refine ⟨_, _, _, _, rfl, (by walk_at "sq"), ‹_ ≤ 63›, (by omega), (by omega), (by omega), (by omega), ?_⟩)
local macro_rules | `(tactic| walk_at "tr") => `(tactic| first | exact tr_same | exact tr_some (by assumption) | (refine tr_upd ?_; walk_at "tr"))
local macro_rules | `(tactic| walk_at "ne") => `(tactic| first | assumption | (refine ne_fresh ?_ (by assumption); walk_at "tr") | (refine Ne.symm (ne_fresh ?_ (by assumption)); walk_at "tr"))
local macro_rules | `(tactic| walk_at "look") => `(tactic| first | exact upd_same | assumption | (refine Eq.trans (upd_ne ?_) ?_; (walk_at "ne"); (walk_at "look")))
structure Kx (K : PySem.W.Frag) : Prop where
  c_Shelf : Cls K (He.ga K "Shelf")
  e_NoLetters : ExcC K (He.ga K "NoLetters")
  e_NoPlace : ExcC K (He.ga K "NoPlace")
  e_NoRoom : ExcC K (He.ga K "NoRoom")
  e_NoThing : ExcC K (He.ga K "NoThing")
  m_NoLetters_ShelfError : PySem.W.exmOne K (.ref (He.ga K "NoLetters")) (.ref (He.ga K "ShelfError")) = some true
  m_NoPlace_ShelfError : PySem.W.exmOne K (.ref (He.ga K "NoPlace")) (.ref (He.ga K "ShelfError")) = some true
  m_NoRoom_ShelfError : PySem.W.exmOne K (.ref (He.ga K "NoRoom")) (.ref (He.ga K "ShelfError")) = some true
  m_NoThing_ShelfError : PySem.W.exmOne K (.ref (He.ga K "NoThing")) (.ref (He.ga K "ShelfError")) = some true
  i_NoLetters_NoHand : PySem.W.kitOne K (.ref (He.ga K "NoLetters")) (.ref (He.ga K "NoHand")) = some false
  i_NoLetters_NoLetters : PySem.W.kitOne K (.ref (He.ga K "NoLetters")) (.ref (He.ga K "NoLetters")) = some true
  i_NoLetters_NoLine : PySem.W.kitOne K (.ref (He.ga K "NoLetters")) (.ref (He.ga K "NoLine")) = some false
  i_NoLetters_NoPlace : PySem.W.kitOne K (.ref (He.ga K "NoLetters")) (.ref (He.ga K "NoPlace")) = some false
  i_NoLetters_NoRoom : PySem.W.kitOne K (.ref (He.ga K "NoLetters")) (.ref (He.ga K "NoRoom")) = some false
  i_NoLetters_NoShelf : PySem.W.kitOne K (.ref (He.ga K "NoLetters")) (.ref (He.ga K "NoShelf")) = some false
  i_NoLetters_NoState : PySem.W.kitOne K (.ref (He.ga K "NoLetters")) (.ref (He.ga K "NoState")) = some false
  i_NoLetters_NoThing : PySem.W.kitOne K (.ref (He.ga K "NoLetters")) (.ref (He.ga K "NoThing")) = some false
  i_NoPlace_NoHand : PySem.W.kitOne K (.ref (He.ga K "NoPlace")) (.ref (He.ga K "NoHand")) = some false
  i_NoPlace_NoLetters : PySem.W.kitOne K (.ref (He.ga K "NoPlace")) (.ref (He.ga K "NoLetters")) = some false
  i_NoPlace_NoLine : PySem.W.kitOne K (.ref (He.ga K "NoPlace")) (.ref (He.ga K "NoLine")) = some false
  i_NoPlace_NoPlace : PySem.W.kitOne K (.ref (He.ga K "NoPlace")) (.ref (He.ga K "NoPlace")) = some true
  i_NoPlace_NoRoom : PySem.W.kitOne K (.ref (He.ga K "NoPlace")) (.ref (He.ga K "NoRoom")) = some false
  i_NoPlace_NoShelf : PySem.W.kitOne K (.ref (He.ga K "NoPlace")) (.ref (He.ga K "NoShelf")) = some false
  i_NoPlace_NoState : PySem.W.kitOne K (.ref (He.ga K "NoPlace")) (.ref (He.ga K "NoState")) = some false
  i_NoPlace_NoThing : PySem.W.kitOne K (.ref (He.ga K "NoPlace")) (.ref (He.ga K "NoThing")) = some false
  i_NoRoom_NoHand : PySem.W.kitOne K (.ref (He.ga K "NoRoom")) (.ref (He.ga K "NoHand")) = some false
  i_NoRoom_NoLetters : PySem.W.kitOne K (.ref (He.ga K "NoRoom")) (.ref (He.ga K "NoLetters")) = some false
  i_NoRoom_NoLine : PySem.W.kitOne K (.ref (He.ga K "NoRoom")) (.ref (He.ga K "NoLine")) = some false
  i_NoRoom_NoPlace : PySem.W.kitOne K (.ref (He.ga K "NoRoom")) (.ref (He.ga K "NoPlace")) = some false
  i_NoRoom_NoRoom : PySem.W.kitOne K (.ref (He.ga K "NoRoom")) (.ref (He.ga K "NoRoom")) = some true
  i_NoRoom_NoShelf : PySem.W.kitOne K (.ref (He.ga K "NoRoom")) (.ref (He.ga K "NoShelf")) = some false
  i_NoRoom_NoState : PySem.W.kitOne K (.ref (He.ga K "NoRoom")) (.ref (He.ga K "NoState")) = some false
  i_NoRoom_NoThing : PySem.W.kitOne K (.ref (He.ga K "NoRoom")) (.ref (He.ga K "NoThing")) = some false
  i_NoThing_NoHand : PySem.W.kitOne K (.ref (He.ga K "NoThing")) (.ref (He.ga K "NoHand")) = some false
  i_NoThing_NoLetters : PySem.W.kitOne K (.ref (He.ga K "NoThing")) (.ref (He.ga K "NoLetters")) = some false
  i_NoThing_NoLine : PySem.W.kitOne K (.ref (He.ga K "NoThing")) (.ref (He.ga K "NoLine")) = some false
  i_NoThing_NoPlace : PySem.W.kitOne K (.ref (He.ga K "NoThing")) (.ref (He.ga K "NoPlace")) = some false
  i_NoThing_NoRoom : PySem.W.kitOne K (.ref (He.ga K "NoThing")) (.ref (He.ga K "NoRoom")) = some false
  i_NoThing_NoShelf : PySem.W.kitOne K (.ref (He.ga K "NoThing")) (.ref (He.ga K "NoShelf")) = some false
  i_NoThing_NoState : PySem.W.kitOne K (.ref (He.ga K "NoThing")) (.ref (He.ga K "NoState")) = some false
  i_NoThing_NoThing : PySem.W.kitOne K (.ref (He.ga K "NoThing")) (.ref (He.ga K "NoThing")) = some true
  i_NoLetters_ValueError : PySem.W.kitOne K (.ref (He.ga K "NoLetters")) (.type "ValueError") = some true
  i_NoPlace_ValueError : PySem.W.kitOne K (.ref (He.ga K "NoPlace")) (.type "ValueError") = some true
  i_NoRoom_ValueError : PySem.W.kitOne K (.ref (He.ga K "NoRoom")) (.type "ValueError") = some true
  i_NoThing_ValueError : PySem.W.kitOne K (.ref (He.ga K "NoThing")) (.type "ValueError") = some true
  m_Shelf_ask_put : Meth K (He.ga K "Shelf") "ask_put" (He.ma K (He.ga K "Shelf") "ask_put")
  m_Shelf_marks : Meth K (He.ga K "Shelf") "marks" (He.ma K (He.ga K "Shelf") "marks")
  m_Shelf_marks_round : Meth K (He.ga K "Shelf") "marks_round" (He.ma K (He.ga K "Shelf") "marks_round")
  m_Shelf_put : Meth K (He.ga K "Shelf") "put" (He.ma K (He.ga K "Shelf") "put")
  m_Shelf_put_row : Meth K (He.ga K "Shelf") "put_row" (He.ma K (He.ga K "Shelf") "put_row")
  m_Shelf_take : Meth K (He.ga K "Shelf") "take" (He.ma K (He.ga K "Shelf") "take")
  m_Shelf_things : Meth K (He.ga K "Shelf") "things" (He.ma K (He.ga K "Shelf") "things")
  mk_Shelf : Mk K (He.ga K "Shelf") (He.ma K (He.ga K "Shelf") "__init__")
  a_Shelf_letters : NoAttr K (He.ga K "Shelf") "letters"
  a_Shelf_row_marks : NoAttr K (He.ga K "Shelf") "row_marks"
  a_Shelf_row_things : NoAttr K (He.ga K "Shelf") "row_things"
/-! ### shelves -/
def shF (L : Int) (lt lm : Addr) : List (Str × V) := [("letters", .int L), ("row_things", .ref lt), ("row_marks", .ref lm)]
structure IsShelf (K : PySem.W.Frag) (H : Hp) (p lt lm : Addr) (L : Int) (ts ms : List Str) : Prop where
  at_ : ∃ dx, H p = some (.ins (He.ga K "Shelf") dx (shF L lt lm))
  lt : H lt = some (.lst (ts.map V.str))
  lm : H lm = some (.lst (ms.map V.str))
section
variable {K : PySem.W.Frag} {H : Hp} {p lt lm : Addr} {L : Int} {ts ms : List Str}
theorem IsShelf.ex {H' : Hp} (h : IsShelf K H p lt lm L ts ms) (e : Ex H H') : IsShelf K H' p lt lm L ts ms := by
  obtain ⟨⟨dx, h1⟩, h2, h3⟩ := h
  exact ⟨⟨dx, e _ _ h1⟩, e _ _ h2, e _ _ h3⟩
theorem ins_ne_lst {a b C dx : Addr} {fs : List (Str × V)} {xs : List V} (h1 : H a = some (.ins C dx fs)) (h2 : H b = some (.lst xs)) : a ≠ b := fun e => by
  rw [e, h2] at h1
  cases h1
theorem IsShelf.upd {q : Addr} {o : HO} (h : IsShelf K H p lt lm L ts ms) (h1 : p ≠ q) (h2 : lt ≠ q) (h3 : lm ≠ q) : IsShelf K (upd H q o) p lt lm L ts ms := by
  obtain ⟨⟨dx, e1⟩, e2, e3⟩ := h
  exact ⟨⟨dx, by rw [upd_ne h1]; exact e1⟩, by rw [upd_ne h2]; exact e2, by rw [upd_ne h3]; exact e3⟩
/-- a list elsewhere is changed -/
theorem IsShelf.other {q : Addr} {xs : List V} {o : HO} (h : IsShelf K H p lt lm L ts ms) (hq : H q = some (.lst xs)) (h2 : lt ≠ q) (h3 : lm ≠ q) : IsShelf K (L2.upd H q o) p lt lm L ts ms := by
  obtain ⟨dx, e1⟩ := h.at_
  exact h.upd (ins_ne_lst e1 hq) h2 h3
theorem IsShelf.set_t {ts' : List Str} (h : IsShelf K H p lt lm L ts ms) (ne : lt ≠ lm) : IsShelf K (L2.upd H lt (.lst (ts'.map V.str))) p lt lm L ts' ms := by
  obtain ⟨⟨dx, e1⟩, e2, e3⟩ := h
  exact ⟨⟨dx, by rw [upd_ne (ins_ne_lst e1 e2)]; exact e1⟩, upd_same, by rw [upd_ne ne.symm]; exact e3⟩
theorem IsShelf.set_m {ms' : List Str} (h : IsShelf K H p lt lm L ts ms) (ne : lt ≠ lm) : IsShelf K (L2.upd H lm (.lst (ms'.map V.str))) p lt lm L ts ms' := by
  obtain ⟨⟨dx, e1⟩, e2, e3⟩ := h
  exact ⟨⟨dx, by rw [upd_ne (ins_ne_lst e1 e3)]; exact e1⟩, by rw [upd_ne ne]; exact e2, upd_same⟩
theorem shF_no {m : Str} (h1 : (m == "letters") = false) (h2 : (m == "row_things") = false) (h3 : (m == "row_marks") = false) : (shF L lt lm).lookup m = none := by
  unfold shF
  rw [List.lookup_cons, h1, List.lookup_cons, h2, List.lookup_cons, h3]
  rfl
theorem sh_meth {m : Str} {Z : Prop} (h : IsShelf K H p lt lm L ts ms) (h1 : (m == "letters") = false) (h2 : (m == "row_things") = false) (h3 : (m == "row_marks") = false) (q : Z) : ∃ a dx fs, V.ref p = .ref a ∧ H a = some (.ins (He.ga K "Shelf") dx fs) ∧ fs.lookup m = none ∧ Z := by
  obtain ⟨dx, e⟩ := h.at_
  exact ⟨_, _, _, rfl, e, shF_no h1 h2 h3, q⟩
end
/-- y put in at i -/
def insL {α : Type} (xs : List α) (i : Nat) (y : α) : List α := xs.take i ++ [y] ++ xs.drop i
theorem insL_map {α β : Type} (f : α → β) (xs : List α) (i : Nat) (y : α) : (xs.map f).take i ++ [f y] ++ (xs.map f).drop i = (insL xs i y).map f := by
  unfold insL
  rw [List.map_append, List.map_append, List.map_take, List.map_drop]
  rfl
theorem insL_map' {α β : Type} (f : α → β) (xs : List α) (i : Nat) (y : α) : insL (xs.map f) i (f y) = (insL xs i y).map f := insL_map f xs i y
theorem insL_len {α : Type} {xs : List α} {i : Nat} {y : α} (h : i ≤ xs.length) : (insL xs i y).length = xs.length + 1 := by
  unfold insL
  rw [List.length_append, List.length_append, List.length_take, List.length_drop, List.length_singleton]
  omega
def lowAt {α : Type} (M : List α) (i : Nat) : Option α := if i = 0 then none else M[i - 1]?
/-! ### ask_letters -/
/-- how many letters and hands there may be -/
def SizeOk (L h : Int) : Prop := 2 ≤ L ∧ L ≤ 26 ∧ 1 ≤ h ∧ h < L
instance {L h : Int} : Decidable (SizeOk L h) := by unfold SizeOk; infer_instance
def sp_ask_letters (K : PySem.W.Frag) : Sp := fun vs H Q E => ∃ (L h : Int), vs = [.int L, .int h] ∧ Clo H ∧ (SizeOk L h → Q .non H) ∧ (¬ SizeOk L h → E (.ref (He.ga K "NoLetters")) none H)
def t_ask_letters (K : PySem.W.Frag) (E : XK) : TS :=
  (tIfS (tOr (tTest (tOp rLtI (tVar 0) (tC (.int 2)))) (tOr (tTest (tOp rGtI (tVar 0) (tCB rLenS1 (tCons (tC (.str "abcdefghijklmnopqrstuvwxyz")) tNil)))) (tOr (tTest (tOp rLtI (tVar 1) (tC (.int 1)))) (tTest (tOp rGeI (tVar 1) (tVar 0))))))
    (tRaiseO K "NoLetters" (fun c d _ H => E c d H))
    tNext)
theorem len_ask_letters {K : PySem.W.Frag} (vs : List V) (H : Hp) (Q : VK) (E : XK) : sp_ask_letters K vs H Q E → vs.length = (["letters", "hands"] : List Str).length := by
  walk_at "len"

theorem pure_ask_letters {K : PySem.W.Frag} (T : Kx K) (vs : List V) (H : Hp) (Q : VK) (E : XK) (h : sp_ask_letters K vs H Q E) : t_ask_letters K E { nx := fun _ H' => Q .non H', rt := Q } (start ["letters", "hands"] vs) H := by
  obtain ⟨L, h, rfl, hC, q1, q2⟩ := h
  have hl := let_len
  walk_at "go"
  refine iteD (fun c => q2 fun z => by obtain ⟨_, _, _, _⟩ := z; omega) fun c1 => ?_
  walk_at "go"
  refine iteD (fun c => q2 fun z => by obtain ⟨_, _, _, _⟩ := z; omega) fun c2 => ?_
  walk_at "go"
  refine iteD (fun c => q2 fun z => by obtain ⟨_, _, _, _⟩ := z; omega) fun c3 => ?_
  walk_at "go"
  refine iteD (fun c => q2 fun z => by obtain ⟨_, _, _, _⟩ := z; omega) fun c4 => ?_
  exact q1 ⟨by omega, by omega, by omega, by omega⟩
/-! ### whole_of -/
def sp_whole_of (K : PySem.W.Frag) : Sp := fun vs H Q _ => ∃ (L k : Nat) (ds : List Nat), vs = [.int L, .str (txt ds), .int k] ∧ L ≤ 26 ∧ (∀ d ∈ ds, d < 26) ∧ ds.length ≤ 1000000 ∧ k ≤ 100000 ∧ Q (.int (whole L ds k)) H
def t_whole_of (K : PySem.W.Frag) (E : XK) : TS :=
  (tSeq (tAsg (tC (.int 0)) (gName 3))
    (tSeq (tFor (iRng1 (tCons (tVar 2) tNil)) (gName 4)
    (tSeq (tAsg (tOp rMulW (tVar 3) (tVar 0)) (gName 3))
    (tIfS (tTest (tOp rLtI (tVar 4) (tCB rLenS1 (tCons (tVar 1) tNil))))
    (tAsg (tOp rAddI (tVar 3) (tBMS K "str" rIndexS (tC (.str "abcdefghijklmnopqrstuvwxyz")) (tCons (tOp rIxS (tVar 1) (tVar 4)) tNil))) (gName 3))
    tNext)))
    (tRet (tVar 3))))
theorem len_whole_of {K : PySem.W.Frag} (vs : List V) (H : Hp) (Q : VK) (E : XK) : sp_whole_of K vs H Q E → vs.length = (["letters", "mark", "long"] : List Str).length := by
  walk_at "len"

theorem pure_whole_of {K : PySem.W.Frag} (T : Kx K) (vs : List V) (H : Hp) (Q : VK) (E : XK) (h : sp_whole_of K vs H Q E) : t_whole_of K E { nx := fun _ H' => Q .non H', rt := Q } (start ["letters", "mark", "long", "whole", "k"] vs) H := by
  obtain ⟨L, k, ds, rfl, hL, hds, hl, hk, q⟩ := h
  walk_at "go"
  refine for_fix walk_range1 (fun i σ' => ∃ x4, σ' = [some (.int L), some (.str (txt ds)), some (.int k), some (.int (whole L ds i)), x4]) trivial ⟨_, rfl⟩ ?_ ?_
  · rintro i σ' hi ⟨x4, rfl⟩
    have hi' : i < k := by simpa using hi
    have hw := whole_mulW (k := i) hL hds (by omega)
    have hlen := txt_len ds
    have hg := getD_lt (L := 26) (by decide) hds i
    walk_at "go"
    refine iteD (fun c => ?_) fun c => ?_
    · have hx := txt_at (ds := ds) (j := i) (by omega)
      have hix := idx_let (ds.getD i 0) hg
      walk_at "go"
      refine ⟨_, _, _, rfl, rfl, hix, ?_⟩
      walk_at "go"
      exact ⟨_, rfl⟩
    · have e : ds.getD i 0 = 0 := by
        rw [List.getD_eq_getElem?_getD, List.getElem?_eq_none (by omega)]; rfl
      have e2 : whole L ds (i + 1) = whole L ds i * L := by
        show whole L ds i * L + ds.getD i 0 = _
        rw [e, Nat.add_zero]
      walk_at "go"
      rw [e2]
      exact ⟨_, rfl⟩
  · rintro σ' ⟨x4, rfl⟩
    rw [Int.toNat_natCast]
    walk_at "go"
    exact q
/-! ### mark_of -/
def sp_mark_of (K : PySem.W.Frag) : Sp := fun vs H Q _ => ∃ L n k : Nat, vs = [.int L, .int n, .int k] ∧ 1 ≤ L ∧ L ≤ 26 ∧ k ≤ 100000 ∧ Clo H ∧ Q (.str (txt (markOf L n k))) H
def t_mark_of (K : PySem.W.Frag) (E : XK) : TS :=
  (tTrim (tSeq (tAsg (tLst tNil) (gName 3))
    (tSeq (tFor (iRng1 (tCons (tVar 2) tNil)) (gName 4)
    (tSeq (tTrim (tAsg (tCB rDivmod (tCons (tVar 1) (tCons (tVar 0) tNil))) (gTup K 2 (gCons (gName 1) (gCons (gName 5) gNil)))))
    (tDrop (tBM K "list" rAppend (tVar 3) (tCons (tOp rIxS (tC (.str "abcdefghijklmnopqrstuvwxyz")) (tVar 5)) tNil)))))
    (tSeq (tDrop (tBM0 K "list" rReverse (tVar 3)))
    (tRet (tBM K "str" rRstrip (tBM K "str" (rJoin K) (tC (.str "")) (tCons (tVar 3) tNil)) (tCons (tC (.str "a")) tNil)))))))
theorem len_mark_of {K : PySem.W.Frag} (vs : List V) (H : Hp) (Q : VK) (E : XK) : sp_mark_of K vs H Q E → vs.length = (["letters", "number", "long"] : List Str).length := by
  walk_at "len"

theorem pure_mark_of {K : PySem.W.Frag} (T : Kx K) (vs : List V) (H : Hp) (Q : VK) (E : XK) (h : sp_mark_of K vs H Q E) : t_mark_of K E { nx := fun _ H' => Q .non H', rt := Q } (start ["letters", "number", "long", "signs", "k", "rest"] vs) H := by
  obtain ⟨L, n, k, rfl, hL, hL2, hk, hC, q⟩ := h
  walk_at "go"
  intro p hp
  walk_at "go"
  refine for_fn walk_range1 (fun i σ' H' => ∃ x4 x5, H' = upd H p (.lst (((low L n i).map fun d => txt [d]).map V.str)) ∧ σ' = [some (.int L), some (.int ((n / L ^ i : Nat) : Int)), some (.int k), some (.ref p), x4, x5])
    ⟨_, _, rfl, by rw [Nat.pow_zero, Nat.div_one]; rfl⟩ (fun _ _ _ _ _ => trivial) ?_ ?_
  · rintro i σ' _ hi ⟨x4, x5, rfl, rfl⟩
    have hi' : i < k := by simpa using hi
    walk_at "go"
    intro p1 hp1
    refine gTupN2 sqT_at ?_
    have hc : Clo (upd H p (.lst (((low L n i).map fun d => txt [d]).map V.str))) := clo_new hC hp rfl
    have hd : ((n / L ^ i : Nat) : Int) % (L : Int) = ((n / L ^ i % L : Nat) : Int) := rfl
    have hd2 : ((n / L ^ i : Nat) : Int) / (L : Int) = ((n / L ^ (i + 1) : Nat) : Int) := by
      rw [Nat.pow_succ, ← Nat.div_div_eq_div_mul]; rfl
    have hr : n / L ^ i % L < 26 := Nat.lt_of_lt_of_le (Nat.mod_lt _ (by omega)) hL2
    rw [hd, hd2]
    refine ⟨_, Trim.back (by walk_at "ex") hc, ?_⟩
    have hx := let_at (j := ((n / L ^ i % L : Nat) : Int)) (by omega) (by omega)
    walk_at "go"
    walk_at "b"
    refine app_new ?_ ?_
    · rw [List.length_map, List.length_map, low_len, sz]; omega
    refine ⟨_, _, ?_, rfl⟩
    rw [Int.toNat_natCast]
    show upd H p (.lst _) = upd H p (.lst (((low L n i ++ [n / L ^ i % L]).map fun d => txt [d]).map V.str))
    rw [List.map_append, List.map_append]
    rfl
  · rintro σ' _ ⟨x4, x5, rfl, rfl⟩
    walk_at "go"
    refine rev_new ?_
    rw [Int.toNat_natCast, ← List.map_reverse, ← List.map_reverse]
    walk_at "go"
    walk_at "b"
    refine join_txts sqL_at ?_ ?_
    · rw [List.length_reverse, low_len]; omega
    walk_at "go"
    refine ⟨by rw [sz, txt_len, List.length_reverse, low_len]; omega, ?_⟩
    rw [rstrip_txt]
    exact ⟨_, Trim.back (by walk_at "ex") hC, q⟩
/-! ### ends_of -/
def sp_ends_of (K : PySem.W.Frag) : Sp := fun vs H Q _ => ∃ (L h d : Nat), vs = [.int L, .int h, .int d] ∧ 2 ≤ L ∧ L ≤ 26 ∧ 1 ≤ h ∧ Clo H ∧ Q (.str (txt (ends L h d))) H
def t_ends_of (K : PySem.W.Frag) (E : XK) : TS :=
  (tTrim (tRet (tTrimE (tBM K "str" (rJoin K) (tC (.str "")) (tCons (tLc (iRng2 (tCons (tC (.int 1)) (tCons (tVar 0) tNil))) (gName 3) (tTest (tOp rEq (tOp rModI (tOp rSubI (tVar 3) (tC (.int 1))) (tVar 1)) (tVar 2))) (tOp rIxS (tC (.str "abcdefghijklmnopqrstuvwxyz")) (tVar 3)) [3]) tNil)))))
theorem len_ends_of {K : PySem.W.Frag} (vs : List V) (H : Hp) (Q : VK) (E : XK) : sp_ends_of K vs H Q E → vs.length = (["letters", "hands", "hand"] : List Str).length := by
  walk_at "len"

theorem pure_ends_of {K : PySem.W.Frag} (T : Kx K) (vs : List V) (H : Hp) (Q : VK) (E : XK) (h : sp_ends_of K vs H Q E) : t_ends_of K E { nx := fun _ H' => Q .non H', rt := Q } (start ["letters", "hands", "hand", "k"] vs) H := by
  obtain ⟨L, h, d, rfl, hL, hL2, hh, hC, q⟩ := h
  walk_at "go"
  intro D hD
  refine lc_fn walk_range (fun i => i % h == d) (fun i => .str (txt [i + 1])) (by omega) (fun _ => trivial) ?_ ?_
  · intro i acc hi hacc N h1 h2
    have hm : (1 + (i : Int) - 1) % (h : Int) = ((i % h : Nat) : Int) := by rw [show 1 + (i : Int) - 1 = (i : Int) by omega]; rfl
    walk_at "go"
    walk_at "if"
    · intro c
      have hx := let_at (j := 1 + (i : Int)) (by omega) (by omega)
      walk_at "go"
      refine lc_end hacc (by omega) ?_
      have e : (97 + (1 + (i : Int)).toNat) = 97 + (i + 1) := by omega
      rw [e]
      exact h1 (beq_iff_eq.mpr (by omega))
    · intro c
      exact h2 (beq_eq_false_iff_ne.mpr (by omega))
  · have e : (((List.range ((L : Int) - 1).toNat).filter fun i => i % h == d).map fun i => V.str (txt [i + 1])) = ((ends L h d).map fun d => txt [d]).map V.str := by
      unfold ends
      rw [List.map_map, List.map_map, show ((L : Int) - 1).toNat = L - 1 by omega]; rfl
    rw [e]
    refine ⟨_, _, _, rfl, rfl, .inl sqL_at, ?_, ?_⟩
    · have h1 := ends_le L h d
      have h2 : ((((ends L h d).map fun d => txt [d])).map (·.length)).sum = (ends L h d).length := by
        generalize ends L h d = l
        induction l with
        | nil => rfl
        | cons a r ih =>
          rw [List.map_cons, List.map_cons, List.sum_cons, ih, List.length_cons, txt_len]
          show 1 + _ = _
          omega
      rw [h2]
      show _ + _ * 0 ≤ _
      omega
    · rw [join_txt]
      walk_at "go"
      exact q
/-! ### numbers_between -/
/-- a text or None, not too long -/
structure Ends3 (L : Nat) (lo hi : Option (List Nat)) : Prop where
  e : Ends2 L lo hi
  lol : ∀ a, lo = some a → a.length ≤ 90000
  hil : ∀ b, hi = some b → b.length ≤ 90000
/-- low and high stand right -/
def Right (lo hi : Option (List Nat)) : Prop := ∀ a b, lo = some a → hi = some b → a < b
def sp_numbers_between (K : PySem.W.Frag) : Sp := fun vs H Q E => ∃ (L k : Nat) (lo hi : Option (List Nat)), vs = [.int L, optV lo, optV hi, .int k] ∧ 2 ≤ L ∧ L ≤ 26 ∧ k ≤ 90000 ∧ Ends3 L lo hi ∧ Clo H ∧
  (Right lo hi → ∀ p, H p = none → Q (.ref p) (upd H p (.tup [.int (lowN L lo k : Nat), .int ((pastN L hi k : Nat) - 1 : Int)]))) ∧ (¬ Right lo hi → E (.ref (He.ga K "NoRoom")) none H)
def t_numbers_between (K : PySem.W.Frag) (E : XK) : TS :=
  (tTrim (tMeet (tIfS (tAnd (tTest (tOp rNotN (tVar 1) (tC .non))) (tAnd (tTest (tOp rNotN (tVar 2) (tC .non))) (tNot (tTest (tOp rLtS (tVar 1) (tVar 2))))))
    (tRaiseO K "NoRoom" (fun c d _ H => E c d H))
    tNext)
    (tSeq (tAsg (tC (.int 1)) (gName 4))
    (tMeet (tIfS (tTest (tOp rNotN (tVar 1) (tC .non)))
    (tAsg (tOp rAddI (tCall (sp_whole_of K) [] E (tCons (tVar 0) (tCons (tVar 1) (tCons (tVar 3) tNil)))) (tC (.int 1))) (gName 4))
    tNext)
    (tSeq (tAsg (tC (.int 1)) (gName 5))
    (tSeq (tFor (iRng1 (tCons (tVar 3) tNil)) (gName 6)
    (tAsg (tOp rMulW (tVar 5) (tVar 0)) (gName 5)))
    (tSeq (tAsg (tOp rSubI (tVar 5) (tC (.int 1))) (gName 5))
    (tMeet (tIfS (tTest (tOp rNotN (tVar 2) (tC .non)))
    (tSeq (tAsg (tCall (sp_whole_of K) [] E (tCons (tVar 0) (tCons (tVar 2) (tCons (tVar 3) tNil)))) (gName 5))
    (tIfS (tTest (tOp rLeI (tCB rLenS1 (tCons (tVar 2) tNil)) (tVar 3)))
    (tAsg (tOp rSubI (tVar 5) (tC (.int 1))) (gName 5))
    tNext))
    tNext)
    (tRet (tTup (tCons (tVar 4) (tCons (tVar 5) tNil))))))))))))
theorem len_numbers_between {K : PySem.W.Frag} (vs : List V) (H : Hp) (Q : VK) (E : XK) : sp_numbers_between K vs H Q E → vs.length = (["letters", "low", "high", "long"] : List Str).length := by
  walk_at "len"

theorem pure_numbers_between {K : PySem.W.Frag} (T : Kx K) (vs : List V) (H : Hp) (Q : VK) (E : XK) (h : sp_numbers_between K vs H Q E) : t_numbers_between K E { nx := fun _ H' => Q .non H', rt := Q } (start ["letters", "low", "high", "long", "least", "most", "k"] vs) H := by
  obtain ⟨L, k, lo, hi, rfl, hL, hL2, hk, he, hC, q1, q2⟩ := h
  by_cases hr : Right lo hi
  · have q := q1 hr
    clear q1 q2
    refine meet_fix (fun σ' => σ' = [some (.int L), some (optV lo), some (optV hi), some (.int k), none, none, none]) ?_ ?_
    · walk_at "go"
      cases lo with
      | none =>
        refine iteF ?_
        exact ⟨rfl, rfl⟩
      | some a =>
        refine iteT ?_
        walk_at "go"
        cases hi with
        | none =>
          refine iteF ?_
          exact ⟨rfl, rfl⟩
        | some b =>
          refine iteT ?_
          walk_at "go"
          have hab := hr a b rfl rfl
          rw [txt_lt, decide_eq_true hab]
          exact ⟨rfl, rfl⟩
    rintro _ rfl
    walk_at "go"
    refine meet_fix (fun σ' => σ' = [some (.int L), some (optV lo), some (optV hi), some (.int k), some (.int (lowN L lo k : Nat)), none, none]) ?_ ?_
    · walk_at "go"
      cases lo with
      | none =>
        refine iteF ?_
        exact ⟨rfl, rfl⟩
      | some a =>
        refine iteT ?_
        have hm := (he.e.lo a rfl).1
        have hla := he.lol a rfl
        have hlt : ∀ d ∈ a, d < 26 := fun d hd => Nat.lt_of_lt_of_le (hm.lt d hd) hL2
        walk_at "go"
        rfl
    rintro _ rfl
    walk_at "go"
    refine for_fix walk_range1 (fun i σ' => ∃ x6, σ' = [some (.int L), some (optV lo), some (optV hi), some (.int k), some (.int (lowN L lo k : Nat)), some (.int ((L ^ i : Nat) : Int)), x6]) trivial ⟨_, rfl⟩ ?_ ?_
    · rintro i σ' hi ⟨x6, rfl⟩
      have hi' : i < k := by simpa using hi
      have hw := pow_mulW (k := i) hL2 (by omega)
      walk_at "go"
      refine ⟨some (.int i), ?_⟩
      rw [Nat.pow_succ]
      rfl
    rintro σ' ⟨x6, rfl⟩
    rw [Int.toNat_natCast]
    walk_at "go"
    refine meet_fix (fun σ' => σ' = [some (.int L), some (optV lo), some (optV hi), some (.int k), some (.int (lowN L lo k : Nat)), some (.int ((pastN L hi k : Nat) - 1 : Int)), x6]) ?_ ?_
    · walk_at "go"
      cases hi with
      | none =>
        refine iteF ?_
        exact ⟨rfl, rfl⟩
      | some b =>
        refine iteT ?_
        have hm := (he.e.hi b rfl).1
        have hlb := he.hil b rfl
        have hlt : ∀ d ∈ b, d < 26 := fun d hd => Nat.lt_of_lt_of_le (hm.lt d hd) hL2
        have hlen := txt_len b
        walk_at "go"
        have hp : pastN L (some b) k = if b.length ≤ k then whole L b k else whole L b k + 1 := rfl
        refine iteD (fun c => ?_) fun c => ?_
        · rw [if_pos (by omega)] at hp
          walk_at "go"
          rw [hp]
          rfl
        · rw [if_neg (by omega)] at hp
          have e : ((pastN L (some b) k : Nat) - 1 : Int) = (whole L b k : Nat) := by omega
          rw [e]
          exact ⟨rfl, rfl⟩
    rintro _ rfl
    walk_at "go"
    intro p hp
    exact ⟨_, Trim.last (Rst.refl H) (Ex.refl H) hp hC rfl, q p hp⟩
  · have q := q2 hr
    refine ⟨fun _ _ => False, ?_, fun _ _ z => False.elim z⟩
    walk_at "go"
    cases lo with
    | none => exact absurd (fun a b z _ => nomatch z) hr
    | some a =>
      cases hi with
      | none => exact absurd (fun a b _ z => nomatch z) hr
      | some b =>
        have hab : ¬ a < b := fun z => hr fun a' b' h1 h2 => by cases h1; cases h2; exact z
        refine iteT ?_
        walk_at "go"
        rw [txt_lt, decide_eq_false hab]
        exact q
/-! ### figures_of -/
def sp_figures_of (K : PySem.W.Frag) : Sp := fun vs H Q _ => ∃ (L h d : Nat), vs = [.int L, .int h, .int d] ∧ 2 ≤ L ∧ L ≤ 26 ∧ 1 ≤ h ∧ Clo H ∧ ∀ p, H p = none → Q (.ref p) (upd H p (.lst ((ends L h d).map natV)))
def t_figures_of (K : PySem.W.Frag) (E : XK) : TS :=
  (tTrim (tRet (tLc (iStr (tCall (sp_ends_of K) [] E (tCons (tVar 0) (tCons (tVar 1) (tCons (tVar 2) tNil))))) (gName 3) tYes (tBMS K "str" rIndexS (tC (.str "abcdefghijklmnopqrstuvwxyz")) (tCons (tVar 3) tNil)) [3])))
theorem len_figures_of {K : PySem.W.Frag} (vs : List V) (H : Hp) (Q : VK) (E : XK) : sp_figures_of K vs H Q E → vs.length = (["letters", "hands", "hand"] : List Str).length := by
  walk_at "len"

theorem pure_figures_of {K : PySem.W.Frag} (T : Kx K) (vs : List V) (H : Hp) (Q : VK) (E : XK) (h : sp_figures_of K vs H Q E) : t_figures_of K E { nx := fun _ H' => Q .non H', rt := Q } (start ["letters", "hands", "hand", "sign"] vs) H := by
  obtain ⟨L, h, d, rfl, hL, hL2, hh, hC, q⟩ := h
  walk_at "go"
  intro p hp
  have hl := ends_le L h d
  have hsz : (txt (ends L h d)).cps.size = (ends L h d).length := txt_len _
  refine lc_fn walk_strF (fun _ => true) (fun i => natV ((ends L h d).getD i 0)) (by omega) (fun _ => trivial) ?_ ?_
  · intro i acc hi ha N hN _
    have hi' : i < (ends L h d).length := by omega
    have e : (txt (ends L h d)).cps.toList.getD i 0 = 97 + (ends L h d).getD i 0 := by
      rw [txt_tl, List.getD_eq_getElem?_getD, List.getElem?_map, List.getElem?_eq_getElem hi', List.getD_eq_getElem?_getD, List.getElem?_eq_getElem hi']; rfl
    have hf : (ends L h d).getD i 0 < 26 := getD_lt (by decide) (fun f hf => Nat.lt_of_lt_of_le (ends_mem.mp hf).2.1 hL2) i
    have hix := idx_let _ hf
    rw [e]
    walk_at "go"
    refine ⟨_, _, _, rfl, rfl, hix, ?_⟩
    exact lc_end ha (by omega) (hN rfl)
  · rw [hsz, filt_all, range_mapF (ends L h d) 0 natV]
    exact ⟨_, Trim.last (Rst.refl H) (Ex.refl H) hp hC rfl, q p hp⟩
/-! ### many_below -/
def sp_many_below (K : PySem.W.Frag) : Sp := fun vs H Q _ => ∃ (L n : Nat) (p : Addr) (F : List Nat), vs = [.int L, .ref p, .int n] ∧ 2 ≤ L ∧ L ≤ 26 ∧ H p = some (.lst (F.map natV)) ∧ F.length ≤ 1000 ∧ n ≤ 2 ^ 500000 ∧ Clo H ∧ Q (.int (below L F n)) H
def t_many_below (K : PySem.W.Frag) (E : XK) : TS :=
  (tTrim (tSeq (tTrim (tAsg (tCB rDivmod (tCons (tVar 2) (tCons (tVar 0) tNil))) (gTup K 2 (gCons (gName 3) (gCons (gName 4) gNil)))))
    (tRet (tTrimE (tOp rAddI (tOp rMulW (tVar 3) (tCB (rLenQ K) (tCons (tVar 1) tNil))) (tCB (rLenQ K) (tCons (tLc (iList K (tVar 1)) (gName 5) (tTest (tOp rLtI (tVar 5) (tVar 4))) (tVar 5) [5]) tNil)))))))
theorem len_many_below {K : PySem.W.Frag} (vs : List V) (H : Hp) (Q : VK) (E : XK) : sp_many_below K vs H Q E → vs.length = (["letters", "figures", "number"] : List Str).length := by
  walk_at "len"

theorem pure_many_below {K : PySem.W.Frag} (T : Kx K) (vs : List V) (H : Hp) (Q : VK) (E : XK) (h : sp_many_below K vs H Q E) : t_many_below K E { nx := fun _ H' => Q .non H', rt := Q } (start ["letters", "figures", "number", "rounds", "rest", "one"] vs) H := by
  obtain ⟨L, n, p, F, rfl, hL, hL2, hp, hF, hn, hC, q⟩ := h
  have hS : SqL K H p (F.map natV) := .inl (.inl hp)
  have hS2 : ∀ (r : Addr) (o : HO), H r = none → SqL K (upd H r o) p (F.map natV) := fun r o hr => sqL_new hS hr
  have hlen : (F.map natV).length = F.length := List.length_map _
  walk_at "go"
  intro p1 hp1
  walk_at "go"
  refine ⟨big_mulW (Nat.le_trans (Nat.div_le_self n L) hn) (by rw [hlen]; omega), ?_⟩
  walk_at "go"
  refine ⟨⟨_, hS⟩, ?_⟩
  intro D hD
  refine lc_fn (walk_listF (xs := F.map natV)) (fun i => decide (F.getD i 0 < n % L)) (fun i => natV (F.getD i 0)) (by rw [hlen]; omega) (fun acc => hS2 _ _ hD) ?_ ?_
  · intro i acc hi ha N h1 h2
    have hi' : i < F.length := by rw [hlen] at hi; exact hi
    have e : (F.map natV).getD i .non = .int ((F.getD i 0 : Nat) : Int) := by
      rw [List.getD_eq_getElem?_getD, List.getElem?_map, List.getElem?_eq_getElem hi', List.getD_eq_getElem?_getD, List.getElem?_eq_getElem hi']; rfl
    rw [e]
    walk_at "go"
    refine iteD (fun c => ?_) fun c => ?_
    · walk_at "go"
      exact lc_end ha (by omega) (h1 (decide_eq_true (by omega)))
    · exact h2 (decide_eq_false (by omega))
  · rw [hlen, range_filter_map F 0 (fun f => decide (f < n % L)) natV]
    walk_at "go"
    refine ⟨_, _, rfl, .inl sqL_at, ?_⟩
    rw [List.length_map]
    refine ⟨_, _, rfl, rfl, ?_⟩
    exact ⟨_, Trim.back (by walk_at "ex") hC, _, Trim.refl hC, q⟩
/-! ### room_at -/
def roomN (L : Nat) (F : List Nat) (lo hi : Option (List Nat)) (k : Nat) : Nat := below L F (pastN L hi k) - below L F (lowN L lo k)
def sp_room_at (K : PySem.W.Frag) : Sp := fun vs H Q E => ∃ (L h d k : Nat) (lo hi : Option (List Nat)), vs = [.int L, .int h, .int d, optV lo, optV hi, .int k] ∧ 2 ≤ L ∧ L ≤ 26 ∧ d < h ∧ h < L ∧ k ≤ 90000 ∧ Ends3 L lo hi ∧ Clo H ∧
  (Right lo hi → Q (.int (roomN L (ends L h d) lo hi k : Nat)) H) ∧ (¬ Right lo hi → E (.ref (He.ga K "NoRoom")) none H)
def t_room_at (K : PySem.W.Frag) (E : XK) : TS :=
  (tTrim (tSeq (tTrim (tAsg (tCall (sp_numbers_between K) [] E (tCons (tVar 0) (tCons (tVar 3) (tCons (tVar 4) (tCons (tVar 5) tNil))))) (gTup K 2 (gCons (gName 6) (gCons (gName 7) gNil)))))
    (tSeq (tIfS (tTest (tOp rLtI (tVar 7) (tVar 6)))
    (tRet (tC (.int 0)))
    tNext)
    (tSeq (tAsg (tCall (sp_figures_of K) [] E (tCons (tVar 0) (tCons (tVar 1) (tCons (tVar 2) tNil)))) (gName 8))
    (tRet (tOp rSubI (tCall (sp_many_below K) [] E (tCons (tVar 0) (tCons (tVar 8) (tCons (tOp rAddI (tVar 7) (tC (.int 1))) tNil)))) (tCall (sp_many_below K) [] E (tCons (tVar 0) (tCons (tVar 8) (tCons (tVar 6) tNil))))))))))
theorem len_room_at {K : PySem.W.Frag} (vs : List V) (H : Hp) (Q : VK) (E : XK) : sp_room_at K vs H Q E → vs.length = (["letters", "hands", "hand", "low", "high", "long"] : List Str).length := by
  walk_at "len"

theorem pure_room_at {K : PySem.W.Frag} (T : Kx K) (vs : List V) (H : Hp) (Q : VK) (E : XK) (h : sp_room_at K vs H Q E) : t_room_at K E { nx := fun _ H' => Q .non H', rt := Q } (start ["letters", "hands", "hand", "low", "high", "long", "least", "most", "figures"] vs) H := by
  obtain ⟨L, h, d, k, lo, hi, rfl, hL, hL2, hd, hh, hk, he, hC, q1, q2⟩ := h
  walk_at "go"
  refine ⟨L, k, lo, hi, rfl, hL, hL2, hk, he, hC, fun hr p hp => ?_, fun hr => q2 hr⟩
  have q := q1 hr
  clear q1 q2
  have hF := figs_ends hd hh
  have h1 := past_le (k := k) (by omega) he.e
  have h2 := low_le (k := k) (by omega) he.e
  have h3 := low_pos L lo k
  have h4 := pow26 (k := k) (by omega) hL2
  unfold roomN at q
  have hm := below_mono hF (by omega) (m := lowN L lo k) (n := pastN L hi k)
  have hm2 := below_mono hF (by omega) (m := pastN L hi k) (n := lowN L lo k)
  generalize lowN L lo k = lw at *
  generalize pastN L hi k = ps at *
  refine gTupN2 sqT_at ?_
  refine ⟨_, Trim.back (by walk_at "ex") hC, ?_⟩
  walk_at "go"
  refine iteD (fun c => ?_) fun c => ?_
  · walk_at "go"
    rw [show below L (ends L h d) ps - below L (ends L h d) lw = 0 by have := hm2 (by omega); omega] at q
    exact q
  · walk_at "go"
    intro p1 hp1
    have hle := ends_le L h d
    have hC1 := clo_new (o := .lst ((ends L h d).map natV)) hC hp1 rfl
    have hp1v : (upd H p1 (HO.lst ((ends L h d).map natV))) p1 = some (HO.lst ((ends L h d).map natV)) := upd_same
    walk_at "go"
    refine ⟨L, ps, p1, ends L h d, ?_, hL, hL2, hp1v, by omega, by omega, hC1, ?_⟩
    · show [V.int L, V.ref p1, V.int ((ps : Int) - 1 + 1)] = _
      rw [show (ps : Int) - 1 + 1 = ps by omega]
    walk_at "go"
    refine ⟨L, lw, p1, ends L h d, rfl, hL, hL2, hp1v, by omega, by omega, hC1, ?_⟩
    refine ⟨_, _, rfl, rfl, ?_⟩
    have := hm (by omega)
    rw [show ((below L (ends L h d) ps - below L (ends L h d) lw : Nat) : Int) = (below L (ends L h d) ps : Int) - (below L (ends L h d) lw : Int) by omega] at q
    exact ⟨_, Trim.back (by walk_at "ex") hC, q⟩
/-! ### nth_mark -/
def sp_nth_mark (K : PySem.W.Frag) : Sp := fun vs H Q E => ∃ (L h d k m : Nat) (lo hi : Option (List Nat)), vs = [.int L, .int h, .int d, optV lo, optV hi, .int k, .int m] ∧ 2 ≤ L ∧ L ≤ 26 ∧ d < h ∧ h < L ∧ k ≤ 90000 ∧ m ≤ 2 ^ 500000 ∧ Ends3 L lo hi ∧ Clo H ∧
  (Right lo hi → Q (.str (txt (markOf L (nth L (ends L h d) (below L (ends L h d) (lowN L lo k) + m)) k))) H) ∧ (¬ Right lo hi → E (.ref (He.ga K "NoRoom")) none H)
def t_nth_mark (K : PySem.W.Frag) (E : XK) : TS :=
  (tTrim (tSeq (tAsg (tTrimE (tOp (rIxT K) (tCall (sp_numbers_between K) [] E (tCons (tVar 0) (tCons (tVar 3) (tCons (tVar 4) (tCons (tVar 5) tNil))))) (tC (.int 0)))) (gName 7))
    (tSeq (tAsg (tCall (sp_figures_of K) [] E (tCons (tVar 0) (tCons (tVar 1) (tCons (tVar 2) tNil)))) (gName 8))
    (tSeq (tTrim (tAsg (tCB rDivmod (tCons (tOp rAddI (tCall (sp_many_below K) [] E (tCons (tVar 0) (tCons (tVar 8) (tCons (tVar 7) tNil)))) (tVar 6)) (tCons (tCB (rLenQ K) (tCons (tVar 8) tNil)) tNil))) (gTup K 2 (gCons (gName 9) (gCons (gName 10) gNil)))))
    (tRet (tCall (sp_mark_of K) [] E (tCons (tVar 0) (tCons (tOp rAddI (tOp rMulW (tVar 9) (tVar 0)) (tOp (rIxL K) (tVar 8) (tVar 10))) (tCons (tVar 5) tNil)))))))))
theorem len_nth_mark {K : PySem.W.Frag} (vs : List V) (H : Hp) (Q : VK) (E : XK) : sp_nth_mark K vs H Q E → vs.length = (["letters", "hands", "hand", "low", "high", "long", "number"] : List Str).length := by
  walk_at "len"

theorem pure_nth_mark {K : PySem.W.Frag} (T : Kx K) (vs : List V) (H : Hp) (Q : VK) (E : XK) (h : sp_nth_mark K vs H Q E) : t_nth_mark K E { nx := fun _ H' => Q .non H', rt := Q } (start ["letters", "hands", "hand", "low", "high", "long", "number", "least", "figures", "rounds", "rest"] vs) H := by
  obtain ⟨L, h, d, k, m, lo, hi, rfl, hL, hL2, hd, hh, hk, hm, he, hC, q1, q2⟩ := h
  walk_at "go"
  refine ⟨L, k, lo, hi, rfl, hL, hL2, hk, he, hC, fun hr p hp => ?_, fun hr => q2 hr⟩
  have q := q1 hr
  clear q1 q2
  have hF := figs_ends hd hh
  have h2 := low_le (k := k) (by omega) he.e
  have h4 := pow26 (k := k) (by omega) hL2
  have hle := ends_le L h d
  have hp0 : 0 < (ends L h d).length := List.length_pos_iff.mpr hF.ne
  generalize lowN L lo k = lw at *
  unfold nth at q
  walk_at "go"
  refine ⟨_, _, _, _, rfl, rfl, sqT_at, rfl, ?_⟩
  refine ⟨_, Trim.back (by walk_at "ex") hC, ?_⟩
  walk_at "go"
  intro p1 hp1
  generalize ends L h d = F at *
  have hC1 := clo_new (o := .lst (F.map natV)) hC hp1 rfl
  have hp1v : (upd H p1 (HO.lst (F.map natV))) p1 = some (HO.lst (F.map natV)) := upd_same
  have hlen : (F.map natV).length = F.length := List.length_map _
  walk_at "go"
  refine ⟨L, lw, p1, F, rfl, hL, hL2, hp1v, by omega, by omega, hC1, ?_⟩
  walk_at "go"
  refine ⟨_, _, rfl, .inl sqL_at, ?_⟩
  rw [hlen]
  walk_at "go"
  intro p2 hp2
  refine gTupN2 sqT_at ?_
  refine ⟨_, Trim.back (by walk_at "ex") hC1, ?_⟩
  have hr2 : (below L F lw + m) % F.length < F.length := Nat.mod_lt _ hp0
  have hx : atI (F.map natV) (((below L F lw : Int) + (m : Int)) % (F.length : Int)) = some (natV (F.getD ((below L F lw + m) % F.length) 0)) := by
    rw [show ((below L F lw : Int) + (m : Int)) % (F.length : Int) = (((below L F lw + m) % F.length : Nat) : Int) from rfl]
    refine atI_nat ?_
    rw [List.getElem?_map, List.getElem?_eq_getElem hr2, List.getD_eq_getElem?_getD, List.getElem?_eq_getElem hr2]; rfl
  have hbl := below_le hF (by omega) lw
  have hw : CMulW (((below L F lw : Int) + (m : Int)) / (F.length : Int)) (L : Int) := big_mulW2 (by omega) hm (by rw [Int.natAbs_natCast]; omega)
  walk_at "go"
  refine ⟨_, _, _, _, rfl, rfl, sqL_at, hx, ?_⟩
  walk_at "go"
  exact q
/-! ### least_long -/
/-- the least length with so much room -/
structure LeastK (L : Nat) (F : List Nat) (lo hi : Option (List Nat)) (m k : Nat) : Prop where
  one : 1 ≤ k
  room : m ≤ roomN L F lo hi k
  least : ∀ j, 1 ≤ j → j < k → roomN L F lo hi j < m
def sp_least_long (K : PySem.W.Frag) : Sp := fun vs H Q E => ∃ (L h d m : Nat) (lo hi : Option (List Nat)), vs = [.int L, .int h, .int d, optV lo, optV hi, .int m] ∧ 2 ≤ L ∧ L ≤ 26 ∧ d < h ∧ h < L ∧ Ends3 L lo hi ∧ Clo H ∧
  (Right lo hi → ∃ N, 1 ≤ N ∧ N ≤ 90000 ∧ m ≤ roomN L (ends L h d) lo hi N) ∧ (Right lo hi → ∀ k, LeastK L (ends L h d) lo hi m k → Q (.int k) H) ∧ (¬ Right lo hi → E (.ref (He.ga K "NoRoom")) none H)
def t_least_long (K : PySem.W.Frag) (E : XK) : TS :=
  (tSeq (tAsg (tC (.int 1)) (gName 6))
    (tSeq (tWhile (tTest (tOp rLtI (tCall (sp_room_at K) [] E (tCons (tVar 0) (tCons (tVar 1) (tCons (tVar 2) (tCons (tVar 3) (tCons (tVar 4) (tCons (tVar 6) tNil))))))) (tVar 5))) (tAsg (tOp rAddI (tVar 6) (tC (.int 1))) (gName 6)))
    (tRet (tVar 6))))
theorem len_least_long {K : PySem.W.Frag} (vs : List V) (H : Hp) (Q : VK) (E : XK) : sp_least_long K vs H Q E → vs.length = (["letters", "hands", "hand", "low", "high", "many"] : List Str).length := by
  walk_at "len"

theorem pure_least_long {K : PySem.W.Frag} (T : Kx K) (vs : List V) (H : Hp) (Q : VK) (E : XK) (h : sp_least_long K vs H Q E) : t_least_long K E { nx := fun _ H' => Q .non H', rt := Q } (start ["letters", "hands", "hand", "low", "high", "many", "long"] vs) H := by
  obtain ⟨L, h, d, m, lo, hi, rfl, hL, hL2, hd, hh, he, hC, hN, q1, q2⟩ := h
  by_cases hr : Right lo hi
  · obtain ⟨N, hN1, hN2, hN3⟩ := hN hr
    have q := q1 hr
    clear q1 q2 hN
    walk_at "go"
    refine ⟨fun μ σ' H' => ∃ k : Nat, 1 ≤ k ∧ k ≤ N ∧ (∀ j, 1 ≤ j → j < k → roomN L (ends L h d) lo hi j < m) ∧ μ = N - k ∧ H' = H ∧ σ' = [some (.int L), some (.int h), some (.int d), some (optV lo), some (optV hi), some (.int m), some (.int k)],
      ⟨_, 1, Nat.le_refl _, hN1, fun j h1 h2 => by omega, rfl, rfl, rfl⟩, ?_⟩
    rintro μ σ' _ ⟨k, hk1, hkN, hkl, rfl, rfl, rfl⟩
    walk_at "go"
    refine ⟨L, h, d, k, lo, hi, rfl, hL, hL2, hd, hh, by omega, he, hC, fun _ => ?_, fun z => absurd hr z⟩
    walk_at "go"
    refine iteD (fun c => ?_) fun c => ?_
    · have hkN2 : k < N := by
        rcases Nat.lt_or_eq_of_le hkN with z | z
        · exact z
        · rw [z] at c; omega
      refine ⟨_, fun _ _ z => z, ?_⟩
      walk_at "go"
      refine ⟨N - (k + 1), by omega, k + 1, by omega, by omega, fun j h1 h2 => ?_, rfl, rfl, rfl⟩
      rcases Nat.lt_succ_iff_lt_or_eq.mp h2 with z | z
      · exact hkl j h1 z
      · rw [z]; omega
    · walk_at "go"
      exact q k ⟨hk1, by omega, hkl⟩
  · have q := q2 hr
    walk_at "go"
    refine ⟨fun _ σ' H' => H' = H ∧ σ' = [some (.int L), some (.int h), some (.int d), some (optV lo), some (optV hi), some (.int m), some (.int 1)], ⟨0, rfl, rfl⟩, ?_⟩
    rintro μ σ' _ ⟨rfl, rfl⟩
    walk_at "go"
    exact ⟨L, h, d, 1, lo, hi, rfl, hL, hL2, hd, hh, by omega, he, hC, fun z => absurd z hr, fun _ => q⟩
/-! ### mark_between -/
/-- which of so many -/
def pickN (lo hi : Option (List Nat)) (m : Nat) : Nat := match lo, hi with
  | some _, none => 0
  | none, some _ => m - 1
  | _, _ => (m - 1) / 2
/-- the mark between -/
def betwMk (L : Nat) (F : List Nat) (lo hi : Option (List Nat)) (k : Nat) : List Nat := markOf L (nth L F (below L F (lowN L lo k) + pickN lo hi (roomN L F lo hi k))) k
def sp_mark_between (K : PySem.W.Frag) : Sp := fun vs H Q E => ∃ (L h d : Nat) (lo hi : Option (List Nat)), vs = [.int L, .int h, .int d, optV lo, optV hi] ∧ 2 ≤ L ∧ L ≤ 26 ∧ d < h ∧ h < L ∧ Ends3 L lo hi ∧ Clo H ∧
  (Right lo hi → ∃ N, 1 ≤ N ∧ N ≤ 90000 ∧ 1 ≤ roomN L (ends L h d) lo hi N) ∧ (Right lo hi → ∀ k, LeastK L (ends L h d) lo hi 1 k → Q (.str (txt (betwMk L (ends L h d) lo hi k))) H) ∧ (¬ Right lo hi → E (.ref (He.ga K "NoRoom")) none H)
def t_mark_between (K : PySem.W.Frag) (E : XK) : TS :=
  (tSeq (tAsg (tCall (sp_least_long K) [] E (tCons (tVar 0) (tCons (tVar 1) (tCons (tVar 2) (tCons (tVar 3) (tCons (tVar 4) (tCons (tC (.int 1)) tNil))))))) (gName 5))
    (tSeq (tAsg (tCall (sp_room_at K) [] E (tCons (tVar 0) (tCons (tVar 1) (tCons (tVar 2) (tCons (tVar 3) (tCons (tVar 4) (tCons (tVar 5) tNil))))))) (gName 6))
    (tSeq (tAsg (tOp rDivW (tOp rSubI (tVar 6) (tC (.int 1))) (tC (.int 2))) (gName 7))
    (tMeet (tIfS (tAnd (tTest (tOp rIsN (tVar 4) (tC .non))) (tTest (tOp rNotN (tVar 3) (tC .non))))
    (tAsg (tC (.int 0)) (gName 7))
    tNext)
    (tMeet (tIfS (tAnd (tTest (tOp rIsN (tVar 3) (tC .non))) (tTest (tOp rNotN (tVar 4) (tC .non))))
    (tAsg (tOp rSubI (tVar 6) (tC (.int 1))) (gName 7))
    tNext)
    (tRet (tCall (sp_nth_mark K) [] E (tCons (tVar 0) (tCons (tVar 1) (tCons (tVar 2) (tCons (tVar 3) (tCons (tVar 4) (tCons (tVar 5) (tCons (tVar 7) tNil))))))))))))))
theorem len_mark_between {K : PySem.W.Frag} (vs : List V) (H : Hp) (Q : VK) (E : XK) : sp_mark_between K vs H Q E → vs.length = (["letters", "hands", "hand", "low", "high"] : List Str).length := by
  walk_at "len"

theorem LeastK.le {L : Nat} {F : List Nat} {lo hi : Option (List Nat)} {m k N : Nat} (h : LeastK L F lo hi m k) (h1 : 1 ≤ N) (h2 : m ≤ roomN L F lo hi N) : k ≤ N := by
  refine Nat.not_lt.mp fun z => ?_
  have := h.least N h1 z
  omega
theorem roomN_le {L k : Nat} {F : List Nat} {lo hi : Option (List Nat)} (hL : 2 ≤ L) (hF : Figs L F) (he : Ends2 L lo hi) : roomN L F lo hi k ≤ L ^ k := by
  have h1 := below_le hF (by omega) (pastN L hi k)
  have h2 := past_le (k := k) (by omega) he
  unfold roomN
  omega
theorem pure_mark_between {K : PySem.W.Frag} (T : Kx K) (vs : List V) (H : Hp) (Q : VK) (E : XK) (h : sp_mark_between K vs H Q E) : t_mark_between K E { nx := fun _ H' => Q .non H', rt := Q } (start ["letters", "hands", "hand", "low", "high", "long", "many", "number"] vs) H := by
  obtain ⟨L, h, d, lo, hi, rfl, hL, hL2, hd, hh, he, hC, hN, q1, q2⟩ := h
  walk_at "go"
  refine ⟨L, h, d, 1, lo, hi, rfl, hL, hL2, hd, hh, he, hC, hN, fun hr k hk => ?_, fun z => q2 z⟩
  obtain ⟨N, hN1, hN2, hN3⟩ := hN hr
  have hkN := hk.le hN1 hN3
  have q := q1 hr k hk
  clear q1 q2 hN
  have hF := figs_ends hd hh
  have hrl := roomN_le (k := k) hL hF he.e
  have h4 := pow26 (k := k) (by omega) hL2
  have hroom := hk.room
  unfold betwMk at q
  walk_at "go"
  refine ⟨L, h, d, k, lo, hi, rfl, hL, hL2, hd, hh, by omega, he, hC, fun _ => ?_, fun z => absurd hr z⟩
  generalize roomN L (ends L h d) lo hi k = R at *
  walk_at "go"
  refine meet_fix (fun σ' => σ' = [some (.int L), some (.int h), some (.int d), some (optV lo), some (optV hi), some (.int k), some (.int R), some (.int (if lo.isSome && hi.isNone then 0 else (R - 1) / 2 : Nat))]) ?_ ?_
  · walk_at "go"
    cases hi with
    | some b =>
      refine iteF ?_
      refine ⟨rfl, ?_⟩
      rw [show (lo.isSome && (some b : Option (List Nat)).isNone) = false by cases lo <;> rfl, if_neg (by decide), show (((R - 1) / 2 : Nat) : Int) = ((R : Int) - 1) / 2 by omega]
      rfl
    | none =>
      refine iteT ?_
      walk_at "go"
      cases lo with
      | none =>
        refine iteF ?_
        refine ⟨rfl, ?_⟩
        rw [show ((none : Option (List Nat)).isSome && (none : Option (List Nat)).isNone) = false from rfl, if_neg (by decide), show (((R - 1) / 2 : Nat) : Int) = ((R : Int) - 1) / 2 by omega]
        rfl
      | some a =>
        refine iteT ?_
        exact ⟨rfl, rfl⟩
  rintro _ rfl
  refine meet_fix (fun σ' => σ' = [some (.int L), some (.int h), some (.int d), some (optV lo), some (optV hi), some (.int k), some (.int R), some (.int (pickN lo hi R : Nat))]) ?_ ?_
  · walk_at "go"
    cases lo with
    | some a =>
      refine iteF ?_
      cases hi with
      | some b => exact ⟨rfl, rfl⟩
      | none => exact ⟨rfl, rfl⟩
    | none =>
      refine iteT ?_
      walk_at "go"
      cases hi with
      | none =>
        refine iteF ?_
        exact ⟨rfl, rfl⟩
      | some b =>
        refine iteT ?_
        walk_at "go"
        rw [show ((pickN none (some b) R : Nat) : Int) = (R : Int) - 1 by show ((R - 1 : Nat) : Int) = _; omega]
        rfl
  rintro _ rfl
  have hp : pickN lo hi R ≤ R := by
    unfold pickN
    split <;> omega
  walk_at "go"
  exact ⟨L, h, d, k, pickN lo hi R, lo, hi, rfl, hL, hL2, hd, hh, by omega, by omega, he, hC, fun _ => q, fun z => absurd hr z⟩
/-! ### run_between -/
/-- the i-th number of a run of m in a room R -/
def runN (R m i : Nat) : Nat := (i + 1) * (R + 1) / (m + 1) - 1
def runMk (L : Nat) (F : List Nat) (lo hi : Option (List Nat)) (k m : Nat) : List (List Nat) := (List.range m).map fun i => markOf L (nth L F (below L F (lowN L lo k) + runN (roomN L F lo hi k) m i)) k
theorem runN_le {R m i : Nat} (hm : m ≤ R) (hi : i < m) : 1 ≤ (i + 1) * (R + 1) / (m + 1) ∧ runN R m i < R := by
  have h1 : m + 1 ≤ (i + 1) * (R + 1) := by
    have := Nat.mul_le_mul (show 1 ≤ i + 1 by omega) (show m + 1 ≤ R + 1 by omega)
    omega
  have h2 : 1 ≤ (i + 1) * (R + 1) / (m + 1) := Nat.div_pos h1 (by omega)
  refine ⟨h2, ?_⟩
  unfold runN
  have h3 : (i + 1) * (R + 1) / (m + 1) < R + 1 := by
    refine (Nat.div_lt_iff_lt_mul (by omega)).mpr ?_
    rw [Nat.mul_comm (R + 1)]
    exact Nat.mul_lt_mul_of_pos_right (by omega) (by omega)
  omega
theorem run_V (L : Nat) (F : List Nat) (lo hi : Option (List Nat)) (k m : Nat) : ((List.range m).map fun i => V.str (txt (markOf L (nth L F (below L F (lowN L lo k) + runN (roomN L F lo hi k) m i)) k))) = ((runMk L F lo hi k m).map txt).map V.str := by
  unfold runMk
  rw [List.map_map, List.map_map]
  rfl
def sp_run_between (K : PySem.W.Frag) : Sp := fun vs H Q E => ∃ (L h d m : Nat) (lo hi : Option (List Nat)), vs = [.int L, .int h, .int d, optV lo, optV hi, .int m] ∧ 2 ≤ L ∧ L ≤ 26 ∧ d < h ∧ h < L ∧ 1 ≤ m ∧ m ≤ 10000 ∧ Ends3 L lo hi ∧ Clo H ∧
  (Right lo hi → ∃ N, 1 ≤ N ∧ N ≤ 90000 ∧ m ≤ roomN L (ends L h d) lo hi N) ∧ (Right lo hi → ∀ k p, LeastK L (ends L h d) lo hi m k → H p = none → Q (.ref p) (upd H p (.lst (((runMk L (ends L h d) lo hi k m).map txt).map V.str)))) ∧ (¬ Right lo hi → E (.ref (He.ga K "NoRoom")) none H)
def t_run_between (K : PySem.W.Frag) (E : XK) : TS :=
  (tTrim (tSeq (tAsg (tCall (sp_least_long K) [] E (tCons (tVar 0) (tCons (tVar 1) (tCons (tVar 2) (tCons (tVar 3) (tCons (tVar 4) (tCons (tVar 5) tNil))))))) (gName 6))
    (tSeq (tAsg (tCall (sp_room_at K) [] E (tCons (tVar 0) (tCons (tVar 1) (tCons (tVar 2) (tCons (tVar 3) (tCons (tVar 4) (tCons (tVar 6) tNil))))))) (gName 7))
    (tSeq (tAsg (tLst tNil) (gName 8))
    (tSeq (tFor (iRng1 (tCons (tVar 5) tNil)) (gName 9)
    (tSeq (tAsg (tOp rSubI (tOp rDivW (tOp rMulW (tOp rAddI (tVar 9) (tC (.int 1))) (tOp rAddI (tVar 7) (tC (.int 1)))) (tOp rAddI (tVar 5) (tC (.int 1)))) (tC (.int 1))) (gName 10))
    (tDrop (tBM K "list" rAppend (tVar 8) (tCons (tCall (sp_nth_mark K) [] E (tCons (tVar 0) (tCons (tVar 1) (tCons (tVar 2) (tCons (tVar 3) (tCons (tVar 4) (tCons (tVar 6) (tCons (tVar 10) tNil)))))))) tNil)))))
    (tRet (tVar 8)))))))
theorem len_run_between {K : PySem.W.Frag} (vs : List V) (H : Hp) (Q : VK) (E : XK) : sp_run_between K vs H Q E → vs.length = (["letters", "hands", "hand", "low", "high", "many"] : List Str).length := by
  walk_at "len"

theorem pure_run_between {K : PySem.W.Frag} (T : Kx K) (vs : List V) (H : Hp) (Q : VK) (E : XK) (h : sp_run_between K vs H Q E) : t_run_between K E { nx := fun _ H' => Q .non H', rt := Q } (start ["letters", "hands", "hand", "low", "high", "many", "long", "room", "marks", "k", "number"] vs) H := by
  obtain ⟨L, h, d, m, lo, hi, rfl, hL, hL2, hd, hh, hm1, hm2, he, hC, hN, q1, q2⟩ := h
  walk_at "go"
  refine ⟨L, h, d, m, lo, hi, rfl, hL, hL2, hd, hh, he, hC, hN, fun hr k hk => ?_, fun z => q2 z⟩
  obtain ⟨N, hN1, hN2, hN3⟩ := hN hr
  have hkN := hk.le hN1 hN3
  have q := fun p => q1 hr k p hk
  clear q1 q2 hN
  have hF := figs_ends hd hh
  have hrl := roomN_le (k := k) hL hF he.e
  have h4 := pow26 (k := k) (by omega) hL2
  have hroom := hk.room
  walk_at "go"
  refine ⟨L, h, d, k, lo, hi, rfl, hL, hL2, hd, hh, by omega, he, hC, fun _ => ?_, fun z => absurd hr z⟩
  walk_at "go"
  intro p hp
  have hCp : ∀ xs, Clo (upd H p (.lst xs)) := fun xs => clo_new hC hp rfl
  walk_at "go"
  refine for_fn walk_range1 (fun i σ' H' => ∃ x9 x10, H' = upd H p (.lst ((List.range i).map fun i => V.str (txt (markOf L (nth L (ends L h d) (below L (ends L h d) (lowN L lo k) + runN (roomN L (ends L h d) lo hi k) m i)) k)))) ∧ σ' = [some (.int L), some (.int h), some (.int d), some (optV lo), some (optV hi), some (.int m), some (.int k), some (.int (roomN L (ends L h d) lo hi k)), some (.ref p), x9, x10])
    ⟨_, _, rfl, rfl⟩ (fun _ _ _ _ _ => trivial) ?_ ?_
  · rintro i σ' _ hi' ⟨x9, x10, rfl, rfl⟩
    have him : i < m := by simpa using hi'
    obtain ⟨hr1, hr2⟩ := runN_le hroom him
    have hw : CMulW ((i : Int) + 1) (((roomN L (ends L h d) lo hi k : Nat) : Int) + 1) := mulW 64 500001 (by omega) (by
      have h1 : (2 : Nat) ^ 500000 + 1 < 2 ^ 500001 := by
        rw [Nat.pow_succ]
        have : (2 : Nat) ^ 10 ≤ 2 ^ 500000 := Nat.pow_le_pow_right (by decide) (by decide)
        omega
      omega)
    have en : ((i : Int) + 1) * (((roomN L (ends L h d) lo hi k : Nat) : Int) + 1) / ((m : Int) + 1) - 1 = ((runN (roomN L (ends L h d) lo hi k) m i : Nat) : Int) := by
      unfold runN
      rw [show ((i : Int) + 1) * (((roomN L (ends L h d) lo hi k : Nat) : Int) + 1) / ((m : Int) + 1) = (((i + 1) * (roomN L (ends L h d) lo hi k + 1) / (m + 1) : Nat) : Int) from rfl]
      omega
    walk_at "go"
    dsimp only
    rw [en]
    walk_at "go"
    refine ⟨L, h, d, k, runN (roomN L (ends L h d) lo hi k) m i, lo, hi, rfl, hL, hL2, hd, hh, by omega, by omega, he, hCp _, fun _ => ?_, fun z => absurd hr z⟩
    walk_at "b"
    refine app_new ?_ ?_
    · rw [List.length_map, List.length_range, sz]; omega
    · refine ⟨_, _, ?_, rfl⟩
      rw [List.range_succ, List.map_append]; rfl
  · rintro σ' _ ⟨x9, x10, rfl, rfl⟩
    rw [Int.toNat_natCast, run_V]
    refine ⟨_, rfl, _, Trim.last (Rst.refl H) (Ex.refl H) hp hC rfl, q p hp⟩
/-! ### is_thing -/
abbrev SGN : Str := "abcdefghijklmnopqrstuvwxyz0123456789"
/-- a text is a thing -/
def isTh (t : Str) : Bool := decide (1 ≤ t.length) && (decide (t.length ≤ 12) && t.cps.toList.all fun c => decide (c ∈ SGN.cps.toList))
def sp_is_thing (K : PySem.W.Frag) : Sp := fun vs H Q _ => ∃ t : Str, vs = [.str t] ∧ t.length ≤ 1000000 ∧ Q (.bl (isTh t)) H
def t_is_thing (K : PySem.W.Frag) (E : XK) : TS :=
  (tSeq (tIfS (tOr (tTest (tOp rEq (tCB rLenS1 (tCons (tVar 0) tNil)) (tC (.int 0)))) (tTest (tOp rGtI (tCB rLenS1 (tCons (tVar 0) tNil)) (tC (.int 12)))))
    (tRet (tC (.bl false)))
    tNext)
    (tSeq (tFor (iStr (tVar 0)) (gName 1)
    (tIfS (tTest (tOp rNotInC (tVar 1) (tC (.str "abcdefghijklmnopqrstuvwxyz0123456789"))))
    (tRet (tC (.bl false)))
    tNext))
    (tRet (tC (.bl true)))))
theorem len_is_thing {K : PySem.W.Frag} (vs : List V) (H : Hp) (Q : VK) (E : XK) : sp_is_thing K vs H Q E → vs.length = (["text"] : List Str).length := by
  walk_at "len"

theorem pure_is_thing {K : PySem.W.Frag} (T : Kx K) (vs : List V) (H : Hp) (Q : VK) (E : XK) (h : sp_is_thing K vs H Q E) : t_is_thing K E { nx := fun _ H' => Q .non H', rt := Q } (start ["text", "sign"] vs) H := by
  obtain ⟨t, rfl, ht, q⟩ := h
  unfold isTh at q
  walk_at "go"
  refine iteEI (fun c => ?_) fun c1 => ?_
  · rw [decide_eq_false (by omega)] at q
    exact q
  rw [decide_eq_true (show 1 ≤ t.length by omega)] at q
  walk_at "go"
  refine iteD (fun c => ?_) fun c2 => ?_
  · rw [decide_eq_false (by omega)] at q
    exact q
  rw [decide_eq_true (show t.length ≤ 12 by omega)] at q
  walk_at "go"
  refine for_fix walk_strF (fun j σ' => (∀ m, m < j → t.cps.toList.getD m 0 ∈ SGN.cps.toList) ∧ ∃ x1, σ' = [some (.str t), x1]) trivial ⟨fun m hm => absurd hm (Nat.not_lt_zero _), _, rfl⟩ ?_ ?_
  · rintro j σ' hj ⟨hall, x1, rfl⟩
    have hj2 : j < t.cps.toList.length := by rw [Array.length_toList]; exact hj
    walk_at "go"
    refine iteDN (fun c => ?_) fun c => ?_
    · have : (t.cps.toList.all fun c => decide (c ∈ SGN.cps.toList)) = false := by
        rw [Bool.eq_false_iff]
        intro z
        have z2 := of_decide_eq_true (List.all_eq_true.mp z _ (List.getElem_mem hj2))
        rw [List.getD_eq_getElem?_getD, List.getElem?_eq_getElem hj2] at c
        exact c z2
      rw [this] at q
      exact q
    · refine ⟨rfl, fun m hm => ?_, _, rfl⟩
      rcases Nat.lt_succ_iff_lt_or_eq.mp hm with z | z
      · exact hall m z
      · rw [z]; exact c
  · rintro σ' ⟨hall, x1, rfl⟩
    have : (t.cps.toList.all fun c => decide (c ∈ SGN.cps.toList)) = true := List.all_eq_true.mpr fun c hc => by
      obtain ⟨m, hm, rfl⟩ := List.mem_iff_getElem.mp hc
      have := hall m (by rw [Array.length_toList] at hm; exact hm)
      rw [List.getD_eq_getElem?_getD, List.getElem?_eq_getElem hm] at this
      exact decide_eq_true this
    rw [this] at q
    walk_at "go"
    exact q
/-! ### Shelf___init__ -/
def sp_Shelf___init__ (K : PySem.W.Frag) : Sp := fun vs H Q E => ∃ (p dx : Addr) (L : Int), vs = [.ref p, .int L] ∧ H p = some (.ins (He.ga K "Shelf") dx []) ∧ Clo H ∧
  (¬ (2 ≤ L ∧ L ≤ 26) → E (.ref (He.ga K "NoLetters")) none H) ∧
  (2 ≤ L → L ≤ 26 → ∀ lt lm H', lt ≠ lm → H lt = none → H lm = none → (∀ a o, a ≠ p → H a = some o → H' a = some o) → Clo H' → IsShelf K H' p lt lm L [] [] → Q .non H')
def t_Shelf___init__ (K : PySem.W.Frag) (E : XK) : TS :=
  (tTrim (tSeq (tDrop (tCall (sp_ask_letters K) [] E (tCons (tVar 1) (tCons (tC (.int 1)) tNil))))
    (tSeq (sFld K (tVar 0) (tVar 1) "letters")
    (tSeq (sFld K (tVar 0) (tLst tNil) "row_things")
    (sFld K (tVar 0) (tLst tNil) "row_marks")))))
theorem len_Shelf___init__ {K : PySem.W.Frag} (vs : List V) (H : Hp) (Q : VK) (E : XK) : sp_Shelf___init__ K vs H Q E → vs.length = (["self", "letters"] : List Str).length := by
  walk_at "len"

theorem pure_Shelf___init__ {K : PySem.W.Frag} (T : Kx K) (vs : List V) (H : Hp) (Q : VK) (E : XK) (h : sp_Shelf___init__ K vs H Q E) : t_Shelf___init__ K E { nx := fun _ H' => Q .non H', rt := Q } (start ["self", "letters"] vs) H := by
  obtain ⟨p, dx, L, rfl, hp, hC, q1, q2⟩ := h
  walk_at "go"
  refine ⟨fun z => ?_, fun z => q1 fun y => z ⟨y.1, y.2, by omega, by omega⟩⟩
  have q := q2 z.1 z.2.1
  clear q1 q2
  have hdx : H dx = some (.own p) := hC _ _ hp
  have hdp : dx ≠ p := fun e => by rw [e, hp] at hdx; cases hdx
  walk_at "go"
  refine ⟨p, _, dx, _, rfl, hp, T.c_Shelf, T.a_Shelf_letters, by decide, ?_⟩
  obtain ⟨H1, e1⟩ : ∃ H1, H1 = upd H p (.ins (He.ga K "Shelf") dx (putF ("letters" : Str) (.int L) [])) := ⟨_, rfl⟩
  rw [← e1]
  have hp1 : H1 p = some (.ins (He.ga K "Shelf") dx (putF ("letters" : Str) (.int L) [])) := by rw [e1]; exact upd_same
  have hn1 : ∀ a, a ≠ p → H1 a = H a := fun a ha => by rw [e1]; exact upd_ne ha
  walk_at "go"
  intro lt hlt
  have hlp : lt ≠ p := fun e => by rw [e, hp1] at hlt; cases hlt
  refine ⟨_, rfl, ?_⟩
  refine ⟨p, _, dx, _, rfl, (by rw [upd_ne hlp.symm]; exact hp1), T.c_Shelf, T.a_Shelf_row_things, (by have := length_putF ("letters" : Str) (.int L) []; rw [List.length_nil] at this; omega), ?_⟩
  obtain ⟨H2, e2⟩ : ∃ H2, H2 = upd (upd H1 lt (.lst [])) p (.ins (He.ga K "Shelf") dx (putF ("row_things" : Str) (.ref lt) (putF ("letters" : Str) (.int L) []))) := ⟨_, rfl⟩
  rw [← e2]
  have hp2 : H2 p = some (.ins (He.ga K "Shelf") dx (putF ("row_things" : Str) (.ref lt) (putF ("letters" : Str) (.int L) []))) := by rw [e2]; exact upd_same
  have hn2 : ∀ a, a ≠ p → a ≠ lt → H2 a = H a := fun a ha hb => by rw [e2, upd_ne ha, upd_ne hb]; exact hn1 a ha
  have hl2 : H2 lt = some (.lst []) := by rw [e2, upd_ne hlp]; exact upd_same
  walk_at "go"
  intro lm hlm
  have hmp : lm ≠ p := fun e => by rw [e, hp2] at hlm; cases hlm
  have hml : lm ≠ lt := fun e => by rw [e, hl2] at hlm; cases hlm
  refine ⟨_, rfl, ?_⟩
  refine ⟨p, _, dx, _, rfl, (by rw [upd_ne hmp.symm]; exact hp2), T.c_Shelf, T.a_Shelf_row_marks, (by have := length_putF ("letters" : Str) (.int L) []; have := length_putF ("row_things" : Str) (.ref lt) (putF ("letters" : Str) (.int L) []); rw [List.length_nil] at *; omega), ?_⟩
  obtain ⟨H3, e3⟩ : ∃ H3, H3 = upd (upd H2 lm (.lst [])) p (.ins (He.ga K "Shelf") dx (putF ("row_marks" : Str) (.ref lm) (putF ("row_things" : Str) (.ref lt) (putF ("letters" : Str) (.int L) [])))) := ⟨_, rfl⟩
  rw [← e3]
  have hp3 : H3 p = some (.ins (He.ga K "Shelf") dx (shF L lt lm)) := by rw [e3]; exact upd_same
  have hn3 : ∀ a, a ≠ p → a ≠ lt → a ≠ lm → H3 a = H a := fun a ha hb hc => by rw [e3, upd_ne ha, upd_ne hc]; exact hn2 a ha hb
  have hl3 : H3 lt = some (.lst []) := by rw [e3, upd_ne hlp, upd_ne hml.symm]; exact hl2
  have hm3 : H3 lm = some (.lst []) := by rw [e3, upd_ne hmp]; exact upd_same
  have hlt0 : H lt = none := by rw [← hn1 lt hlp]; exact hlt
  have hlm0 : H lm = none := by rw [← hn2 lm hmp hml]; exact hlm
  have hkeep : ∀ a o, a ≠ p → H a = some o → H3 a = some o := fun a o ha e => by
    rw [hn3 a ha (ne_of_none e hlt0) (ne_of_none e hlm0)]; exact e
  have hC3 : Clo H3 := fun a o e => by
    by_cases ha : a = p
    · rw [ha, hp3] at e
      cases e
      rw [ha]
      exact hkeep dx _ hdp hdx
    · by_cases hb : a = lt
      · rw [hb, hl3] at e; cases e; trivial
      · by_cases hc : a = lm
        · rw [hc, hm3] at e; cases e; trivial
        · rw [hn3 a ha hb hc] at e
          have z := hC a o e
          clear e
          induction o with
          | dT _ => exact z
          | ins C dx' fs =>
            have z' : H dx' = some (.own a) := z
            exact hkeep dx' _ (fun y => by rw [y, hp] at z'; cases z') z'
          | frz ob v ih => exact ih z
          | _ => trivial
  refine ⟨_, ⟨fun a o e => e, fun a xs e => ?_, fun a o u e => ?_, fun a ps e => ⟨#[], ?_⟩, hC3⟩, q lt lm H3 hml.symm hlt0 hlm0 hkeep hC3 ⟨⟨dx, hp3⟩, hl3, hm3⟩⟩
  · exact hkeep a _ (fun y => by rw [y, hp] at e; cases e) e
  · exact hkeep a _ (fun y => by rw [y, hp] at e; cases e) e
  · rw [hkeep a _ (fun y => by rw [y, hp] at e; cases e) e, Array.append_empty]
/-! ### Shelf_ask_put -/
/-- things that may come to n others -/
def ThOk (n : Nat) (some : List Str) : Prop := some ≠ [] ∧ n + some.length ≤ 300 ∧ ∀ t ∈ some, isTh t = true
def sp_Shelf_ask_put (K : PySem.W.Frag) : Sp := fun vs H Q E => ∃ (p lt lm ps : Addr) (L : Nat) (i : Int) (ts ms some : List Str), vs = [.ref p, .int i, .ref ps] ∧ IsShelf K H p lt lm L ts ms ∧ H ps = Option.some (.lst (some.map V.str)) ∧ ts.length ≤ 1000000 ∧ some.length ≤ 1000000 ∧ (∀ t ∈ some, t.length ≤ 1000000) ∧ Clo H ∧
  (¬ ThOk ts.length some → E (.ref (He.ga K "NoThing")) none H) ∧ (ThOk ts.length some → ¬ (0 ≤ i ∧ i ≤ ts.length) → E (.ref (He.ga K "NoPlace")) none H) ∧ (ThOk ts.length some → 0 ≤ i → i ≤ ts.length → Q .non H)
def t_Shelf_ask_put (K : PySem.W.Frag) (E : XK) : TS :=
  (tSeq (tIfS (tOr (tTest (tOp rEq (tCB (rLenQ K) (tCons (tVar 2) tNil)) (tC (.int 0)))) (tTest (tOp rGtI (tOp rAddI (tCB (rLenQ K) (tCons (tFld K (tVar 0) "row_things") tNil)) (tCB (rLenQ K) (tCons (tVar 2) tNil))) (tC (.int 300)))))
    (tRaiseO K "NoThing" (fun c d _ H => E c d H))
    tNext)
    (tSeq (tFor (iList K (tVar 2)) (gName 3)
    (tIfS (tNot (tB (tCall (sp_is_thing K) [] E (tCons (tVar 3) tNil))))
    (tRaiseO K "NoThing" (fun c d _ H => E c d H))
    tNext))
    (tIfS (tOr (tTest (tOp rLtI (tVar 1) (tC (.int 0)))) (tTest (tOp rGtI (tVar 1) (tCB (rLenQ K) (tCons (tFld K (tVar 0) "row_things") tNil)))))
    (tRaiseO K "NoPlace" (fun c d _ H => E c d H))
    tNext)))
theorem len_Shelf_ask_put {K : PySem.W.Frag} (vs : List V) (H : Hp) (Q : VK) (E : XK) : sp_Shelf_ask_put K vs H Q E → vs.length = (["self", "place", "some"] : List Str).length := by
  walk_at "len"

theorem pure_Shelf_ask_put {K : PySem.W.Frag} (T : Kx K) (vs : List V) (H : Hp) (Q : VK) (E : XK) (h : sp_Shelf_ask_put K vs H Q E) : t_Shelf_ask_put K E { nx := fun _ H' => Q .non H', rt := Q } (start ["self", "place", "some", "thing"] vs) H := by
  obtain ⟨p, lt, lm, ps, L, i, ts, ms, som, rfl, hsh, hps, hl1, hl2, htl, hC, q1, q2, q3⟩ := h
  have hSp : SqL K H ps (som.map V.str) := .inl (.inl hps)
  have hSt : SqL K H lt (ts.map V.str) := .inl (.inl hsh.lt)
  have e1 : (som.map V.str).length = som.length := List.length_map _
  have e2 : (ts.map V.str).length = ts.length := List.length_map _
  walk_at "go"
  refine iteEI (fun c => q1 fun z => z.1 (List.length_eq_zero_iff.mp (by omega))) fun c1 => ?_
  walk_at "go"
  refine ⟨_, _, _, shF _ lt lm, .ref lt, rfl, hsh.at_.choose_spec, T.c_Shelf, T.a_Shelf_row_things, rfl, ?_⟩
  refine ⟨_, _, rfl, Or.inl hSt, ?_⟩
  walk_at "go"
  refine iteD (fun c => q1 fun z => by have := z.2.1; omega) fun c2 => ?_
  walk_at "go"
  refine ⟨⟨_, hSp⟩, ?_⟩
  refine for_fix walk_listF (fun j σ' => (∀ m, m < j → isTh (som.getD m "") = true) ∧ ∃ x3, σ' = [some (.ref p), some (.int i), some (.ref ps), x3]) hSp ⟨fun m hm => absurd hm (Nat.not_lt_zero _), _, rfl⟩ ?_ ?_
  · rintro j σ' hj ⟨hall, x3, rfl⟩
    have hj2 : j < som.length := by omega
    have e3 : (som.map V.str).getD j .non = .str (som.getD j "") := by
      rw [List.getD_eq_getElem?_getD, List.getElem?_map, List.getElem?_eq_getElem hj2, List.getD_eq_getElem?_getD, List.getElem?_eq_getElem hj2]; rfl
    have hm : som.getD j "" ∈ som := by
      rw [List.getD_eq_getElem?_getD, List.getElem?_eq_getElem hj2]
      exact List.getElem_mem hj2
    have htj := htl _ hm
    rw [e3]
    walk_at "go"
    refine ite2 (fun c => ?_) fun c => ?_
    · exact q1 fun z => by
        rw [z.2.2 _ hm] at c
        cases c
    · refine ⟨rfl, fun m hm => ?_, _, rfl⟩
      rcases Nat.lt_succ_iff_lt_or_eq.mp hm with z | z
      · exact hall m z
      · rw [z]; simpa using c
  · rintro σ' ⟨hall, x3, rfl⟩
    have hok : ThOk ts.length som := by
      refine ⟨fun z => c1 (by rw [e1, z]; rfl), by omega, fun t ht => ?_⟩
      obtain ⟨m, hm, rfl⟩ := List.mem_iff_getElem.mp ht
      have := hall m (by omega)
      rw [List.getD_eq_getElem?_getD, List.getElem?_eq_getElem hm] at this
      exact this
    walk_at "go"
    refine iteD (fun c => q2 hok fun z => by omega) fun c3 => ?_
    walk_at "go"
    refine ⟨_, _, _, shF _ lt lm, .ref lt, rfl, hsh.at_.choose_spec, T.c_Shelf, T.a_Shelf_row_things, rfl, ?_⟩
    refine ⟨_, _, rfl, Or.inl hSt, ?_⟩
    walk_at "go"
    refine iteD (fun c => q2 hok fun z => by omega) fun c4 => ?_
    exact q3 hok (by omega) (by omega)
/-! ### Shelf_marks_round -/
def sp_Shelf_marks_round (K : PySem.W.Frag) : Sp := fun vs H Q E => ∃ (p lt lm : Addr) (L n : Nat) (ts : List Str) (M : List (List Nat)), vs = [.ref p, .int n] ∧ IsShelf K H p lt lm L ts (M.map txt) ∧ n ≤ M.length ∧ M.length ≤ 1000000 ∧ Clo H ∧
  ∀ a, H a = none → Q (.ref a) (upd H a (.tup [optV (lowAt M n), optV M[n]?]))
def t_Shelf_marks_round (K : PySem.W.Frag) (E : XK) : TS :=
  (tTrim (tSeq (tAsg (tC .non) (gName 2))
    (tSeq (tAsg (tC .non) (gName 3))
    (tMeet (tIfS (tTest (tOp rGtI (tVar 1) (tC (.int 0))))
    (tAsg (tOp (rIxL K) (tFld K (tVar 0) "row_marks") (tOp rSubI (tVar 1) (tC (.int 1)))) (gName 2))
    tNext)
    (tMeet (tIfS (tTest (tOp rLtI (tVar 1) (tCB (rLenQ K) (tCons (tFld K (tVar 0) "row_marks") tNil))))
    (tAsg (tOp (rIxL K) (tFld K (tVar 0) "row_marks") (tVar 1)) (gName 3))
    tNext)
    (tRet (tTup (tCons (tVar 2) (tCons (tVar 3) tNil)))))))))
theorem len_Shelf_marks_round {K : PySem.W.Frag} (vs : List V) (H : Hp) (Q : VK) (E : XK) : sp_Shelf_marks_round K vs H Q E → vs.length = (["self", "place"] : List Str).length := by
  walk_at "len"

theorem pure_Shelf_marks_round {K : PySem.W.Frag} (T : Kx K) (vs : List V) (H : Hp) (Q : VK) (E : XK) (h : sp_Shelf_marks_round K vs H Q E) : t_Shelf_marks_round K E { nx := fun _ H' => Q .non H', rt := Q } (start ["self", "place", "low", "high"] vs) H := by
  obtain ⟨p, lt, lm, L, n, ts, M, rfl, hsh, hn, hl, hC, q⟩ := h
  have hSm : SqL K H lm ((M.map txt).map V.str) := .inl (.inl hsh.lm)
  have e1 : ((M.map txt).map V.str).length = M.length := by rw [List.length_map, List.length_map]
  walk_at "go"
  refine meet_fix (fun σ' => σ' = [some (.ref p), some (.int n), some (optV (lowAt M n)), some .non]) ?_ ?_
  · walk_at "go"
    refine iteD (fun c => ?_) fun c => ?_
    · walk_at "go"
      refine ⟨_, _, _, shF _ lt lm, .ref lm, rfl, hsh.at_.choose_spec, T.c_Shelf, T.a_Shelf_row_marks, rfl, ?_⟩
      have hx : atI ((M.map txt).map V.str) ((n : Int) - 1) = some (optV (lowAt M n)) := by
        rw [show (n : Int) - 1 = ((n - 1 : Nat) : Int) by omega]
        refine atI_nat ?_
        unfold lowAt
        rw [if_neg (by omega), List.getElem?_map, List.getElem?_map, List.getElem?_eq_getElem (by omega)]; rfl
      walk_at "go"
      rfl
    · have : n = 0 := by omega
      subst this
      exact ⟨rfl, rfl⟩
  rintro _ rfl
  refine meet_fix (fun σ' => σ' = [some (.ref p), some (.int n), some (optV (lowAt M n)), some (optV M[n]?)]) ?_ ?_
  · walk_at "go"
    refine ⟨_, _, _, shF _ lt lm, .ref lm, rfl, hsh.at_.choose_spec, T.c_Shelf, T.a_Shelf_row_marks, rfl, ?_⟩
    refine ⟨_, _, rfl, Or.inl hSm, ?_⟩
    walk_at "go"
    refine iteD (fun c => ?_) fun c => ?_
    · walk_at "go"
      refine ⟨_, _, _, shF _ lt lm, .ref lm, rfl, hsh.at_.choose_spec, T.c_Shelf, T.a_Shelf_row_marks, rfl, ?_⟩
      have hx : atI ((M.map txt).map V.str) (n : Int) = some (optV M[n]?) := by
        refine atI_nat ?_
        rw [List.getElem?_map, List.getElem?_map, List.getElem?_eq_getElem (by omega)]; rfl
      walk_at "go"
      rfl
    · rw [List.getElem?_eq_none (by omega)]
      exact ⟨rfl, rfl⟩
  rintro _ rfl
  walk_at "go"
  intro a ha
  exact ⟨_, Trim.last (Rst.refl H) (Ex.refl H) ha hC rfl, q a ha⟩
/-! ### Shelf_put -/
/-- what is to be known of it -/
structure BetwMk (L : Nat) (F : List Nat) (lo hi : Option (List Nat)) (k : Nat) (M : List Nat) : Prop where
  len : M.length = k
  mk0 : Mk0 L M
  ne : M ≠ []
  last : M.getD (k - 1) 0 ∈ F
  betw : Betw lo hi M
  lo_le : lowN L lo k ≤ whole L M k
  hi_lt : whole L M k < pastN L hi k
  num : below L F (whole L M k) = below L F (lowN L lo k) + pickN lo hi (roomN L F lo hi k)
theorem betwMk_ok {L h d k : Nat} {lo hi : Option (List Nat)} (hL : 2 ≤ L) (hd : d < h) (hh : h < L) (he : Ends2 L lo hi) (hk : LeastK L (ends L h d) lo hi 1 k) : BetwMk L (ends L h d) lo hi k (betwMk L (ends L h d) lo hi k) := by
  have hF := figs_ends hd hh
  obtain ⟨j, rfl⟩ : ∃ j, k = j + 1 := ⟨k - 1, by have := hk.one; omega⟩
  have hroom := hk.room
  have hpick : pickN lo hi (roomN L (ends L h d) lo hi (j + 1)) < roomN L (ends L h d) lo hi (j + 1) := by
    unfold pickN
    split <;> omega
  unfold roomN at hroom hpick
  obtain ⟨n, hn⟩ : ∃ n, n = nth L (ends L h d) (below L (ends L h d) (lowN L lo (j + 1)) + pickN lo hi (roomN L (ends L h d) lo hi (j + 1))) := ⟨_, rfl⟩
  have hbn := below_nth hF (show 0 < L by omega) (below L (ends L h d) (lowN L lo (j + 1)) + pickN lo hi (roomN L (ends L h d) lo hi (j + 1)))
  have hnm := nth_mod hF (below L (ends L h d) (lowN L lo (j + 1)) + pickN lo hi (roomN L (ends L h d) lo hi (j + 1)))
  rw [← hn] at hbn hnm
  have h0 : n % L ≠ 0 := fun z => ends_0 L h d (z ▸ hnm)
  have hM : betwMk L (ends L h d) lo hi (j + 1) = digs L n (j + 1) := by
    unfold betwMk
    rw [← hn, mark_digs (by omega) h0]
  have hbs := below_succ hF (show 0 < L by omega) n
  rw [if_pos hnm] at hbs
  have hlow : lowN L lo (j + 1) ≤ n := by
    refine Nat.not_lt.mp fun z => ?_
    have := below_mono hF (show 0 < L by omega) (show n + 1 ≤ lowN L lo (j + 1) by omega)
    omega
  have hhi : n < pastN L hi (j + 1) := by
    refine Nat.not_le.mp fun z => ?_
    have := below_mono hF (show 0 < L by omega) z
    unfold roomN at hbn
    omega
  have hpast := past_le (k := j + 1) (by omega) he
  have hw : whole L (digs L n (j + 1)) (j + 1) = n := by rw [whole_digs, Nat.mod_eq_of_lt (by omega)]
  rw [hM]
  have hne : digs L n (j + 1) ≠ [] := by rw [digs_succ]; simp
  have hmk := mk0_digs (L := L) (n := n) (k := j) (by omega) h0
  refine ⟨digs_len _ _ _, hmk, hne, ?_, ?_, by rw [hw]; exact hlow, by rw [hw]; exact hhi, by rw [hw]; exact hbn⟩
  · rw [Nat.add_sub_cancel, digs_last]; exact hnm
  · exact (betw_iff (by omega) he hmk (Nat.le_of_eq (digs_len _ _ _)) hne).mpr ⟨by rw [hw]; exact hlow, by rw [hw]; exact hhi⟩
/-- what stands on a shelf: marks, rising, not too long -/
structure GoodMs (L B : Nat) (M : List (List Nat)) : Prop where
  all : ∀ m ∈ M, Mk0 L m ∧ m ≠ [] ∧ m.length ≤ B
  up : M.Pairwise (· < ·)
theorem GoodMs.mono {L B C : Nat} {M : List (List Nat)} (h : GoodMs L B M) (hBC : B ≤ C) : GoodMs L C M := ⟨fun m hm => ⟨(h.all m hm).1, (h.all m hm).2.1, Nat.le_trans (h.all m hm).2.2 hBC⟩, h.up⟩
theorem GoodMs.nil (L B : Nat) : GoodMs L B [] := ⟨fun _ h => (nomatch h), .nil⟩
theorem lowAt_mem {α : Type} {M : List α} {i : Nat} {a : α} (h : lowAt M i = some a) : a ∈ M := by
  unfold lowAt at h
  split at h
  · cases h
  · exact List.mem_of_getElem? h
theorem GoodMs.ends3 {L B i : Nat} {M : List (List Nat)} (h : GoodMs L B M) (hB : B ≤ 80000) : Ends3 L (lowAt M i) M[i]? :=
  ⟨⟨fun a e => ⟨(h.all a (lowAt_mem e)).1, (h.all a (lowAt_mem e)).2.1⟩, fun b e => ⟨(h.all b (List.mem_of_getElem? e)).1, (h.all b (List.mem_of_getElem? e)).2.1⟩⟩,
    fun a e => by have := (h.all a (lowAt_mem e)).2.2; omega, fun b e => by have := (h.all b (List.mem_of_getElem? e)).2.2; omega⟩
theorem GoodMs.right {L B i : Nat} {M : List (List Nat)} (h : GoodMs L B M) : Right (lowAt M i) M[i]? := fun a b ha hb => by
  unfold lowAt at ha
  split at ha
  · cases ha
  · obtain ⟨h1, e1⟩ := List.getElem?_eq_some_iff.mp ha
    obtain ⟨h2, e2⟩ := List.getElem?_eq_some_iff.mp hb
    rw [← e1, ← e2]
    exact List.pairwise_iff_getElem.mp h.up _ _ h1 h2 (by omega)
theorem GoodMs.room {L B i : Nat} {M : List (List Nat)} (hL : 2 ≤ L) (h : GoodMs L B M) (hB : B ≤ 80000) : 1 ≤ roomN L (ends L 1 0) (lowAt M i) M[i]? (B + 1) := by
  have := room_ex (k := B) hL (show 0 < 1 by omega) (show 1 < L by omega) (h.ends3 (i := i) hB).e h.right (fun a e => (h.all a (lowAt_mem e)).2.2) (fun b e => (h.all b (List.mem_of_getElem? e)).2.2)
  unfold roomN
  omega
/-- the mark between fits in -/
theorem GoodMs.put {L B i k : Nat} {M : List (List Nat)} (hL : 2 ≤ L) (h : GoodMs L B M) (hB : B ≤ 80000) (hi : i ≤ M.length) (hk : LeastK L (ends L 1 0) (lowAt M i) M[i]? 1 k) : GoodMs L (B + 1) (insL M i (betwMk L (ends L 1 0) (lowAt M i) M[i]? k)) := by
  have x := betwMk_ok hL (show 0 < 1 by omega) (show 1 < L by omega) (h.ends3 (i := i) hB).e hk
  have hkB := hk.le (by omega) (h.room hL hB)
  generalize betwMk L (ends L 1 0) (lowAt M i) M[i]? k = m at x
  obtain ⟨hb1, hb2⟩ := x.betw
  refine ⟨fun y hy => ?_, ?_⟩
  · unfold insL at hy
    rcases List.mem_append.mp hy with hy | hy
    · rcases List.mem_append.mp hy with hy | hy
      · obtain ⟨a, b, c⟩ := h.all y (List.mem_of_mem_take hy)
        exact ⟨a, b, by omega⟩
      · rw [List.mem_singleton.mp hy]
        exact ⟨x.mk0, x.ne, by rw [x.len]; exact hkB⟩
    · obtain ⟨a, b, c⟩ := h.all y (List.mem_of_mem_drop hy)
      exact ⟨a, b, by omega⟩
  · have hdrop : ∀ y ∈ M.drop i, m < y := fun y hy => by
      obtain ⟨j, hj, rfl⟩ := List.mem_iff_getElem.mp hy
      rw [List.getElem_drop]
      have hj2 : j < M.length - i := by simpa using hj
      have hmi := hb2 M[i] (List.getElem?_eq_getElem (by omega))
      rcases Nat.eq_zero_or_pos j with z | z
      · subst z; exact hmi
      · exact List.lt_trans hmi (List.pairwise_iff_getElem.mp h.up _ _ (by omega) (by omega) (by omega))
    have htake : ∀ y ∈ M.take i, y < m := fun y hy => by
      obtain ⟨j, hj, rfl⟩ := List.mem_iff_getElem.mp hy
      rw [List.getElem_take]
      have hj2 : j < i := by
        have : j < min i M.length := by simpa using hj
        omega
      have hmi := hb1 (M[i - 1]'(by omega)) (by unfold lowAt; rw [if_neg (by omega)]; exact List.getElem?_eq_getElem (by omega))
      by_cases z : j = i - 1
      · subst z; exact hmi
      · exact List.lt_trans (List.pairwise_iff_getElem.mp h.up _ _ (by omega) (by omega) (by omega)) hmi
    unfold insL
    rw [List.append_assoc]
    refine List.pairwise_append.mpr ⟨h.up.sublist (List.take_sublist _ _), ?_, fun a ha b hb => ?_⟩
    · exact List.pairwise_cons.mpr ⟨hdrop, h.up.sublist (List.drop_sublist _ _)⟩
    · rcases List.mem_cons.mp hb with rfl | hb
      · exact htake a ha
      · exact List.lt_trans (htake a ha) (hdrop b hb)
def sp_Shelf_put (K : PySem.W.Frag) : Sp := fun vs H Q E => ∃ (p lt lm : Addr) (L B : Nat) (i : Int) (t : Str) (ts : List Str) (M : List (List Nat)), vs = [.ref p, .int i, .str t] ∧ IsShelf K H p lt lm L ts (M.map txt) ∧ lt ≠ lm ∧ Clo H ∧ 2 ≤ L ∧ L ≤ 26 ∧ GoodMs L B M ∧ B ≤ 80000 ∧ ts.length = M.length ∧ ts.length ≤ 300 ∧ t.length ≤ 1000000 ∧ -(2 ^ 62) ≤ i ∧ i < 2 ^ 62 ∧
  (¬ ThOk ts.length [t] → ∀ H', Ex H H' → Clo H' → E (.ref (He.ga K "NoThing")) none H') ∧
  (ThOk ts.length [t] → ¬ (0 ≤ i ∧ i ≤ ts.length) → ∀ H', Ex H H' → Clo H' → E (.ref (He.ga K "NoPlace")) none H') ∧
  (ThOk ts.length [t] → 0 ≤ i → i ≤ ts.length → ∀ k, LeastK L (ends L 1 0) (lowAt M i.toNat) M[i.toNat]? 1 k →
    Q (.str (txt (betwMk L (ends L 1 0) (lowAt M i.toNat) M[i.toNat]? k))) (upd (upd H lt (.lst ((insL ts i.toNat t).map V.str))) lm (.lst (((insL M i.toNat (betwMk L (ends L 1 0) (lowAt M i.toNat) M[i.toNat]? k)).map txt).map V.str))))
def t_Shelf_put (K : PySem.W.Frag) (E : XK) : TS :=
  (tTrim (tSeq (tDrop (tTrimE (tMeth (He.ga K "Shelf") "ask_put" (sp_Shelf_ask_put K) [] E (tVar 0) (tCons (tVar 1) (tCons (tLst (tCons (tVar 2) tNil)) tNil)))))
    (tSeq (tTrim (tAsg (tMeth (He.ga K "Shelf") "marks_round" (sp_Shelf_marks_round K) [] E (tVar 0) (tCons (tVar 1) tNil)) (gTup K 2 (gCons (gName 3) (gCons (gName 4) gNil)))))
    (tSeq (tAsg (tCall (sp_mark_between K) [] E (tCons (tFld K (tVar 0) "letters") (tCons (tC (.int 1)) (tCons (tC (.int 0)) (tCons (tVar 3) (tCons (tVar 4) tNil)))))) (gName 5))
    (tSeq (tDrop (tBM K "list" rInsert (tFld K (tVar 0) "row_things") (tCons (tVar 1) (tCons (tVar 2) tNil))))
    (tSeq (tDrop (tBM K "list" rInsert (tFld K (tVar 0) "row_marks") (tCons (tVar 1) (tCons (tVar 5) tNil))))
    (tRet (tVar 5))))))))
theorem len_Shelf_put {K : PySem.W.Frag} (vs : List V) (H : Hp) (Q : VK) (E : XK) : sp_Shelf_put K vs H Q E → vs.length = (["self", "place", "thing"] : List Str).length := by
  walk_at "len"

theorem pure_Shelf_put {K : PySem.W.Frag} (T : Kx K) (vs : List V) (H : Hp) (Q : VK) (E : XK) (h : sp_Shelf_put K vs H Q E) : t_Shelf_put K E { nx := fun _ H' => Q .non H', rt := Q } (start ["self", "place", "thing", "low", "high", "mark"] vs) H := by
  obtain ⟨p, lt, lm, L, B, i, t, ts, M, rfl, hsh, hne, hC, hL, hL2, hM, hB, hlen, hl3, htl, hi1, hi2, q1, q2, q3⟩ := h
  walk_at "go"
  refine sh_meth hsh (by decide +kernel) (by decide +kernel) (by decide +kernel) ?_
  walk_at "go"
  intro pl hpl
  have hex := Ex.new (o := .lst [V.str t]) (Ex.refl H) hpl
  have hC1 := clo_new (o := .lst [V.str t]) hC hpl rfl
  refine ⟨p, lt, lm, pl, L, i, ts, _, [t], rfl, hsh.ex hex, upd_same, by omega, by show 1 ≤ _; omega, fun y hy => by rw [List.mem_singleton.mp hy]; exact htl, hC1, fun z => q1 z _ hex hC1, fun z1 z2 => q2 z1 z2 _ hex hC1, fun z1 z2 z3 => ?_⟩
  have q := q3 z1 z2 z3
  clear q1 q2 q3
  obtain ⟨n, rfl⟩ := Int.eq_ofNat_of_zero_le z2
  rw [Int.toNat_natCast] at q
  have hn : n ≤ ts.length := by omega
  refine ⟨_, Trim.back hex hC, ?_⟩
  walk_at "go"
  refine sh_meth hsh (by decide +kernel) (by decide +kernel) (by decide +kernel) ?_
  walk_at "go"
  refine ⟨p, lt, lm, L, n, ts, M, rfl, hsh, by omega, by omega, hC, fun a ha => ?_⟩
  refine gTupN2 sqT_at ?_
  refine ⟨_, Trim.back (by walk_at "ex") hC, ?_⟩
  walk_at "go"
  refine ⟨_, _, _, shF _ lt lm, .int L, rfl, hsh.at_.choose_spec, T.c_Shelf, T.a_Shelf_letters, rfl, ?_⟩
  walk_at "go"
  refine ⟨L, 1, 0, lowAt M n, M[n]?, rfl, hL, hL2, by omega, by omega, hM.ends3 hB, hC, fun _ => ⟨B + 1, by omega, by omega, hM.room hL hB⟩, fun _ k hk => ?_, fun z => absurd hM.right z⟩
  have q := q k hk
  walk_at "go"
  refine ⟨_, _, _, shF _ lt lm, .ref lt, rfl, hsh.at_.choose_spec, T.c_Shelf, T.a_Shelf_row_things, rfl, ?_⟩
  refine ⟨tyV_list hsh.lt, ?_⟩
  walk_at "b"
  refine ⟨_, rfl, _, rfl, ?_⟩
  refine ⟨lt, _, n, .str t, rfl, rfl, hsh.lt, by rw [List.length_map, sz]; omega, by omega, by omega, ?_⟩
  rw [Int.toNat_natCast, insL_map]
  have hsh2 := hsh.set_t (ts' := insL ts n t) hne
  walk_at "go"
  refine ⟨_, _, _, shF _ lt lm, .ref lm, rfl, hsh2.at_.choose_spec, T.c_Shelf, T.a_Shelf_row_marks, rfl, ?_⟩
  refine ⟨tyV_list hsh2.lm, ?_⟩
  walk_at "b"
  refine ⟨_, rfl, _, rfl, ?_⟩
  refine ⟨lm, _, n, _, rfl, rfl, hsh2.lm, by rw [List.length_map, List.length_map, sz]; omega, by omega, by omega, ?_⟩
  rw [Int.toNat_natCast, insL_map, insL_map']
  refine ⟨_, rfl, ?_⟩
  have k1 : Kp H _ := Kp.set (o := .lst ((insL ts n t).map V.str)) hC hsh.lt rfl
  exact ⟨_, k1.trans (Kp.set k1.clo hsh2.lm rfl), q⟩
/-! ### Shelf_put_row -/
/-- the t-th of those between, at the length k -/
structure InMk (L : Nat) (F : List Nat) (lo hi : Option (List Nat)) (k t : Nat) (M : List Nat) : Prop where
  len : M.length = k
  mk0 : Mk0 L M
  ne : M ≠ []
  last : M.getD (k - 1) 0 ∈ F
  betw : Betw lo hi M
  lo_le : lowN L lo k ≤ whole L M k
  hi_lt : whole L M k < pastN L hi k
  num : below L F (whole L M k) = below L F (lowN L lo k) + t
theorem inMk_ok {L h d k t : Nat} {lo hi : Option (List Nat)} (hL : 2 ≤ L) (hd : d < h) (hh : h < L) (he : Ends2 L lo hi) (hk1 : 1 ≤ k) (ht : t < roomN L (ends L h d) lo hi k) : InMk L (ends L h d) lo hi k t (markOf L (nth L (ends L h d) (below L (ends L h d) (lowN L lo k) + t)) k) := by
  have hF := figs_ends hd hh
  obtain ⟨j, rfl⟩ : ∃ j, k = j + 1 := ⟨k - 1, by omega⟩
  unfold roomN at ht
  obtain ⟨n, hn⟩ : ∃ n, n = nth L (ends L h d) (below L (ends L h d) (lowN L lo (j + 1)) + t) := ⟨_, rfl⟩
  have hbn := below_nth hF (show 0 < L by omega) (below L (ends L h d) (lowN L lo (j + 1)) + t)
  have hnm := nth_mod hF (below L (ends L h d) (lowN L lo (j + 1)) + t)
  rw [← hn] at hbn hnm ⊢
  have h0 : n % L ≠ 0 := fun z => ends_0 L h d (z ▸ hnm)
  rw [mark_digs (by omega) h0]
  have hbs := below_succ hF (show 0 < L by omega) n
  rw [if_pos hnm] at hbs
  have hlow : lowN L lo (j + 1) ≤ n := by
    refine Nat.not_lt.mp fun z => ?_
    have := below_mono hF (show 0 < L by omega) (show n + 1 ≤ lowN L lo (j + 1) by omega)
    omega
  have hhi : n < pastN L hi (j + 1) := by
    refine Nat.not_le.mp fun z => ?_
    have := below_mono hF (show 0 < L by omega) z
    omega
  have hpast := past_le (k := j + 1) (by omega) he
  have hw : whole L (digs L n (j + 1)) (j + 1) = n := by rw [whole_digs, Nat.mod_eq_of_lt (by omega)]
  have hne : digs L n (j + 1) ≠ [] := by rw [digs_succ]; simp
  have hmk := mk0_digs (L := L) (n := n) (k := j) (by omega) h0
  refine ⟨digs_len _ _ _, hmk, hne, ?_, ?_, by rw [hw]; exact hlow, by rw [hw]; exact hhi, by rw [hw]; exact hbn⟩
  · rw [Nat.add_sub_cancel, digs_last]; exact hnm
  · exact (betw_iff (by omega) he hmk (Nat.le_of_eq (digs_len _ _ _)) hne).mpr ⟨by rw [hw]; exact hlow, by rw [hw]; exact hhi⟩
theorem low_le_past {L k : Nat} {lo hi : Option (List Nat)} (hL : 2 ≤ L) (e : Ends2 L lo hi) (hr : Right lo hi) : lowN L lo k ≤ pastN L hi k := by
  unfold lowN pastN
  cases lo with
  | none =>
    cases hi with
    | none => exact Nat.pow_pos (by omega)
    | some b =>
      show 1 ≤ if b.length ≤ k then _ else _
      split
      · exact whole_pos (by omega) (e.hi b rfl).1 (e.hi b rfl).2 (by assumption)
      · omega
  | some a =>
    cases hi with
    | none => exact whole_lt (by omega) (e.lo a rfl).1.lt _
    | some b =>
      have hab := hr a b rfl rfl
      show whole L a k + 1 ≤ if b.length ≤ k then _ else _
      split
      · exact (ltG_whole (by omega) (e.lo a rfl).1.lt (e.hi b rfl).1 (by assumption)).mp hab
      · have h1 := e.lo a rfl
        refine Nat.succ_le_succ (Nat.not_lt.mp fun z => ?_)
        -- a cut to k comes behind b cut to k: so b comes ahead of a
        have q := trunc_lt (k := k) (by omega) (e.hi b rfl).1.lt h1.1.lt z
        exact List.lt_asymm hab q
theorem runN_lt {R m i : Nat} (hm : m ≤ R) (hi : i + 1 < m) : runN R m i < runN R m (i + 1) := by
  obtain ⟨h1, _⟩ := runN_le (R := R) hm (show i < m by omega)
  unfold runN
  have h2 : (i + 1) * (R + 1) / (m + 1) + 1 ≤ (i + 1 + 1) * (R + 1) / (m + 1) := by
    rw [← Nat.add_div_right _ (show 0 < m + 1 by omega)]
    refine Nat.div_le_div_right ?_
    rw [Nat.add_mul (i + 1) 1, Nat.one_mul]
    omega
  omega

/-- items of a run put in at i -/
def insR {α : Type} (xs : List α) (i : Nat) (ys : List α) : List α := xs.take i ++ ys ++ xs.drop i
theorem insR_map {α β : Type} (f : α → β) (xs ys : List α) (i : Nat) : (xs.map f).take i ++ ys.map f ++ (xs.map f).drop i = (insR xs i ys).map f := by
  unfold insR
  rw [List.map_append, List.map_append, List.map_take, List.map_drop]
theorem insR_len {α : Type} {xs ys : List α} {i : Nat} (h : i ≤ xs.length) : (insR xs i ys).length = xs.length + ys.length := by
  unfold insR
  rw [List.length_append, List.length_append, List.length_take, List.length_drop]
  omega
theorem insR_mem {α : Type} {l ys : List α} {n : Nat} {z : α} (h : z ∈ insR l n ys) : z ∈ l ∨ z ∈ ys := by
  unfold insR at h
  rcases List.mem_append.mp h with h | h
  · rcases List.mem_append.mp h with h | h
    · exact .inl (List.mem_of_mem_take h)
    · exact .inr h
  · exact .inl (List.mem_of_mem_drop h)
theorem cut_take {xs : List V} {n : Nat} (h : n ≤ xs.length) : cutV xs none (some (n : Int)) = xs.take n := by
  unfold cutV
  rw [show HT.sIx xs.length 0 none = 0 from rfl, HT.sIx_nat, Nat.min_eq_left h, List.drop_zero, Nat.sub_zero]
theorem cut_drop {xs : List V} {n : Nat} (h : n ≤ xs.length) : cutV xs (some (n : Int)) none = xs.drop n := by
  unfold cutV
  rw [show HT.sIx xs.length xs.length none = xs.length from rfl, HT.sIx_nat, Nat.min_eq_left h, List.take_of_length_le (by rw [List.length_drop]; omega)]
/-- the run fits in -/
theorem GoodMs.row {L B i m k C : Nat} {M : List (List Nat)} (hL : 2 ≤ L) (h : GoodMs L B M) (hB : B ≤ 80000) (hi : i ≤ M.length) (hm : 1 ≤ m) (hk : LeastK L (ends L 1 0) (lowAt M i) M[i]? m k) (hC : k ≤ C) (hBC : B ≤ C) : GoodMs L C (insR M i (runMk L (ends L 1 0) (lowAt M i) M[i]? k m)) := by
  have hF := figs_ends (show 0 < 1 by omega) (show 1 < L by omega)
  have he := (h.ends3 (i := i) hB).e
  have hroom := hk.room
  have x : ∀ j, j < m → InMk L (ends L 1 0) (lowAt M i) M[i]? k (runN (roomN L (ends L 1 0) (lowAt M i) M[i]? k) m j) (markOf L (nth L (ends L 1 0) (below L (ends L 1 0) (lowN L (lowAt M i) k) + runN (roomN L (ends L 1 0) (lowAt M i) M[i]? k) m j)) k) := fun j hj => inMk_ok hL (by omega) (by omega) he hk.one (runN_le hroom hj).2
  have hmem : ∀ y ∈ runMk L (ends L 1 0) (lowAt M i) M[i]? k m, Mk0 L y ∧ y ≠ [] ∧ y.length = k ∧ Betw (lowAt M i) M[i]? y := fun y hy => by
    unfold runMk at hy
    obtain ⟨j, hj, rfl⟩ := List.mem_map.mp hy
    have z := x j (List.mem_range.mp hj)
    exact ⟨z.mk0, z.ne, z.len, z.betw⟩
  have hrm : ∀ a b, a < b → b < m → runN (roomN L (ends L 1 0) (lowAt M i) M[i]? k) m a < runN (roomN L (ends L 1 0) (lowAt M i) M[i]? k) m b := fun a b hab hb => by
    obtain ⟨d, rfl⟩ : ∃ d, b = a + 1 + d := ⟨b - (a + 1), by omega⟩
    induction d with
    | zero => exact runN_lt hroom hb
    | succ d ih => exact Nat.lt_trans (ih (by omega) (by omega)) (runN_lt hroom hb)
  have hpw : (runMk L (ends L 1 0) (lowAt M i) M[i]? k m).Pairwise (· < ·) := by
    unfold runMk
    refine List.pairwise_map.mpr ?_
    refine List.Pairwise.imp_of_mem (R := (· < ·)) (fun {a b} ha hb hab => ?_) List.pairwise_lt_range
    have za := x a (List.mem_range.mp ha)
    have zb := x b (List.mem_range.mp hb)
    refine (lt_whole (show 0 < L by omega) za.mk0 zb.mk0 (Nat.le_of_eq za.len) (Nat.le_of_eq zb.len)).mpr (Nat.not_le.mp fun z => ?_)
    have := below_mono hF (show 0 < L by omega) z
    have e1 := za.num
    have e2 := zb.num
    have := hrm a b hab (List.mem_range.mp hb)
    omega
  refine ⟨fun y hy => ?_, ?_⟩
  · rcases insR_mem hy with hy | hy
    · obtain ⟨a, b, c⟩ := h.all y hy
      exact ⟨a, b, by omega⟩
    · obtain ⟨a, b, c, _⟩ := hmem y hy
      exact ⟨a, b, by omega⟩
  · have hdrop : ∀ z ∈ runMk L (ends L 1 0) (lowAt M i) M[i]? k m, ∀ y ∈ M.drop i, z < y := fun z hz y hy => by
      obtain ⟨j, hj, rfl⟩ := List.mem_iff_getElem.mp hy
      rw [List.getElem_drop]
      have hj2 : j < M.length - i := by simpa using hj
      have hmi := (hmem z hz).2.2.2.2 M[i] (List.getElem?_eq_getElem (by omega))
      rcases Nat.eq_zero_or_pos j with e | e
      · subst e; exact hmi
      · exact List.lt_trans hmi (List.pairwise_iff_getElem.mp h.up _ _ (by omega) (by omega) (by omega))
    have htake : ∀ y ∈ M.take i, ∀ z ∈ runMk L (ends L 1 0) (lowAt M i) M[i]? k m, y < z := fun y hy z hz => by
      obtain ⟨j, hj, rfl⟩ := List.mem_iff_getElem.mp hy
      rw [List.getElem_take]
      have hj2 : j < i := by
        have : j < min i M.length := by simpa using hj
        omega
      have hmi := (hmem z hz).2.2.2.1 (M[i - 1]'(by omega)) (by unfold lowAt; rw [if_neg (by omega)]; exact List.getElem?_eq_getElem (by omega))
      by_cases e : j = i - 1
      · subst e; exact hmi
      · exact List.lt_trans (List.pairwise_iff_getElem.mp h.up _ _ (by omega) (by omega) (by omega)) hmi
    unfold insR
    rw [List.append_assoc]
    refine List.pairwise_append.mpr ⟨h.up.sublist (List.take_sublist _ _), List.pairwise_append.mpr ⟨hpw, h.up.sublist (List.drop_sublist _ _), hdrop⟩, fun a ha b hb => ?_⟩
    rcases List.mem_append.mp hb with hb | hb
    · exact htake a ha b hb
    · obtain ⟨j1, h1, rfl⟩ := List.mem_iff_getElem.mp ha
      obtain ⟨j2, h2, rfl⟩ := List.mem_iff_getElem.mp hb
      rw [List.getElem_take, List.getElem_drop]
      have z1 : j1 < min i M.length := by simpa using h1
      have z2 : j2 < M.length - i := by simpa using h2
      exact List.pairwise_iff_getElem.mp h.up _ _ (by omega) (by omega) (by omega)
theorem runMk_len (L : Nat) (F : List Nat) (lo hi : Option (List Nat)) (k m : Nat) : (runMk L F lo hi k m).length = m := by unfold runMk; rw [List.length_map, List.length_range]
/-- room for a row, well beyond all marks -/
theorem GoodMs.rooms {L B i m j : Nat} {M : List (List Nat)} (hL : 2 ≤ L) (h : GoodMs L B M) (hB : B ≤ 80000) (hm : m ≤ 2 ^ j) : m ≤ roomN L (ends L 1 0) (lowAt M i) M[i]? (B + (j + 1)) := by
  have := room_exN (k := B) (j := j) hL (show 0 < 1 by omega) (show 1 < L by omega) (h.ends3 (i := i) hB).e h.right (fun a e => (h.all a (lowAt_mem e)).2.2) (fun b e => (h.all b (List.mem_of_getElem? e)).2.2)
  unfold roomN
  omega
theorem insR_map2 (M R : List (List Nat)) (n : Nat) : ((M.map txt).map V.str).take n ++ (R.map txt).map V.str ++ ((M.map txt).map V.str).drop n = ((insR M n R).map txt).map V.str := by
  rw [insR_map, show insR (M.map txt) n (R.map txt) = (insR M n R).map txt from insR_map _ _ _ _]
abbrev mkVr (M : List (List Nat)) : List V := (M.map txt).map V.str
def sp_Shelf_put_row (K : PySem.W.Frag) : Sp := fun vs H Q E => ∃ (p lt lm ps : Addr) (L B : Nat) (i : Int) (ts som : List Str) (M : List (List Nat)), vs = [.ref p, .int i, .ref ps] ∧ IsShelf K H p lt lm L ts (M.map txt) ∧ lt ≠ lm ∧ H ps = some (.lst (som.map V.str)) ∧ Clo H ∧ 2 ≤ L ∧ L ≤ 26 ∧ GoodMs L B M ∧ B ≤ 80000 ∧ ts.length = M.length ∧ ts.length ≤ 300 ∧ som.length ≤ 1000000 ∧ (∀ t ∈ som, t.length ≤ 1000000) ∧
  (¬ ThOk ts.length som → E (.ref (He.ga K "NoThing")) none H) ∧
  (ThOk ts.length som → ¬ (0 ≤ i ∧ i ≤ ts.length) → E (.ref (He.ga K "NoPlace")) none H) ∧
  (ThOk ts.length som → 0 ≤ i → i ≤ ts.length → ∀ k nt nm r H', LeastK L (ends L 1 0) (lowAt M i.toNat) M[i.toNat]? som.length k → H nt = none → H nm = none → H r = none → nt ≠ nm → nt ≠ r → nm ≠ r → (∀ a o, a ≠ p → H a = some o → H' a = some o) →
    IsShelf K H' p nt nm L (insR ts i.toNat som) ((insR M i.toNat (runMk L (ends L 1 0) (lowAt M i.toNat) M[i.toNat]? k som.length)).map txt) → H' r = some (.lst (((runMk L (ends L 1 0) (lowAt M i.toNat) M[i.toNat]? k som.length).map txt).map V.str)) → Clo H' → Kp H H' → Q (.ref r) H')
def t_Shelf_put_row (K : PySem.W.Frag) (E : XK) : TS :=
  (tTrim (tSeq (tDrop (tMeth (He.ga K "Shelf") "ask_put" (sp_Shelf_ask_put K) [] E (tVar 0) (tCons (tVar 1) (tCons (tVar 2) tNil))))
    (tSeq (tTrim (tAsg (tMeth (He.ga K "Shelf") "marks_round" (sp_Shelf_marks_round K) [] E (tVar 0) (tCons (tVar 1) tNil)) (gTup K 2 (gCons (gName 3) (gCons (gName 4) gNil)))))
    (tSeq (tAsg (tCall (sp_run_between K) [] E (tCons (tFld K (tVar 0) "letters") (tCons (tC (.int 1)) (tCons (tC (.int 0)) (tCons (tVar 3) (tCons (tVar 4) (tCons (tCB (rLenQ K) (tCons (tVar 2) tNil)) tNil))))))) (gName 5))
    (tSeq (sFld K (tVar 0) (tTrimE (tOp rCat (tOp rCat (tSl (rSlL K) (tFld K (tVar 0) "row_things") tNoPart (tPart (tVar 1))) (tCB (rListQ K) (tCons (tVar 2) tNil))) (tSl (rSlL K) (tFld K (tVar 0) "row_things") (tPart (tVar 1)) tNoPart))) "row_things")
    (tSeq (sFld K (tVar 0) (tTrimE (tOp rCat (tOp rCat (tSl (rSlL K) (tFld K (tVar 0) "row_marks") tNoPart (tPart (tVar 1))) (tVar 5)) (tSl (rSlL K) (tFld K (tVar 0) "row_marks") (tPart (tVar 1)) tNoPart))) "row_marks")
    (tRet (tCB (rListQ K) (tCons (tVar 5) tNil)))))))))
theorem len_Shelf_put_row {K : PySem.W.Frag} (vs : List V) (H : Hp) (Q : VK) (E : XK) : sp_Shelf_put_row K vs H Q E → vs.length = (["self", "place", "some"] : List Str).length := by
  walk_at "len"

theorem pure_Shelf_put_row {K : PySem.W.Frag} (T : Kx K) (vs : List V) (H : Hp) (Q : VK) (E : XK) (h : sp_Shelf_put_row K vs H Q E) : t_Shelf_put_row K E { nx := fun _ H' => Q .non H', rt := Q } (start ["self", "place", "some", "low", "high", "fresh"] vs) H := by
  obtain ⟨p, lt, lm, ps, L, B, i, ts, som, M, rfl, hsh, hne, hps, hC, hL, hL2, hM, hB, hlen, hl3, hsl, hstl, q1, q2, q3⟩ := h
  have hSp : SqL K H ps (som.map V.str) := .inl (.inl hps)
  have e1 : (som.map V.str).length = som.length := List.length_map _
  have e2 : (ts.map V.str).length = ts.length := List.length_map _
  have e3 : ((M.map txt).map V.str).length = M.length := by rw [List.length_map, List.length_map]
  obtain ⟨dx, hp⟩ := hsh.at_
  have hdx : H dx = some (.own p) := hC _ _ hp
  have hdp : dx ≠ p := fun e => by rw [e, hp] at hdx; cases hdx
  walk_at "go"
  refine sh_meth hsh (by decide +kernel) (by decide +kernel) (by decide +kernel) ?_
  walk_at "go"
  refine ⟨p, lt, lm, ps, L, i, ts, _, som, rfl, hsh, hps, by omega, hsl, hstl, hC, q1, q2, fun z1 z2 z3 => ?_⟩
  have q := q3 z1 z2 z3
  clear q1 q2 q3
  obtain ⟨n, rfl⟩ := Int.eq_ofNat_of_zero_le z2
  rw [Int.toNat_natCast] at q
  have hn : n ≤ ts.length := by omega
  have hm1 : 1 ≤ som.length := List.length_pos_iff.mpr z1.1
  have hm2 : ts.length + som.length ≤ 300 := z1.2.1
  walk_at "go"
  refine sh_meth hsh (by decide +kernel) (by decide +kernel) (by decide +kernel) ?_
  walk_at "go"
  refine ⟨p, lt, lm, L, n, ts, M, rfl, hsh, by omega, by omega, hC, fun a ha => ?_⟩
  refine gTupN2 sqT_at ?_
  refine ⟨_, Trim.back (by walk_at "ex") hC, ?_⟩
  walk_at "go"
  refine ⟨_, _, _, shF _ lt lm, .int L, rfl, hsh.at_.choose_spec, T.c_Shelf, T.a_Shelf_letters, rfl, ?_⟩
  walk_at "go"
  rw [e1]
  refine ⟨L, 1, 0, som.length, lowAt M n, M[n]?, rfl, hL, hL2, by omega, by omega, hm1, by omega, hM.ends3 hB, hC, fun _ => ⟨B + (9 + 1), by omega, by omega, hM.rooms hL hB (by omega)⟩, fun _ k f hk hf => ?_, fun z => absurd hM.right z⟩
  have q := fun nt nm r H' => q k nt nm r H' hk
  have hRl := runMk_len L (ends L 1 0) (lowAt M n) M[n]? k som.length
  generalize runMk L (ends L 1 0) (lowAt M n) M[n]? k som.length = R at q hRl ⊢
  have hRV : (R.map txt).map V.str = mkVr R := rfl
  rw [hRV] at q ⊢
  have ex1 := Ex.new (o := .lst (mkVr R)) (Ex.refl H) hf
  have hC1 := clo_new (o := .lst (mkVr R)) hC hf rfl
  have hf1 : (upd H f (.lst (mkVr R))) f = some (.lst (mkVr R)) := upd_same
  have hk1 : Kp H (upd H f (.lst (mkVr R))) := Kp.ex ex1 hC1
  have hn1 : ∀ a, upd H f (.lst (mkVr R)) a = none → H a = none := fun a h => ex1.back h
  generalize upd H f (.lst (mkVr R)) = H1 at *
  have hp1 := ex1 _ _ hp
  have hlt1 := ex1 _ _ hsh.lt
  have hlm1 := ex1 _ _ hsh.lm
  have hps1 := ex1 _ _ hps
  -- the things
  walk_at "go"
  refine ⟨_, _, _, shF _ lt lm, .ref lt, rfl, hp1, T.c_Shelf, T.a_Shelf_row_things, rfl, ?_⟩
  walk_at "n"
  refine ⟨_, rfl, _, rfl, ?_⟩
  refine ⟨lt, _, rfl, .inl (.inl hlt1), fun a1 h1 => ?_⟩
  rw [cut_take (by omega)]
  have gx1 := Ex.new (o := .lst ((ts.map V.str).take n)) (Ex.refl H1) h1
  have g1 : (upd H1 a1 (.lst ((ts.map V.str).take n))) a1 = some (.lst ((ts.map V.str).take n)) := upd_same
  generalize upd H1 a1 (.lst ((ts.map V.str).take n)) = gG1 at gx1 g1 ⊢
  walk_at "go"
  refine ⟨_, _, rfl, Or.inl (.inl (.inl (gx1 _ _ hps1))), fun a2 h2 => ?_⟩
  have gx2 := Ex.new (o := .lst (som.map V.str)) gx1 (gx1.back h2)
  have g2 : (upd gG1 a2 (.lst (som.map V.str))) a2 = some (.lst (som.map V.str)) := upd_same
  have g1 : (upd gG1 a2 (.lst (som.map V.str))) a1 = some (.lst ((ts.map V.str).take n)) := by rw [upd_ne (ne_of_none g1 h2)]; exact g1
  generalize upd gG1 a2 (.lst (som.map V.str)) = gG2 at gx2 g2 g1 ⊢
  refine ⟨a1, a2, _, _, rfl, rfl, g1, g2, by rw [List.length_take, sz]; omega, fun a3 h3 => ?_⟩
  have gx3 := Ex.new (o := .lst ((ts.map V.str).take n ++ som.map V.str)) gx2 (gx2.back h3)
  have g3 : (upd gG2 a3 (.lst ((ts.map V.str).take n ++ som.map V.str))) a3 = some (.lst ((ts.map V.str).take n ++ som.map V.str)) := upd_same
  generalize upd gG2 a3 (.lst ((ts.map V.str).take n ++ som.map V.str)) = gG3 at gx3 g3 ⊢
  walk_at "go"
  refine ⟨_, _, _, shF _ lt lm, .ref lt, rfl, (gx3 _ _ hp1), T.c_Shelf, T.a_Shelf_row_things, rfl, ?_⟩
  walk_at "n"
  refine ⟨_, rfl, _, rfl, ?_⟩
  refine ⟨lt, _, rfl, .inl (.inl (gx3 _ _ hlt1)), fun a4 h4 => ?_⟩
  rw [cut_drop (by omega)]
  have gx4 := Ex.new (o := .lst ((ts.map V.str).drop n)) gx3 (gx3.back h4)
  have g4 : (upd gG3 a4 (.lst ((ts.map V.str).drop n))) a4 = some (.lst ((ts.map V.str).drop n)) := upd_same
  have g3 : (upd gG3 a4 (.lst ((ts.map V.str).drop n))) a3 = some (.lst ((ts.map V.str).take n ++ som.map V.str)) := by rw [upd_ne (ne_of_none g3 h4)]; exact g3
  generalize upd gG3 a4 (.lst ((ts.map V.str).drop n)) = gG4 at gx4 g4 g3 ⊢
  refine ⟨a3, a4, _, _, rfl, rfl, g3, g4, by rw [List.length_append, List.length_take, List.length_drop, sz]; omega, fun nt hnt => ?_⟩
  have hnt0 := gx4.back hnt
  refine ⟨_, Trim.keep (Ex.new gx4 hnt0) hnt0 upd_same hC1 (okO_plain rfl), ?_⟩
  rw [insR_map]
  clear gx1 gx2 gx3 gx4 g1 g2 g3 g4 hnt h1 h3 h4
  obtain ⟨o1, ho1⟩ : ∃ o1, o1 = insR ts n som := ⟨_, rfl⟩
  have e5 : (mkVr R).length = som.length := by rw [List.length_map, List.length_map]; exact hRl
  rw [← ho1] at q ⊢
  have hntp : nt ≠ p := fun e => by rw [e, hp1] at hnt0; cases hnt0
  have hnt00 := hn1 nt hnt0
  walk_at "go"
  refine ⟨p, _, dx, _, rfl, (by rw [upd_ne hntp.symm]; exact hp1), T.c_Shelf, T.a_Shelf_row_things, (by show 3 < 1000; omega), ?_⟩
  obtain ⟨H2, e6⟩ : ∃ H2, H2 = upd (upd H1 nt (.lst (o1.map V.str))) p (.ins (He.ga K "Shelf") dx (putF ("row_things" : Str) (.ref nt) (shF L lt lm))) := ⟨_, rfl⟩
  rw [← e6]
  have hp2 : H2 p = some (.ins (He.ga K "Shelf") dx (shF L nt lm)) := by rw [e6]; exact upd_same
  have hnt2 : H2 nt = some (.lst (o1.map V.str)) := by rw [e6, upd_ne hntp]; exact upd_same
  have hk2 : ∀ a o, a ≠ p → H1 a = some o → H2 a = some o := fun a o ha e => by rw [e6, upd_ne ha, upd_ne (ne_of_none e hnt0)]; exact e
  have hn2 : ∀ a, a ≠ p → a ≠ nt → H2 a = H1 a := fun a ha hb => by rw [e6, upd_ne ha, upd_ne hb]
  have hC2 : Clo H2 := clo_fld hC1 hp1 hdp (ex1 _ _ hdx) hp2 hk2 fun a o ha e => by
    by_cases hb : a = nt
    · rw [hb, hnt2] at e; cases e; exact .inr rfl
    · rw [hn2 a ha hb] at e; exact .inl e
  have hkp2 : Kp H1 H2 := kp_fld hC2 hp1 hk2
  have hlmp : lm ≠ p := (ins_ne_lst hp hsh.lm).symm
  have hlm2 := hk2 _ _ hlmp hlm1
  have hfp : f ≠ p := (ins_ne_lst hp1 hf1).symm
  have hf2 := hk2 _ _ hfp hf1
  clear e6
  -- the marks
  walk_at "go"
  refine ⟨_, _, _, shF _ nt lm, .ref lm, rfl, hp2, T.c_Shelf, T.a_Shelf_row_marks, rfl, ?_⟩
  walk_at "n"
  refine ⟨_, rfl, _, rfl, ?_⟩
  refine ⟨lm, _, rfl, .inl (.inl hlm2), fun a1 h1 => ?_⟩
  rw [cut_take (by omega)]
  have kx1 := Ex.new (o := .lst (((M.map txt).map V.str).take n)) (Ex.refl H2) h1
  have k1 : (upd H2 a1 (.lst (((M.map txt).map V.str).take n))) a1 = some (.lst (((M.map txt).map V.str).take n)) := upd_same
  generalize upd H2 a1 (.lst (((M.map txt).map V.str).take n)) = kG1 at kx1 k1 ⊢
  have kx2 := kx1
  have k2 := kx1 _ _ hf2
  walk_at "go"
  refine ⟨a1, f, _, _, rfl, rfl, k1, k2, by rw [List.length_take, sz]; omega, fun a3 h3 => ?_⟩
  have kx3 := Ex.new (o := .lst (((M.map txt).map V.str).take n ++ mkVr R)) kx2 (kx2.back h3)
  have k3 : (upd kG1 a3 (.lst (((M.map txt).map V.str).take n ++ mkVr R))) a3 = some (.lst (((M.map txt).map V.str).take n ++ mkVr R)) := upd_same
  generalize upd kG1 a3 (.lst (((M.map txt).map V.str).take n ++ mkVr R)) = kG3 at kx3 k3 ⊢
  walk_at "go"
  refine ⟨_, _, _, shF _ nt lm, .ref lm, rfl, (kx3 _ _ hp2), T.c_Shelf, T.a_Shelf_row_marks, rfl, ?_⟩
  walk_at "n"
  refine ⟨_, rfl, _, rfl, ?_⟩
  refine ⟨lm, _, rfl, .inl (.inl (kx3 _ _ hlm2)), fun a4 h4 => ?_⟩
  rw [cut_drop (by omega)]
  have kx4 := Ex.new (o := .lst (((M.map txt).map V.str).drop n)) kx3 (kx3.back h4)
  have k4 : (upd kG3 a4 (.lst (((M.map txt).map V.str).drop n))) a4 = some (.lst (((M.map txt).map V.str).drop n)) := upd_same
  have k3 : (upd kG3 a4 (.lst (((M.map txt).map V.str).drop n))) a3 = some (.lst (((M.map txt).map V.str).take n ++ mkVr R)) := by rw [upd_ne (ne_of_none k3 h4)]; exact k3
  generalize upd kG3 a4 (.lst (((M.map txt).map V.str).drop n)) = kG4 at kx4 k4 k3 ⊢
  refine ⟨a3, a4, _, _, rfl, rfl, k3, k4, by rw [List.length_append, List.length_take, List.length_drop, sz]; omega, fun nm hnm => ?_⟩
  have hnm0 := kx4.back hnm
  refine ⟨_, Trim.keep (Ex.new kx4 hnm0) hnm0 upd_same hC2 (okO_plain rfl), ?_⟩
  rw [insR_map2]
  clear kx1 kx2 kx3 kx4 k1 k2 k3 k4 hnm h1 h3 h4
  obtain ⟨o2, ho2⟩ : ∃ o2, o2 = (insR M n R).map txt := ⟨_, rfl⟩
  rw [← ho2] at q ⊢
  have hnmp : nm ≠ p := fun e => by rw [e, hp2] at hnm0; cases hnm0
  have hnn : nt ≠ nm := ne_of_none hnt2 hnm0
  have hnm00 : H nm = none := hn1 nm (by rw [← hn2 nm hnmp hnn.symm]; exact hnm0)
  walk_at "go"
  refine ⟨p, _, dx, _, rfl, (by rw [upd_ne hnmp.symm]; exact hp2), T.c_Shelf, T.a_Shelf_row_marks, (by show 3 < 1000; omega), ?_⟩
  obtain ⟨H3, e7⟩ : ∃ H3, H3 = upd (upd H2 nm (.lst (o2.map V.str))) p (.ins (He.ga K "Shelf") dx (putF ("row_marks" : Str) (.ref nm) (shF L nt lm))) := ⟨_, rfl⟩
  rw [← e7]
  have hp3 : H3 p = some (.ins (He.ga K "Shelf") dx (shF L nt nm)) := by rw [e7]; exact upd_same
  have hnm3 : H3 nm = some (.lst (o2.map V.str)) := by rw [e7, upd_ne hnmp]; exact upd_same
  have hk3 : ∀ a o, a ≠ p → H2 a = some o → H3 a = some o := fun a o ha e => by rw [e7, upd_ne ha, upd_ne (ne_of_none e hnm0)]; exact e
  have hn3 : ∀ a, a ≠ p → a ≠ nm → H3 a = H2 a := fun a ha hb => by rw [e7, upd_ne ha, upd_ne hb]
  have hC3 : Clo H3 := clo_fld hC2 hp2 hdp (hk2 _ _ hdp (ex1 _ _ hdx)) hp3 hk3 fun a o ha e => by
    by_cases hb : a = nm
    · rw [hb, hnm3] at e; cases e; exact .inr rfl
    · rw [hn3 a ha hb] at e; exact .inl e
  have hkp3 : Kp H2 H3 := kp_fld hC3 hp2 hk3
  have hnt3 := hk3 _ _ hntp hnt2
  have hf3 := hk3 _ _ hfp hf2
  clear e7
  walk_at "go"
  refine ⟨_, _, rfl, Or.inl (.inl (.inl hf3)), fun r hr => ?_⟩
  have ex4 := Ex.new (o := .lst (mkVr R)) (Ex.refl H3) hr
  have hC4 := clo_new (o := .lst (mkVr R)) hC3 hr rfl
  have hrp : r ≠ p := fun e => by rw [e, hp3] at hr; cases hr
  have hrm : nm ≠ r := ne_of_none hnm3 hr
  have hrt : nt ≠ r := ne_of_none hnt3 hr
  have hr0 : H r = none := hn1 r (by rw [← hn2 r hrp hrt.symm, ← hn3 r hrp hrm.symm]; exact hr)
  have hkall : Kp H (upd H3 r (.lst (mkVr R))) := (hk1.trans hkp2).trans (hkp3.trans (Kp.ex ex4 hC4))
  exact ⟨_, hkall, q nt nm r _ hnt00 hnm00 hr0 hnn hrt hrm (fun a o ha e => ex4 _ _ (hk3 a o ha (hk2 a o ha (ex1 a o e)))) ⟨⟨dx, ex4 _ _ hp3⟩, ex4 _ _ hnt3, ex4 _ _ hnm3⟩ upd_same hC4 hkall⟩
/-! ### Shelf_take -/
theorem seqIndex_nat {n m : Nat} (h : n < m) : seqIndex? (n : Int) m = some n := by
  unfold seqIndex?
  dsimp only
  rw [if_neg (show ¬ (n : Int) < 0 by omega), decide_eq_true (show (0 : Int) ≤ n by omega), decide_eq_true (show (n : Int) < (m : Int) by omega)]
  rfl
def sp_Shelf_take (K : PySem.W.Frag) : Sp := fun vs H Q E => ∃ (p lt lm : Addr) (L : Int) (i : Int) (ts ms : List Str), vs = [.ref p, .int i] ∧ IsShelf K H p lt lm L ts ms ∧ lt ≠ lm ∧ ts.length = ms.length ∧ ts.length ≤ 1000000 ∧
  (¬ (0 ≤ i ∧ i < ts.length) → E (.ref (He.ga K "NoPlace")) none H) ∧
  (∀ n : Nat, i = n → ∀ h : n < ts.length, Q (.str ts[n]) (upd (upd H lm (.lst ((ms.eraseIdx n).map V.str))) lt (.lst ((ts.eraseIdx n).map V.str))))
def t_Shelf_take (K : PySem.W.Frag) (E : XK) : TS :=
  (tSeq (tIfS (tOr (tTest (tOp rLtI (tVar 1) (tC (.int 0)))) (tTest (tOp rGeI (tVar 1) (tCB (rLenQ K) (tCons (tFld K (tVar 0) "row_things") tNil)))))
    (tRaiseO K "NoPlace" (fun c d _ H => E c d H))
    tNext)
    (tSeq (tDrop (tBM K "list" rPopAt (tFld K (tVar 0) "row_marks") (tCons (tVar 1) tNil)))
    (tRet (tBM K "list" rPopAt (tFld K (tVar 0) "row_things") (tCons (tVar 1) tNil)))))
theorem len_Shelf_take {K : PySem.W.Frag} (vs : List V) (H : Hp) (Q : VK) (E : XK) : sp_Shelf_take K vs H Q E → vs.length = (["self", "place"] : List Str).length := by
  walk_at "len"

theorem pure_Shelf_take {K : PySem.W.Frag} (T : Kx K) (vs : List V) (H : Hp) (Q : VK) (E : XK) (h : sp_Shelf_take K vs H Q E) : t_Shelf_take K E { nx := fun _ H' => Q .non H', rt := Q } (start ["self", "place"] vs) H := by
  obtain ⟨p, lt, lm, L, i, ts, ms, rfl, hsh, hne, hlen, hl, q1, q2⟩ := h
  have hSt : SqL K H lt (ts.map V.str) := .inl (.inl hsh.lt)
  have e2 : (ts.map V.str).length = ts.length := List.length_map _
  have e3 : (ms.map V.str).length = ms.length := List.length_map _
  walk_at "go"
  refine iteD (fun c => q1 fun z => by omega) fun c1 => ?_
  walk_at "go"
  refine ⟨_, _, _, shF _ lt lm, .ref lt, rfl, hsh.at_.choose_spec, T.c_Shelf, T.a_Shelf_row_things, rfl, ?_⟩
  refine ⟨_, _, rfl, Or.inl hSt, ?_⟩
  walk_at "go"
  refine iteD (fun c => q1 fun z => by omega) fun c2 => ?_
  obtain ⟨n, rfl⟩ := Int.eq_ofNat_of_zero_le (show 0 ≤ i by omega)
  have hn : n < ts.length := by omega
  have q := q2 n rfl hn
  walk_at "go"
  refine ⟨_, _, _, shF _ lt lm, .ref lm, rfl, hsh.at_.choose_spec, T.c_Shelf, T.a_Shelf_row_marks, rfl, ?_⟩
  refine ⟨tyV_list hsh.lm, ?_⟩
  walk_at "b"
  refine ⟨_, rfl, ?_⟩
  refine ⟨lm, _, n, n, .str (ms[n]'(by omega)), rfl, rfl, hsh.lm, by omega, by omega, seqIndex_nat (by omega), by rw [List.getElem?_map, List.getElem?_eq_getElem (by omega)]; rfl, ?_⟩
  rw [eraseIdx_mapL]
  have hsh2 := hsh.set_m (ms' := ms.eraseIdx n) hne
  refine ⟨_, rfl, ?_⟩
  refine ⟨_, _, _, shF _ lt lm, .ref lt, rfl, hsh2.at_.choose_spec, T.c_Shelf, T.a_Shelf_row_things, rfl, ?_⟩
  refine ⟨tyV_list hsh2.lt, ?_⟩
  walk_at "b"
  refine ⟨_, rfl, ?_⟩
  refine ⟨lt, _, n, n, .str ts[n], rfl, rfl, hsh2.lt, by omega, by omega, seqIndex_nat (by omega), by rw [List.getElem?_map, List.getElem?_eq_getElem hn]; rfl, ?_⟩
  rw [eraseIdx_mapL]
  exact q
/-! ### Shelf_marks -/
def sp_Shelf_marks (K : PySem.W.Frag) : Sp := fun vs H Q E => ∃ (p lt lm : Addr) (L : Int) (ts ms : List Str), vs = [.ref p] ∧ IsShelf K H p lt lm L ts ms ∧ Clo H ∧ ∀ a, H a = none → Q (.ref a) (upd H a (.lst (ms.map V.str)))
def t_Shelf_marks (K : PySem.W.Frag) (E : XK) : TS :=
  (tTrim (tRet (tCB (rListQ K) (tCons (tFld K (tVar 0) "row_marks") tNil))))
theorem len_Shelf_marks {K : PySem.W.Frag} (vs : List V) (H : Hp) (Q : VK) (E : XK) : sp_Shelf_marks K vs H Q E → vs.length = (["self"] : List Str).length := by
  walk_at "len"

theorem pure_Shelf_marks {K : PySem.W.Frag} (T : Kx K) (vs : List V) (H : Hp) (Q : VK) (E : XK) (h : sp_Shelf_marks K vs H Q E) : t_Shelf_marks K E { nx := fun _ H' => Q .non H', rt := Q } (start ["self"] vs) H := by
  obtain ⟨p, lt, lm, L, ts, ms, rfl, hsh, hC, q⟩ := h
  have hS : SqL K H lm (ms.map V.str) := .inl (.inl hsh.lm)
  walk_at "go"
  obtain ⟨dx, e⟩ := hsh.at_
  refine ⟨p, He.ga K "Shelf", dx, shF L lt lm, .ref lm, rfl, e, T.c_Shelf, T.a_Shelf_row_marks, rfl, ?_⟩
  refine ⟨_, _, rfl, Or.inl hS, fun a ha => ?_⟩
  exact ⟨_, Trim.last (Rst.refl H) (Ex.refl H) ha hC rfl, q a ha⟩
/-! ### Shelf_things -/
def sp_Shelf_things (K : PySem.W.Frag) : Sp := fun vs H Q E => ∃ (p lt lm : Addr) (L : Int) (ts ms : List Str), vs = [.ref p] ∧ IsShelf K H p lt lm L ts ms ∧ Clo H ∧ ∀ a, H a = none → Q (.ref a) (upd H a (.lst (ts.map V.str)))
def t_Shelf_things (K : PySem.W.Frag) (E : XK) : TS :=
  (tTrim (tRet (tCB (rListQ K) (tCons (tFld K (tVar 0) "row_things") tNil))))
theorem len_Shelf_things {K : PySem.W.Frag} (vs : List V) (H : Hp) (Q : VK) (E : XK) : sp_Shelf_things K vs H Q E → vs.length = (["self"] : List Str).length := by
  walk_at "len"

theorem pure_Shelf_things {K : PySem.W.Frag} (T : Kx K) (vs : List V) (H : Hp) (Q : VK) (E : XK) (h : sp_Shelf_things K vs H Q E) : t_Shelf_things K E { nx := fun _ H' => Q .non H', rt := Q } (start ["self"] vs) H := by
  obtain ⟨p, lt, lm, L, ts, ms, rfl, hsh, hC, q⟩ := h
  have hS : SqL K H lt (ts.map V.str) := .inl (.inl hsh.lt)
  walk_at "go"
  refine ⟨_, _, _, shF _ lt lm, .ref lt, rfl, hsh.at_.choose_spec, T.c_Shelf, T.a_Shelf_row_things, rfl, ?_⟩
  refine ⟨_, _, rfl, Or.inl hS, fun a ha => ?_⟩
  exact ⟨_, Trim.last (Rst.refl H) (Ex.refl H) ha hC rfl, q a ha⟩
/-! ### a shelf and lists of one's own, as it changes -/
abbrev strV (T : List Str) : List V := T.map V.str
abbrev mkV (M : List (List Nat)) : List V := (M.map txt).map V.str
theorem mkV_len (M : List (List Nat)) : (mkV M).length = M.length := by rw [List.length_map, List.length_map]
theorem ins_keep {H : Hp} {p q C : Addr} {fs : List (Str × V)} {xs : List V} {o : HO} (h : ∃ dx, H p = some (.ins C dx fs)) (hq : H q = some (.lst xs)) : ∃ dx, upd H q o p = some (.ins C dx fs) := by
  obtain ⟨dx, h⟩ := h
  exact ⟨dx, by rw [upd_ne (ins_ne_lst h hq)]; exact h⟩
theorem ins_ex {H H' : Hp} {p C : Addr} {fs : List (Str × V)} (h : ∃ dx, H p = some (.ins C dx fs)) (e : Ex H H') : ∃ dx, H' p = some (.ins C dx fs) := by
  obtain ⟨dx, h⟩ := h
  exact ⟨dx, e _ _ h⟩
structure St1 (K : PySem.W.Frag) (H H' : Hp) (L : Nat) (x lt lm : Addr) (qs : List Addr) (cs : List (List V)) (B : Nat) (T : List Str) (M : List (List Nat)) : Prop where
  b : Box H H' (lt :: lm :: qs) (strV T :: mkV M :: cs)
  x0 : H x = none
  at_ : ∃ dx, H' x = some (.ins (He.ga K "Shelf") dx (shF L lt lm))
  L2 : 2 ≤ L
  L26 : L ≤ 26
  gm : GoodMs L B M
  len : T.length = M.length
  th : ∀ t ∈ T, isTh t = true
section
variable {K : PySem.W.Frag} {H H' : Hp} {L B : Nat} {x lt lm : Addr} {qs : List Addr} {cs : List (List V)} {T : List Str} {M : List (List Nat)}
theorem St1.sh (st : St1 K H H' L x lt lm qs cs B T M) : IsShelf K H' x lt lm L T (M.map txt) := ⟨st.at_, st.b.at_ 0 _ _ rfl rfl, st.b.at_ 1 _ _ rfl rfl⟩
theorem St1.ne (st : St1 K H H' L x lt lm qs cs B T M) : lt ≠ lm := st.b.ne 0 1 (by decide) rfl rfl
theorem St1.mono {C : Nat} (st : St1 K H H' L x lt lm qs cs B T M) (h : B ≤ C) : St1 K H H' L x lt lm qs cs C T M := ⟨st.b, st.x0, st.at_, st.L2, st.L26, st.gm.mono h, st.len, st.th⟩
theorem St1.ext {H2 : Hp} (st : St1 K H H' L x lt lm qs cs B T M) (e : Ex H' H2) (c : Clo H2) : St1 K H H2 L x lt lm qs cs B T M := ⟨st.b.ext e c, st.x0, ins_ex st.at_ e, st.L2, st.L26, st.gm, st.len, st.th⟩
/-- a further list of one's own -/
theorem St1.add {H2 : Hp} {p : Addr} {c : List V} (st : St1 K H H' L x lt lm qs cs B T M) (hl : qs.length = cs.length) (hp : H' p = none) (e : Ex H' H2) (h : H2 p = some (.lst c)) (hc : Clo H2) : St1 K H H2 L x lt lm (qs ++ [p]) (cs ++ [c]) B T M :=
  ⟨st.b.add (by simp only [List.length_cons, hl]) hp e h hc, st.x0, ins_ex st.at_ e, st.L2, st.L26, st.gm, st.len, st.th⟩
/-- one's own i-th list is changed -/
theorem St1.set {p : Addr} {c y : List V} (st : St1 K H H' L x lt lm qs cs B T M) (i : Nat) (hi : qs[i]? = some p) (hc : cs[i]? = some c) : St1 K H (upd H' p (.lst y)) L x lt lm qs (cs.set i y) B T M :=
  ⟨st.b.set (i + 2) hi hc, st.x0, ins_keep st.at_ (st.b.at_ (i + 2) p c hi hc), st.L2, st.L26, st.gm, st.len, st.th⟩
theorem St1.own {p : Addr} {c : List V} (st : St1 K H H' L x lt lm qs cs B T M) (i : Nat) (hi : qs[i]? = some p) (hc : cs[i]? = some c) : H' p = some (.lst c) := st.b.at_ (i + 2) p c hi hc
theorem St1.meth {m : Str} {Z : Prop} (st : St1 K H H' L x lt lm qs cs B T M) (h1 : (m == "letters") = false) (h2 : (m == "row_things") = false) (h3 : (m == "row_marks") = false) (q : Z) : ∃ a dx fs, V.ref x = .ref a ∧ H' a = some (.ins (He.ga K "Shelf") dx fs) ∧ fs.lookup m = none ∧ Z := sh_meth st.sh h1 h2 h3 q
theorem mkV_erase (M : List (List Nat)) (n : Nat) : (mkV M).eraseIdx n = mkV (M.eraseIdx n) := by rw [eraseIdx_mapL, eraseIdx_mapL]
theorem GoodMs.erase {L B : Nat} {M : List (List Nat)} (h : GoodMs L B M) (n : Nat) : GoodMs L B (M.eraseIdx n) := ⟨fun m hm => h.all m (List.mem_of_mem_eraseIdx hm), h.up.sublist (List.eraseIdx_sublist _ _)⟩
theorem LeastK.same {L : Nat} {F : List Nat} {lo hi : Option (List Nat)} {m j k : Nat} (x : LeastK L F lo hi m j) (y : LeastK L F lo hi m k) : j = k := Nat.le_antisymm (x.le y.one y.room) (y.le x.one x.room)
theorem isTh_len {t : Str} (ht : isTh t = true) : t.length ≤ 12 := by
  unfold isTh at ht
  rw [Bool.and_eq_true, Bool.and_eq_true] at ht
  exact of_decide_eq_true ht.2.1
theorem insL_mem {α : Type} {l : List α} {n : Nat} {y z : α} (h : z ∈ insL l n y) : z ∈ l ∨ z = y := by
  unfold insL at h
  rcases List.mem_append.mp h with h | h
  · rcases List.mem_append.mp h with h | h
    · exact .inl (List.mem_of_mem_take h)
    · exact .inr (List.mem_singleton.mp h)
  · exact .inl (List.mem_of_mem_drop h)
theorem sp_make {P : Hp → Prop} {E : XK} {dx : Addr} {H1 : Hp} (b : Box H H1 qs cs) (hl : qs.length = cs.length) (hL : 2 ≤ L) (hL2 : L ≤ 26) (nx : H1 x = none) (ndx : H1 dx = none) (nd : dx ≠ x)
    (q : ∀ lt lm H', Ex H1 H' → St1 K H H' L x lt lm qs cs B [] [] → P H') : sp_Shelf___init__ K [.ref x, .int L] (upd (upd H1 dx (.own x)) x (.ins (He.ga K "Shelf") dx [])) (fun v H2 => v = .non ∧ P H2) E := by
  refine ⟨x, dx, L, rfl, upd_same, clo_made b.clo nx ndx nd, fun z => absurd ⟨by omega, by omega⟩ z, fun _ _ lt lm H' ne hlt hlm hk hC hsh => ⟨rfl, ?_⟩⟩
  have ex : Ex H1 H' := fun a o e => hk a o (ne_of_none e nx) (ex_made nx ndx a o e)
  have hlt1 := (ex_made (C := He.ga K "Shelf") nx ndx).back hlt
  have hlm1 := (ex_made (C := He.ga K "Shelf") nx ndx).back hlm
  have n1 := b.notin hl hlt1
  have n2 := b.notin hl hlm1
  have b' := b.ext ex hC
  refine q lt lm H' ex ⟨⟨?_, fun z hz => ?_, fun i p c h1 h2 => ?_, b'.ex, hC⟩, b.ex.back nx, hsh.at_, hL, hL2, GoodMs.nil _ _, rfl, fun _ h => (nomatch h)⟩
  · refine List.nodup_cons.mpr ⟨fun h => ?_, List.nodup_cons.mpr ⟨fun h => n2 _ h rfl, b.nd⟩⟩
    rcases List.mem_cons.mp h with h | h
    · exact ne h
    · exact n1 _ h rfl
  · rcases List.mem_cons.mp hz with rfl | hz
    · exact b.ex.back hlt1
    · rcases List.mem_cons.mp hz with rfl | hz
      · exact b.ex.back hlm1
      · exact b.fresh z hz
  · match i, h1, h2 with
    | 0, h1, h2 => cases h1; cases h2; exact hsh.lt
    | 1, h1, h2 => cases h1; cases h2; exact hsh.lm
    | i + 2, h1, h2 => exact b'.at_ i p c h1 h2
end
theorem St1.putK {K : PySem.W.Frag} {H H' : Hp} {L B n : Nat} {x lt lm : Addr} {qs : List Addr} {cs : List (List V)} {T : List Str} {M : List (List Nat)} {t : Str} {Q : VK} {E : XK} (st : St1 K H H' L x lt lm qs cs B T M) (hB : B ≤ 80000) (hn : n ≤ M.length) (hm : M.length < 300) (ht : isTh t = true)
    (q : ∀ j H2, LeastK L (ends L 1 0) (lowAt M n) M[n]? 1 j → St1 K H H2 L x lt lm qs cs (B + 1) (insL T n t) (insL M n (betwMk L (ends L 1 0) (lowAt M n) M[n]? j)) → Kp H' H2 → Q (.str (txt (betwMk L (ends L 1 0) (lowAt M n) M[n]? j))) H2) : sp_Shelf_put K [.ref x, .int n, .str t] H' Q E := by
  have hl := st.len
  have htl := isTh_len ht
  have hto : ThOk T.length [t] := ⟨by simp, by show T.length + 1 ≤ 300; omega, fun y hy => by rw [List.mem_singleton.mp hy]; exact ht⟩
  refine ⟨x, lt, lm, L, B, n, t, T, M, rfl, st.sh, st.ne, st.b.clo, st.L2, st.L26, st.gm, hB, hl, by omega, by omega, by omega, by omega, fun y => absurd hto y, fun _ y => absurd ⟨by omega, by omega⟩ y, fun _ _ _ j hj => ?_⟩
  rw [Int.toNat_natCast] at hj ⊢
  have b1 := st.b.set (x := strV (insL T n t)) 0 rfl rfl
  have i1 := ins_keep (o := .lst (strV (insL T n t))) st.at_ (st.b.at_ 0 _ _ rfl rfl)
  have b2 := b1.set (x := mkV (insL M n (betwMk L (ends L 1 0) (lowAt M n) M[n]? j))) 1 rfl rfl
  have i2 := ins_keep (o := .lst (mkV (insL M n (betwMk L (ends L 1 0) (lowAt M n) M[n]? j)))) i1 (b1.at_ 1 _ _ rfl rfl)
  exact q j _ hj ⟨b2, st.x0, i2, st.L2, st.L26, st.gm.put st.L2 hB hn hj, by rw [insL_len (by omega), insL_len hn]; omega, fun y hy => by
    rcases insL_mem hy with h | h
    · exact st.th y h
    · rw [h]; exact ht⟩ ((st.b.kp 0 rfl rfl rfl).trans (b1.kp 1 rfl rfl rfl))
theorem St1.put {K : PySem.W.Frag} {H H' : Hp} {L B n : Nat} {x lt lm : Addr} {qs : List Addr} {cs : List (List V)} {T : List Str} {M : List (List Nat)} {t : Str} {Q : VK} {E : XK} (st : St1 K H H' L x lt lm qs cs B T M) (hB : B ≤ 80000) (hn : n ≤ M.length) (hm : M.length < 300) (ht : isTh t = true)
    (q : ∀ j H2, LeastK L (ends L 1 0) (lowAt M n) M[n]? 1 j → St1 K H H2 L x lt lm qs cs (B + 1) (insL T n t) (insL M n (betwMk L (ends L 1 0) (lowAt M n) M[n]? j)) → Q (.str (txt (betwMk L (ends L 1 0) (lowAt M n) M[n]? j))) H2) : sp_Shelf_put K [.ref x, .int n, .str t] H' Q E :=
  st.putK hB hn hm ht fun j H2 hj s _ => q j H2 hj s
theorem St1.takeK {K : PySem.W.Frag} {H H' : Hp} {L B n : Nat} {x lt lm : Addr} {qs : List Addr} {cs : List (List V)} {T : List Str} {M : List (List Nat)} {Q : VK} {E : XK} (st : St1 K H H' L x lt lm qs cs B T M) (hn : n < M.length) (hm : M.length ≤ 1000)
    (q : ∀ H2 (h : n < T.length), St1 K H H2 L x lt lm qs cs B (T.eraseIdx n) (M.eraseIdx n) → Kp H' H2 → Q (.str T[n]) H2) : sp_Shelf_take K [.ref x, .int n] H' Q E := by
  have hl := st.len
  refine ⟨x, lt, lm, L, n, T, M.map txt, rfl, st.sh, st.ne, by rw [List.length_map]; exact hl, by omega, fun y => absurd ⟨by omega, by omega⟩ y, fun m e h => ?_⟩
  obtain rfl : n = m := by omega
  rw [eraseIdx_mapL]
  have b1 := st.b.set (x := mkV (M.eraseIdx n)) 1 rfl rfl
  have i1 := ins_keep (o := .lst (mkV (M.eraseIdx n))) st.at_ (st.b.at_ 1 _ _ rfl rfl)
  have b2 := b1.set (x := strV (T.eraseIdx n)) 0 rfl rfl
  have i2 := ins_keep (o := .lst (strV (T.eraseIdx n))) i1 (b1.at_ 0 _ _ rfl rfl)
  exact q _ h ⟨b2, st.x0, i2, st.L2, st.L26, st.gm.erase n, by rw [List.length_eraseIdx, List.length_eraseIdx, if_pos h, if_pos hn]; omega, fun y hy => st.th y (List.mem_of_mem_eraseIdx hy)⟩ ((st.b.kp 1 rfl rfl rfl).trans (b1.kp 0 rfl rfl rfl))
theorem St1.take {K : PySem.W.Frag} {H H' : Hp} {L B n : Nat} {x lt lm : Addr} {qs : List Addr} {cs : List (List V)} {T : List Str} {M : List (List Nat)} {Q : VK} {E : XK} (st : St1 K H H' L x lt lm qs cs B T M) (hn : n < M.length) (hm : M.length ≤ 1000)
    (q : ∀ H2 (h : n < T.length), St1 K H H2 L x lt lm qs cs B (T.eraseIdx n) (M.eraseIdx n) → Q (.str T[n]) H2) : sp_Shelf_take K [.ref x, .int n] H' Q E :=
  st.takeK hn hm fun H2 h s _ => q H2 h s
/-- another list in the place of one's own i-th -/
theorem St1.swap {K : PySem.W.Frag} {H H' H2 : Hp} {L B : Nat} {x lt lm p : Addr} {qs : List Addr} {cs : List (List V)} {T : List Str} {M : List (List Nat)} {y : List V} (st : St1 K H H' L x lt lm qs cs B T M) (i : Nat) (hl : qs.length = cs.length) (hp : H' p = none) (e : Ex H' H2) (h : H2 p = some (.lst y)) (hc : Clo H2) : St1 K H H2 L x lt lm (qs.set i p) (cs.set i y) B T M := by
  have b := (st.b.ext e hc).swap (i + 2) (st.b.notin (by simp only [List.length_cons, hl]) hp) (st.b.ex.back hp) h
  exact ⟨b, st.x0, ins_ex st.at_ e, st.L2, st.L26, st.gm, st.len, st.th⟩
theorem St1.pre {K : PySem.W.Frag} {H H' : Hp} {L B : Nat} {x lt lm : Addr} {qs rs : List Addr} {cs ds : List (List V)} {T : List Str} {M : List (List Nat)} (hl : qs.length = cs.length) (st : St1 K H H' L x lt lm (qs ++ rs) (cs ++ ds) B T M) : St1 K H H' L x lt lm qs cs B T M :=
  ⟨Box.pre (qs := lt :: lm :: qs) (cs := strV T :: mkV M :: cs) (by simp only [List.length_cons, hl]) st.b, st.x0, st.at_, st.L2, st.L26, st.gm, st.len, st.th⟩
theorem St1.row {K : PySem.W.Frag} {H H' : Hp} {L B n j : Nat} {x lt lm ps : Addr} {qs : List Addr} {cs : List (List V)} {T som : List Str} {M : List (List Nat)} {Q : VK} {E : XK} (st : St1 K H H' L x lt lm qs cs B T M) (hl : qs.length = cs.length) (hB : B ≤ 80000) (hn : n ≤ M.length) (hps : H' ps = some (.lst (som.map V.str))) (hok : ThOk T.length som) (hj : som.length ≤ 2 ^ j)
    (q : ∀ k nt nm r H2, LeastK L (ends L 1 0) (lowAt M n) M[n]? som.length k → St1 K H H2 L x nt nm (qs ++ [r]) (cs ++ [mkV (runMk L (ends L 1 0) (lowAt M n) M[n]? k som.length)]) (B + (j + 1)) (insR T n som) (insR M n (runMk L (ends L 1 0) (lowAt M n) M[n]? k som.length)) → Kp H' H2 → Q (.ref r) H2) : sp_Shelf_put_row K [.ref x, .int n, .ref ps] H' Q E := by
  have hlen := st.len
  have hm := hok.2.1
  have h1 : 1 ≤ som.length := List.length_pos_iff.mpr hok.1
  refine ⟨x, lt, lm, ps, L, B, n, T, som, M, rfl, st.sh, st.ne, hps, st.b.clo, st.L2, st.L26, st.gm, hB, hlen, by omega, by omega, fun t ht => by have := isTh_len (hok.2.2 t ht); omega, fun z => absurd hok z, fun _ z => absurd ⟨by omega, by omega⟩ z, fun _ _ _ k nt nm r H2 hk hnt hnm hr n1 n2 n3 hkeep hsh hr2 hC hkp => ?_⟩
  rw [Int.toNat_natCast] at hk hsh hr2
  obtain ⟨dx, hp⟩ := st.at_
  have hkB := hk.le (by omega) (st.gm.rooms st.L2 hB hj)
  have b1 := st.b.keep st.x0 hp hkeep hC
  have hl2 : (lt :: lm :: qs).length = (strV T :: mkV M :: cs).length := by simp only [List.length_cons, hl]
  have b2 := b1.swap 0 (st.b.notin hl2 hnt) (st.b.ex.back hnt) hsh.lt
  have b3 := b2.swap 1 (fun z hz => by
    rcases List.mem_or_eq_of_mem_set hz with w | w
    · exact st.b.notin hl2 hnm z w
    · rw [w]; exact n1) (st.b.ex.back hnm) hsh.lm
  have b4 := b3.put (by simp only [List.length_set, List.length_cons, hl]) (fun z hz => by
    rcases List.mem_or_eq_of_mem_set hz with w | w
    · rcases List.mem_or_eq_of_mem_set w with v | v
      · exact st.b.notin hl2 hr z v
      · rw [v]; exact n2
    · rw [w]; exact n3) (st.b.ex.back hr) hr2
  refine q k nt nm r H2 hk ⟨b4, st.x0, hsh.at_, st.L2, st.L26, st.gm.row st.L2 hB hn h1 hk hkB (by omega), by rw [insR_len (by omega), insR_len hn, runMk_len]; omega, fun t ht => ?_⟩ hkp
  rcases insR_mem ht with z | z
  · exact st.th t z
  · exact hok.2.2 t z
/-! ### law_draw -/
def sp_law_draw (K : PySem.W.Frag) : Sp := fun vs H Q _ => ∃ (a : Addr) (ns : List Int) (k many : Int), vs = [.ref a, .int k, .int many] ∧ SqL K H a (ns.map V.int) ∧ ns.length ≤ 63 ∧ 0 ≤ k ∧ k < 1000000 ∧ 0 < many ∧ many < 2 ^ 63 ∧
  ∀ d : Int, 0 ≤ d → d < many → Q (.int d) H
def t_law_draw (K : PySem.W.Frag) (E : XK) : TS :=
  (tMeet (tAsg (tIf (tTest (tOp rGtI (tCB (rLenQ K) (tCons (tVar 0) tNil)) (tC (.int 0)))) (tOp (rIxL K) (tVar 0) (tOp rModI (tVar 1) (tCB (rLenQ K) (tCons (tVar 0) tNil)))) (tC (.int 0))) (gName 3))
    (tMeet (tIfS (tAnd (tTest (tOp rGtI (tCB (rLenQ K) (tCons (tVar 0) tNil)) (tC (.int 0)))) (tTest (tOp rEq (tOp rModI (tOp rDivW (tOp (rIxL K) (tVar 0) (tC (.int 0))) (tC (.int 7))) (tC (.int 2))) (tC (.int 1)))))
    (tSeq (tFor (iRng1 (tCons (tOp rModI (tOp rDivW (tVar 1) (tCB (rLenQ K) (tCons (tVar 0) tNil))) (tC (.int 60))) tNil)) (gName 4)
    (tAsg (tOp rDivW (tVar 3) (tC (.int 1000003))) (gName 3)))
    (tRet (tOp rModI (tOp rModI (tVar 3) (tC (.int 1000003))) (tVar 2))))
    tNext)
    (tSeq (tAsg (tOp rAddI (tOp rAddI (tOp rModI (tVar 3) (tC (.int 1000003))) (tOp rMulW (tOp rMulW (tC (.int 31)) (tVar 1)) (tVar 1))) (tC (.int 1))) (gName 5))
    (tRet (tOp rModI (tOp rModI (tOp rMulW (tOp rModI (tOp rMulW (tVar 5) (tC (.int 48271))) (tC (.int 999983))) (tC (.int 7919))) (tC (.int 524287))) (tVar 2))))))
theorem len_law_draw {K : PySem.W.Frag} (vs : List V) (H : Hp) (Q : VK) (E : XK) : sp_law_draw K vs H Q E → vs.length = (["script", "k", "many"] : List Str).length := by
  walk_at "len"

theorem pure_law_draw {K : PySem.W.Frag} (T : Kx K) (vs : List V) (H : Hp) (Q : VK) (E : XK) (h : sp_law_draw K vs H Q E) : t_law_draw K E { nx := fun _ H' => Q .non H', rt := Q } (start ["script", "k", "many", "cell", "j", "seed"] vs) H := by
  obtain ⟨a, ns, k, many, rfl, hS, hl, h0, h1, hm, hm2, q⟩ := h
  have hk : 0 ≤ 31 * k * k ∧ 31 * k * k < 2 ^ 60 := by
    have e : 31 * k * k ≤ 31 * 1000000 * 1000000 := Int.mul_le_mul (by omega) (by omega) h0 (by omega)
    exact ⟨Int.mul_nonneg (by omega) h0, by omega⟩
  have hd : ∀ j : Int, 0 ≤ j → j < (ns.map V.int).length → ∃ x, atI (ns.map V.int) j = some (.int x) := fun j j0 j1 => by
    obtain ⟨n, rfl⟩ := Int.eq_ofNat_of_zero_le j0
    rw [List.length_map] at j1
    exact ⟨ns[n]'(by omega), atI_nat (by rw [List.getElem?_map, List.getElem?_eq_getElem (by omega)]; rfl)⟩
  have el : (ns.map V.int).length ≤ 63 := by rw [List.length_map]; exact hl
  have fin : ∀ x : Int, Q (.int (x % many)) H := fun x => q _ (Int.emod_nonneg _ (by omega)) (Int.emod_lt_of_pos _ hm)
  refine ⟨fun σ' H' => ∃ c : Int, σ' = [some (.ref a), some (.int k), some (.int many), some (.int c), none, none] ∧ H = H', ?_, ?_⟩
  · walk_at "go"
    walk_at "if"
    · intro c
      obtain ⟨x, hx⟩ := hd (k % (ns.map V.int).length) (Int.emod_nonneg _ (by omega)) (Int.emod_lt_of_pos _ (by omega))
      walk_at "go"
      rfl
    · intro c
      exact ⟨0, rfl, rfl⟩
  · rintro _ _ ⟨c, rfl, rfl⟩
    refine ⟨fun σ' H' => σ' = [some (.ref a), some (.int k), some (.int many), some (.int c), none, none] ∧ H = H', ?_, ?_⟩
    · walk_at "go"
      walk_at "if"
      · intro c1
        obtain ⟨x, hx⟩ := hd 0 (by omega) (by omega)
        walk_at "go"
        walk_at "if"
        · intro _
          walk_at "go"
          refine for_fix walk_range1 (fun i σ' => ∃ x c, σ' = [some (.ref a), some (.int k), some (.int many), some (.int c), x, none]) trivial ⟨_, _, rfl⟩ ?_ ?_
          · rintro i σ' hi ⟨x, c, rfl⟩
            walk_at "go"
            exact ⟨_, _, rfl⟩
          · rintro σ' ⟨x, c, rfl⟩
            walk_at "go"
            exact fin _
        · intro _
          exact ⟨rfl, rfl⟩
      · intro _
        exact ⟨rfl, rfl⟩
    · rintro _ _ ⟨rfl, rfl⟩
      walk_at "go"
      exact fin _
/-! ### law_of -/
def sp_law_of (K : PySem.W.Frag) : Sp := fun vs H Q E => ∃ (a : Addr) (x w : Str), vs = [.ref a] ∧ H a = some (ExT (.ref (He.ga K x)) none a) ∧ ((x = "NoLetters" ∧ w = "letters") ∨ (x = "NoThing" ∧ w = "thing") ∨ (x = "NoPlace" ∧ w = "place")) ∧ Clo H ∧ Q (.str w) H
def t_law_of (K : PySem.W.Frag) (E : XK) : TS :=
  (tTrim (tSeq (tAsg (tLst (tCons (tCB (rIsT K) (tCons (tVar 0) (tCons (tC (.ref (He.ga K "NoLetters"))) tNil))) (tCons (tCB (rIsT K) (tCons (tVar 0) (tCons (tC (.ref (He.ga K "NoThing"))) tNil))) (tCons (tCB (rIsT K) (tCons (tVar 0) (tCons (tC (.ref (He.ga K "NoPlace"))) tNil))) tNil)))) (gName 1))
    (tSeq (tAsg (tTrimE (tCB (rIsTT K) (tCons (tVar 0) (tCons (tTup (tCons (tC (.ref (He.ga K "NoHand"))) (tCons (tC (.ref (He.ga K "NoLine"))) (tCons (tC (.ref (He.ga K "NoRoom"))) (tCons (tC (.ref (He.ga K "NoShelf"))) (tCons (tC (.ref (He.ga K "NoState"))) tNil)))))) tNil)))) (gName 2))
    (tSeq (tIfS (tOr (tB (tVar 2)) (tOr (tTest (tOp rNe (tBM K "list" (rCntB K) (tVar 1) (tCons (tC (.bl true)) tNil)) (tC (.int 1)))) (tNot (tB (tCB (rIsT K) (tCons (tVar 0) (tCons (tC (.ty "ValueError")) tNil)))))))
    (tRet (tC (.str "several")))
    tNext)
    (tRet (tTrimE (tOp (rIxL K) (tLst (tCons (tC (.str "letters")) (tCons (tC (.str "thing")) (tCons (tC (.str "place")) tNil)))) (tBM K "list" (rIndex K) (tVar 1) (tCons (tC (.bl true)) tNil)))))))))
theorem len_law_of {K : PySem.W.Frag} (vs : List V) (H : Hp) (Q : VK) (E : XK) : sp_law_of K vs H Q E → vs.length = (["e"] : List Str).length := by
  walk_at "len"

theorem pure_law_of {K : PySem.W.Frag} (T : Kx K) (vs : List V) (H : Hp) (Q : VK) (E : XK) (h : sp_law_of K vs H Q E) : t_law_of K E { nx := fun _ H' => Q .non H', rt := Q } (start ["e", "some", "others"] vs) H := by
  obtain ⟨a, x, w, rfl, ha, hx, hC, q⟩ := h
  rcases hx with ⟨rfl, rfl⟩ | ⟨rfl, rfl⟩ | ⟨rfl, rfl⟩
  · walk_at "go"
    walk_at "n"
    refine isT_to ha xdOk_none T.e_NoLetters T.i_NoLetters_NoLetters ?_
    walk_at "go"
    walk_at "n"
    refine isT_to ha xdOk_none T.e_NoLetters T.i_NoLetters_NoThing ?_
    walk_at "go"
    walk_at "n"
    refine isT_to ha xdOk_none T.e_NoLetters T.i_NoLetters_NoPlace ?_
    walk_at "go"
    intro l hl
    have hl1 : (upd H l (.lst [.bl true, .bl false, .bl false])) l = some (.lst ([true, false, false].map V.bl)) := upd_same
    have ha1 : (upd H l (.lst [.bl true, .bl false, .bl false])) a = some (ExT (.ref (He.ga K "NoLetters")) none a) := by rw [upd_ne (ne_of_none ha hl)]; exact ha
    have hC1 := clo_new (o := .lst [.bl true, .bl false, .bl false]) hC hl rfl
    have ex1 := Ex.new (o := .lst [.bl true, .bl false, .bl false]) (Ex.refl H) hl
    generalize upd H l (.lst [.bl true, .bl false, .bl false]) = H1 at hl1 ha1 hC1 ex1 ⊢
    walk_at "go"
    intro tp htp
    walk_at "n"
    refine ⟨a, _, tp, none, _, _, false, rfl, by rw [upd_ne (ne_of_none ha1 htp)]; exact ha1, xdOk_none, T.e_NoLetters, upd_same, .cons (.own _) (.cons (.own _) (.cons (.own _) (.cons (.own _) (.cons (.own _) (.nil))))), kitAny_cons T.i_NoLetters_NoHand (fun _ => kitAny_cons T.i_NoLetters_NoLine (fun _ => kitAny_cons T.i_NoLetters_NoRoom (fun _ => kitAny_cons T.i_NoLetters_NoShelf (fun _ => kitAny_cons T.i_NoLetters_NoState (fun _ => kitAny_nil) (fun z => nomatch z)) (fun z => nomatch z)) (fun z => nomatch z)) (fun z => nomatch z)) (fun z => nomatch z), ?_⟩
    refine ⟨_, Trim.back (Ex.new (Ex.refl _) htp) hC1, ?_⟩
    walk_at "go"
    walk_at "n"
    refine ⟨l, _, true, rfl, rfl, .inl (.inl hl1), ?_⟩
    refine ⟨rfl, ?_⟩
    refine ⟨_, rfl, ?_⟩
    refine iteF ?_
    walk_at "go"
    walk_at "n"
    refine isT_ty ha1 xdOk_none T.e_NoLetters T.i_NoLetters_ValueError ?_
    walk_at "go"
    intro l2 hl2
    walk_at "go"
    refine ⟨tyV_list (by rw [upd_ne (ne_of_none hl1 hl2)]; exact hl1), ?_⟩
    walk_at "go"
    walk_at "n"
    refine ⟨l, _, _, 0, _, rfl, rfl, .inl (.inl (by rw [upd_ne (ne_of_none hl1 hl2)]; exact hl1)), rfl, rfl, rfl, rfl, fun m z hm hz => ?_, ?_⟩
    · match m, hm, hz with
      | m, hm, _ => exact absurd hm (Nat.not_lt_zero m)
    refine ⟨_, _, _, _, rfl, rfl, sqL_at, rfl, ?_⟩
    refine ⟨_, Trim.back (Ex.new (Ex.refl _) hl2) hC1, ?_⟩
    exact ⟨_, Trim.back ex1 hC, q⟩
  · walk_at "go"
    walk_at "n"
    refine isT_to ha xdOk_none T.e_NoThing T.i_NoThing_NoLetters ?_
    walk_at "go"
    walk_at "n"
    refine isT_to ha xdOk_none T.e_NoThing T.i_NoThing_NoThing ?_
    walk_at "go"
    walk_at "n"
    refine isT_to ha xdOk_none T.e_NoThing T.i_NoThing_NoPlace ?_
    walk_at "go"
    intro l hl
    have hl1 : (upd H l (.lst [.bl false, .bl true, .bl false])) l = some (.lst ([false, true, false].map V.bl)) := upd_same
    have ha1 : (upd H l (.lst [.bl false, .bl true, .bl false])) a = some (ExT (.ref (He.ga K "NoThing")) none a) := by rw [upd_ne (ne_of_none ha hl)]; exact ha
    have hC1 := clo_new (o := .lst [.bl false, .bl true, .bl false]) hC hl rfl
    have ex1 := Ex.new (o := .lst [.bl false, .bl true, .bl false]) (Ex.refl H) hl
    generalize upd H l (.lst [.bl false, .bl true, .bl false]) = H1 at hl1 ha1 hC1 ex1 ⊢
    walk_at "go"
    intro tp htp
    walk_at "n"
    refine ⟨a, _, tp, none, _, _, false, rfl, by rw [upd_ne (ne_of_none ha1 htp)]; exact ha1, xdOk_none, T.e_NoThing, upd_same, .cons (.own _) (.cons (.own _) (.cons (.own _) (.cons (.own _) (.cons (.own _) (.nil))))), kitAny_cons T.i_NoThing_NoHand (fun _ => kitAny_cons T.i_NoThing_NoLine (fun _ => kitAny_cons T.i_NoThing_NoRoom (fun _ => kitAny_cons T.i_NoThing_NoShelf (fun _ => kitAny_cons T.i_NoThing_NoState (fun _ => kitAny_nil) (fun z => nomatch z)) (fun z => nomatch z)) (fun z => nomatch z)) (fun z => nomatch z)) (fun z => nomatch z), ?_⟩
    refine ⟨_, Trim.back (Ex.new (Ex.refl _) htp) hC1, ?_⟩
    walk_at "go"
    walk_at "n"
    refine ⟨l, _, true, rfl, rfl, .inl (.inl hl1), ?_⟩
    refine ⟨rfl, ?_⟩
    refine ⟨_, rfl, ?_⟩
    refine iteF ?_
    walk_at "go"
    walk_at "n"
    refine isT_ty ha1 xdOk_none T.e_NoThing T.i_NoThing_ValueError ?_
    walk_at "go"
    intro l2 hl2
    walk_at "go"
    refine ⟨tyV_list (by rw [upd_ne (ne_of_none hl1 hl2)]; exact hl1), ?_⟩
    walk_at "go"
    walk_at "n"
    refine ⟨l, _, _, 1, _, rfl, rfl, .inl (.inl (by rw [upd_ne (ne_of_none hl1 hl2)]; exact hl1)), rfl, rfl, rfl, rfl, fun m z hm hz => ?_, ?_⟩
    · match m, hm, hz with
      | 0, _, hz => cases hz; rfl
    refine ⟨_, _, _, _, rfl, rfl, sqL_at, rfl, ?_⟩
    refine ⟨_, Trim.back (Ex.new (Ex.refl _) hl2) hC1, ?_⟩
    exact ⟨_, Trim.back ex1 hC, q⟩
  · walk_at "go"
    walk_at "n"
    refine isT_to ha xdOk_none T.e_NoPlace T.i_NoPlace_NoLetters ?_
    walk_at "go"
    walk_at "n"
    refine isT_to ha xdOk_none T.e_NoPlace T.i_NoPlace_NoThing ?_
    walk_at "go"
    walk_at "n"
    refine isT_to ha xdOk_none T.e_NoPlace T.i_NoPlace_NoPlace ?_
    walk_at "go"
    intro l hl
    have hl1 : (upd H l (.lst [.bl false, .bl false, .bl true])) l = some (.lst ([false, false, true].map V.bl)) := upd_same
    have ha1 : (upd H l (.lst [.bl false, .bl false, .bl true])) a = some (ExT (.ref (He.ga K "NoPlace")) none a) := by rw [upd_ne (ne_of_none ha hl)]; exact ha
    have hC1 := clo_new (o := .lst [.bl false, .bl false, .bl true]) hC hl rfl
    have ex1 := Ex.new (o := .lst [.bl false, .bl false, .bl true]) (Ex.refl H) hl
    generalize upd H l (.lst [.bl false, .bl false, .bl true]) = H1 at hl1 ha1 hC1 ex1 ⊢
    walk_at "go"
    intro tp htp
    walk_at "n"
    refine ⟨a, _, tp, none, _, _, false, rfl, by rw [upd_ne (ne_of_none ha1 htp)]; exact ha1, xdOk_none, T.e_NoPlace, upd_same, .cons (.own _) (.cons (.own _) (.cons (.own _) (.cons (.own _) (.cons (.own _) (.nil))))), kitAny_cons T.i_NoPlace_NoHand (fun _ => kitAny_cons T.i_NoPlace_NoLine (fun _ => kitAny_cons T.i_NoPlace_NoRoom (fun _ => kitAny_cons T.i_NoPlace_NoShelf (fun _ => kitAny_cons T.i_NoPlace_NoState (fun _ => kitAny_nil) (fun z => nomatch z)) (fun z => nomatch z)) (fun z => nomatch z)) (fun z => nomatch z)) (fun z => nomatch z), ?_⟩
    refine ⟨_, Trim.back (Ex.new (Ex.refl _) htp) hC1, ?_⟩
    walk_at "go"
    walk_at "n"
    refine ⟨l, _, true, rfl, rfl, .inl (.inl hl1), ?_⟩
    refine ⟨rfl, ?_⟩
    refine ⟨_, rfl, ?_⟩
    refine iteF ?_
    walk_at "go"
    walk_at "n"
    refine isT_ty ha1 xdOk_none T.e_NoPlace T.i_NoPlace_ValueError ?_
    walk_at "go"
    intro l2 hl2
    walk_at "go"
    refine ⟨tyV_list (by rw [upd_ne (ne_of_none hl1 hl2)]; exact hl1), ?_⟩
    walk_at "go"
    walk_at "n"
    refine ⟨l, _, _, 2, _, rfl, rfl, .inl (.inl (by rw [upd_ne (ne_of_none hl1 hl2)]; exact hl1)), rfl, rfl, rfl, rfl, fun m z hm hz => ?_, ?_⟩
    · match m, hm, hz with
      | 0, _, hz => cases hz; rfl
      | 1, _, hz => cases hz; rfl
    refine ⟨_, _, _, _, rfl, rfl, sqL_at, rfl, ?_⟩
    refine ⟨_, Trim.back (Ex.new (Ex.refl _) hl2) hC1, ?_⟩
    exact ⟨_, Trim.back ex1 hC, q⟩
/-! ### law_made -/
def sp_law_made (K : PySem.W.Frag) : Sp := fun vs H Q E => ∃ (L : Int), vs = [.int L] ∧ ¬ (2 ≤ L ∧ L ≤ 26) ∧ Clo H ∧ Q (.str "letters") H
def t_law_made (K : PySem.W.Frag) (E : XK) : TS :=
  (tTrim (tSeq (tAsg (tC (.str "made")) (gName 1))
    (tMeet (tTryT K (.ref (He.ga K "ShelfError")) 2 (tAsg (tCall (sp_law_of K) [] E0 (tCons (tVar 2) tNil)) (gName 1)) (fun c d _ H => E c d H) (fun W => (tDrop (tMakeSD (He.ga K "Shelf") (sp_Shelf___init__ K) (fun σ c d H => W c d σ H) (tCons (tVar 0) tNil)))))
    (tRet (tVar 1)))))
theorem len_law_made {K : PySem.W.Frag} (vs : List V) (H : Hp) (Q : VK) (E : XK) : sp_law_made K vs H Q E → vs.length = (["letters"] : List Str).length := by
  walk_at "len"

theorem pure_law_made {K : PySem.W.Frag} (T : Kx K) (vs : List V) (H : Hp) (Q : VK) (E : XK) (h : sp_law_made K vs H Q E) : t_law_made K E { nx := fun _ H' => Q .non H', rt := Q } (start ["letters", "told", "e"] vs) H := by
  obtain ⟨L, rfl, hL, hC, q⟩ := h
  walk_at "go"
  refine ⟨fun σ1 H1 => Ex H H1 ∧ σ1 = [some (.int L), some (.str "letters"), none], ?_, ?_⟩
  · walk_at "go"
    intro x dx nx ndx nd
    refine ⟨x, dx, L, rfl, upd_same, clo_made hC nx ndx nd, fun _ => ?_, fun h1 h2 => absurd ⟨h1, h2⟩ hL⟩
    refine ⟨true, T.m_NoLetters_ShelfError, fun _ e he => ?_, fun z => nomatch z⟩
    have ex := Ex.new (o := ExT (.ref (He.ga K "NoLetters")) none e) (ex_made (C := He.ga K "Shelf") nx ndx) ((ex_made nx ndx).back he)
    walk_at "go"
    refine ⟨e, "NoLetters", "letters", rfl, upd_same, .inl ⟨rfl, rfl⟩, clo_new (clo_made hC nx ndx nd) he rfl, ?_⟩
    walk_at "go"
    rfl
  · rintro _ H1 ⟨ex, rfl⟩
    walk_at "go"
    exact q
/-! ### law_done -/
/-- how a deed on a shelf ends -/
def sp_law_done (K : PySem.W.Frag) : Sp := fun vs H Q E => ∃ (H0 : Hp) (x lt lm p : Addr) (qs : List Addr) (cs : List (List V)) (L B : Nat) (way pl : Int) (T som : List Str) (M : List (List Nat)), vs = [.ref x, .int way, .int pl, .ref p] ∧ St1 K H0 H L x lt lm qs cs B T M ∧ qs.length = cs.length ∧ B ≤ 80000 ∧
  H p = some (.lst (som.map V.str)) ∧ som.length ≤ 1000 ∧ (∀ t ∈ som, t.length ≤ 1000) ∧ -(2 ^ 61) ≤ pl ∧ pl < 2 ^ 61 ∧ T.length ≤ 300 ∧
  ((way = 0 ∧ ∃ t, som = [t] ∧ ((¬ ThOk T.length [t] ∧ Q (.str "thing") H) ∨ (ThOk T.length [t] ∧ ¬ (0 ≤ pl ∧ pl ≤ T.length) ∧ Q (.str "place") H) ∨
      (∃ n : Nat, pl = n ∧ n ≤ T.length ∧ T.length < 300 ∧ isTh t = true ∧ ∀ H2 M2, St1 K H0 H2 L x lt lm qs cs (B + 1) (insL T n t) M2 → Kp H H2 → Q (.str "done") H2))) ∨
   (way = 1 ∧ ((¬ ThOk T.length som ∧ Q (.str "thing") H) ∨ (ThOk T.length som ∧ ¬ (0 ≤ pl ∧ pl ≤ T.length) ∧ Q (.str "place") H) ∨
      (∃ n : Nat, pl = n ∧ n ≤ T.length ∧ ThOk T.length som ∧ ∀ H2 lt2 lm2 M2, St1 K H0 H2 L x lt2 lm2 qs cs (B + 10) (insR T n som) M2 → Kp H H2 → Q (.str "done") H2))) ∨
   (way = 2 ∧ ((¬ (0 ≤ pl ∧ pl < T.length) ∧ Q (.str "place") H) ∨ (∃ n : Nat, pl = n ∧ n < T.length ∧ ∀ H2 M2, St1 K H0 H2 L x lt lm qs cs B (T.eraseIdx n) M2 → Kp H H2 → Q (.str "done") H2))))
def t_law_done (K : PySem.W.Frag) (E : XK) : TS :=
  (tTrim (tSeq (tAsg (tC (.str "done")) (gName 4))
    (tMeet (tTryT K (.ref (He.ga K "ShelfError")) 5 (tAsg (tCall (sp_law_of K) [] E0 (tCons (tVar 5) tNil)) (gName 4)) (fun c d _ H => E c d H) (fun W => (tIfS (tTest (tOp rEq (tVar 1) (tC (.int 0))))
    (tDrop (tMethSD (He.ga K "Shelf") "put" (sp_Shelf_put K) (fun σ c d H => W c d σ H) (tVar 0) (tCons (tVar 2) (tCons (tOp (rIxL K) (tVar 3) (tC (.int 0))) tNil))))
    (tIfS (tTest (tOp rEq (tVar 1) (tC (.int 1))))
    (tDrop (tMethSD (He.ga K "Shelf") "put_row" (sp_Shelf_put_row K) (fun σ c d H => W c d σ H) (tVar 0) (tCons (tVar 2) (tCons (tVar 3) tNil))))
    (tDrop (tMethSD (He.ga K "Shelf") "take" (sp_Shelf_take K) (fun σ c d H => W c d σ H) (tVar 0) (tCons (tVar 2) tNil)))))))
    (tRet (tVar 4)))))
theorem len_law_done {K : PySem.W.Frag} (vs : List V) (H : Hp) (Q : VK) (E : XK) : sp_law_done K vs H Q E → vs.length = (["shelf", "way", "place", "some"] : List Str).length := by
  walk_at "len"

theorem pure_law_done {K : PySem.W.Frag} (T : Kx K) (vs : List V) (H : Hp) (Q : VK) (E : XK) (h : sp_law_done K vs H Q E) : t_law_done K E { nx := fun _ H' => Q .non H', rt := Q } (start ["shelf", "way", "place", "some", "told", "e"] vs) H := by
  obtain ⟨H0, x, lt, lm, p, qs, cs, L, B, way, pl, TT, som, M, rfl, st, hql, hB, hp, hsl, hst, hp0, hp1, hT, hw⟩ := h
  have hSp : SqL K H p (som.map V.str) := .inl (.inl hp)
  have hCH := st.b.clo
  rcases hw with ⟨rfl, t, rfl, hw⟩ | ⟨rfl, hw⟩ | ⟨rfl, hw⟩
  · have htl : t.length ≤ 1000 := hst t List.mem_cons_self
    rcases hw with ⟨h1, q⟩ | ⟨h1, h2, q⟩ | ⟨n, rfl, hn, hn2, ht, q⟩
    · walk_at "go"
      refine ⟨fun σ1 H1 => Ex H H1 ∧ Clo H1 ∧ σ1 = [some (.ref x), some (.int 0), some (.int pl), some (.ref p), some (.str "thing"), none], ?_, ?_⟩
      · walk_at "go"
        refine St1.meth st (by decide +kernel) (by decide +kernel) (by decide +kernel) ?_
        walk_at "go"
        refine ⟨_, _, _, _, rfl, rfl, hSp, rfl, ?_⟩
        walk_at "n"
        refine ⟨x, lt, lm, L, B, pl, t, TT, M, rfl, st.sh, st.ne, st.b.clo, st.L2, st.L26, st.gm, hB, st.len, hT, by omega, by omega, by omega, fun _ H1 ex1 c1 => ?_, fun y => absurd y h1, fun y => absurd y h1⟩
        refine ⟨true, T.m_NoThing_ShelfError, fun _ e he => ?_, fun z => nomatch z⟩
        walk_at "go"
        walk_at "n"
        refine ⟨e, "NoThing", "thing", rfl, upd_same, .inr (.inl ⟨rfl, rfl⟩), clo_new c1 he rfl, ?_⟩
        exact ⟨ex1.trans (Ex.new (Ex.refl _) he), clo_new c1 he rfl, rfl⟩
      · rintro _ H1 ⟨ex1, c1, rfl⟩
        walk_at "go"
        exact q
    · walk_at "go"
      refine ⟨fun σ1 H1 => Ex H H1 ∧ Clo H1 ∧ σ1 = [some (.ref x), some (.int 0), some (.int pl), some (.ref p), some (.str "place"), none], ?_, ?_⟩
      · walk_at "go"
        refine St1.meth st (by decide +kernel) (by decide +kernel) (by decide +kernel) ?_
        walk_at "go"
        refine ⟨_, _, _, _, rfl, rfl, hSp, rfl, ?_⟩
        walk_at "n"
        refine ⟨x, lt, lm, L, B, pl, t, TT, M, rfl, st.sh, st.ne, st.b.clo, st.L2, st.L26, st.gm, hB, st.len, hT, by omega, by omega, by omega, fun y => absurd h1 y, fun _ _ H1 ex1 c1 => ?_, fun _ a b => absurd ⟨a, b⟩ h2⟩
        refine ⟨true, T.m_NoPlace_ShelfError, fun _ e he => ?_, fun z => nomatch z⟩
        walk_at "go"
        walk_at "n"
        refine ⟨e, "NoPlace", "place", rfl, upd_same, .inr (.inr ⟨rfl, rfl⟩), clo_new c1 he rfl, ?_⟩
        exact ⟨ex1.trans (Ex.new (Ex.refl _) he), clo_new c1 he rfl, rfl⟩
      · rintro _ H1 ⟨ex1, c1, rfl⟩
        walk_at "go"
        exact q
    · walk_at "go"
      refine ⟨fun σ1 H1 => (∃ M2, St1 K H0 H1 L x lt lm qs cs (B + 1) (insL TT n t) M2) ∧ Kp H H1 ∧ σ1 = [some (.ref x), some (.int 0), some (.int (n : Int)), some (.ref p), some (.str "done"), none], ?_, ?_⟩
      · walk_at "go"
        refine St1.meth st (by decide +kernel) (by decide +kernel) (by decide +kernel) ?_
        walk_at "go"
        refine ⟨_, _, _, _, rfl, rfl, hSp, rfl, ?_⟩
        walk_at "n"
        refine St1.putK st hB (by have := st.len; omega) (by have := st.len; omega) ht fun j H2 hj s2 kp => ?_
        exact ⟨⟨_, s2⟩, kp, rfl⟩
      · rintro _ H1 ⟨⟨M2, s2⟩, kp, rfl⟩
        walk_at "go"
        exact ⟨_, kp, q _ _ s2 kp⟩
  · rcases hw with ⟨h1, q⟩ | ⟨h1, h2, q⟩ | ⟨n, rfl, hn, hok, q⟩
    · walk_at "go"
      refine ⟨fun σ1 H1 => Ex H H1 ∧ Clo H1 ∧ σ1 = [some (.ref x), some (.int 1), some (.int pl), some (.ref p), some (.str "thing"), none], ?_, ?_⟩
      · walk_at "go"
        refine St1.meth st (by decide +kernel) (by decide +kernel) (by decide +kernel) ?_
        walk_at "go"
        walk_at "n"
        refine ⟨x, lt, lm, p, L, B, pl, TT, som, M, rfl, st.sh, st.ne, hp, st.b.clo, st.L2, st.L26, st.gm, hB, st.len, hT, by omega, fun t ht => by have := hst t ht; omega, fun _ => ?_, fun y => absurd y h1, fun y => absurd y h1⟩
        have ex1 := Ex.refl H
        have c1 := st.b.clo
        refine ⟨true, T.m_NoThing_ShelfError, fun _ e he => ?_, fun z => nomatch z⟩
        walk_at "go"
        walk_at "n"
        refine ⟨e, "NoThing", "thing", rfl, upd_same, .inr (.inl ⟨rfl, rfl⟩), clo_new c1 he rfl, ?_⟩
        exact ⟨ex1.trans (Ex.new (Ex.refl _) he), clo_new c1 he rfl, rfl⟩
      · rintro _ H1 ⟨ex1, c1, rfl⟩
        walk_at "go"
        exact q
    · walk_at "go"
      refine ⟨fun σ1 H1 => Ex H H1 ∧ Clo H1 ∧ σ1 = [some (.ref x), some (.int 1), some (.int pl), some (.ref p), some (.str "place"), none], ?_, ?_⟩
      · walk_at "go"
        refine St1.meth st (by decide +kernel) (by decide +kernel) (by decide +kernel) ?_
        walk_at "go"
        walk_at "n"
        refine ⟨x, lt, lm, p, L, B, pl, TT, som, M, rfl, st.sh, st.ne, hp, st.b.clo, st.L2, st.L26, st.gm, hB, st.len, hT, by omega, fun t ht => by have := hst t ht; omega, fun y => absurd h1 y, fun _ _ => ?_, fun _ a b => absurd ⟨a, b⟩ h2⟩
        have ex1 := Ex.refl H
        have c1 := st.b.clo
        refine ⟨true, T.m_NoPlace_ShelfError, fun _ e he => ?_, fun z => nomatch z⟩
        walk_at "go"
        walk_at "n"
        refine ⟨e, "NoPlace", "place", rfl, upd_same, .inr (.inr ⟨rfl, rfl⟩), clo_new c1 he rfl, ?_⟩
        exact ⟨ex1.trans (Ex.new (Ex.refl _) he), clo_new c1 he rfl, rfl⟩
      · rintro _ H1 ⟨ex1, c1, rfl⟩
        walk_at "go"
        exact q
    · walk_at "go"
      refine ⟨fun σ1 H1 => (∃ lt2 lm2 M2, St1 K H0 H1 L x lt2 lm2 qs cs (B + 10) (insR TT n som) M2) ∧ Kp H H1 ∧ σ1 = [some (.ref x), some (.int 1), some (.int (n : Int)), some (.ref p), some (.str "done"), none], ?_, ?_⟩
      · walk_at "go"
        refine St1.meth st (by decide +kernel) (by decide +kernel) (by decide +kernel) ?_
        walk_at "go"
        walk_at "n"
        refine St1.row (j := 9) st hql hB (by have := st.len; omega) hp hok (by have := hok.2.1; omega) fun k nt nm r H2 hk s2 kp => ?_
        exact ⟨⟨nt, nm, _, St1.pre hql s2⟩, kp, rfl⟩
      · rintro _ H1 ⟨⟨lt2, lm2, M2, s2⟩, kp, rfl⟩
        walk_at "go"
        exact ⟨_, kp, q _ _ _ _ s2 kp⟩
  · rcases hw with ⟨h2, q⟩ | ⟨n, rfl, hn, q⟩
    · walk_at "go"
      refine ⟨fun σ1 H1 => Ex H H1 ∧ Clo H1 ∧ σ1 = [some (.ref x), some (.int 2), some (.int pl), some (.ref p), some (.str "place"), none], ?_, ?_⟩
      · walk_at "go"
        refine St1.meth st (by decide +kernel) (by decide +kernel) (by decide +kernel) ?_
        walk_at "go"
        walk_at "n"
        refine ⟨x, lt, lm, L, pl, TT, M.map txt, rfl, st.sh, st.ne, by rw [List.length_map]; exact st.len, by omega, fun _ => ?_, fun n e h => absurd ⟨by omega, by omega⟩ h2⟩
        have ex1 := Ex.refl H
        have c1 := st.b.clo
        refine ⟨true, T.m_NoPlace_ShelfError, fun _ e he => ?_, fun z => nomatch z⟩
        walk_at "go"
        walk_at "n"
        refine ⟨e, "NoPlace", "place", rfl, upd_same, .inr (.inr ⟨rfl, rfl⟩), clo_new c1 he rfl, ?_⟩
        exact ⟨ex1.trans (Ex.new (Ex.refl _) he), clo_new c1 he rfl, rfl⟩
      · rintro _ H1 ⟨ex1, c1, rfl⟩
        walk_at "go"
        exact q
    · walk_at "go"
      refine ⟨fun σ1 H1 => (∃ M2, St1 K H0 H1 L x lt lm qs cs B (TT.eraseIdx n) M2) ∧ Kp H H1 ∧ σ1 = [some (.ref x), some (.int 2), some (.int (n : Int)), some (.ref p), some (.str "done"), none], ?_, ?_⟩
      · walk_at "go"
        refine St1.meth st (by decide +kernel) (by decide +kernel) (by decide +kernel) ?_
        walk_at "go"
        walk_at "n"
        refine St1.takeK st (by have := st.len; omega) (by have := st.len; omega) fun H2 h s2 kp => ?_
        exact ⟨⟨_, s2⟩, kp, rfl⟩
      · rintro _ H1 ⟨⟨M2, s2⟩, kp, rfl⟩
        walk_at "go"
        exact ⟨_, kp, q _ _ s2 kp⟩
/-! ### law_bad_thing -/
def sp_law_bad_thing (K : PySem.W.Frag) : Sp := fun vs H Q E => ∃ (a : Addr) (ns : List Int) (k : Int), vs = [.ref a, .int k] ∧ SqL K H a (ns.map V.int) ∧ ns.length ≤ 63 ∧ 0 ≤ k ∧ k < 10000 ∧ Clo H ∧ ∀ t, isTh t = false → t.length ≤ 50 → Q (.str t) H
def t_law_bad_thing (K : PySem.W.Frag) (E : XK) : TS :=
  (tTrim (tSeq (tAsg (tSl rSlX (tC (.str "abcdefghijkl")) tNoPart (tPart (tOp rAddI (tC (.int 1)) (tCall (sp_law_draw K) [] E (tCons (tVar 0) (tCons (tVar 1) (tCons (tC (.int 12)) tNil))))))) (gName 2))
    (tSeq (tAsg (tCall (sp_law_draw K) [] E (tCons (tVar 0) (tCons (tOp rAddI (tVar 1) (tC (.int 1))) (tCons (tCB rLenS1 (tCons (tVar 2) tNil)) tNil)))) (gName 3))
    (tSeq (tAsg (tOp rIxS (tC (.str " A-_.")) (tCall (sp_law_draw K) [] E (tCons (tVar 0) (tCons (tOp rAddI (tVar 1) (tC (.int 2))) (tCons (tC (.int 5)) tNil))))) (gName 4))
    (tSeq (tAsg (tOp rAddS1 (tOp rAddS1 (tSl rSlX (tVar 2) tNoPart (tPart (tVar 3))) (tVar 4)) (tSl rSlX (tVar 2) (tPart (tOp rAddI (tVar 3) (tC (.int 1)))) tNoPart)) (gName 5))
    (tRet (tTrimE (tOp (rIxL K) (tLst (tCons (tC (.str "")) (tCons (tC (.str "abcdefghijklm")) (tCons (tOp rMulS (tC (.str "0")) (tOp rAddI (tC (.int 13)) (tCall (sp_law_draw K) [] E (tCons (tVar 0) (tCons (tOp rAddI (tVar 1) (tC (.int 3))) (tCons (tC (.int 30)) tNil)))))) (tCons (tVar 5) tNil))))) (tCall (sp_law_draw K) [] E (tCons (tVar 0) (tCons (tOp rAddI (tVar 1) (tC (.int 4))) (tCons (tC (.int 4)) tNil))))))))))))
theorem len_law_bad_thing {K : PySem.W.Frag} (vs : List V) (H : Hp) (Q : VK) (E : XK) : sp_law_bad_thing K vs H Q E → vs.length = (["script", "k"] : List Str).length := by
  walk_at "len"

theorem bad_sign {t : Str} {c : Nat} (h : c ∈ t.cps.toList) (hc : decide (c ∈ SGN.cps.toList) = false) : isTh t = false := by
  unfold isTh
  have e : (t.cps.toList.all fun c => decide (c ∈ SGN.cps.toList)) = false := by
    cases q : t.cps.toList.all fun c => decide (c ∈ SGN.cps.toList) with
    | false => rfl
    | true =>
      have := List.all_eq_true.mp q c h
      rw [hc] at this
      cases this
  rw [e, Bool.and_false, Bool.and_false]
theorem bad_long {t : Str} (h : 12 < t.length) : isTh t = false := by
  unfold isTh
  rw [decide_eq_false (show ¬ t.length ≤ 12 by omega), Bool.false_and, Bool.and_false]
theorem odd_at {j : Int} (h0 : 0 ≤ j) (h : j < 5) : ∃ c, atI (" A-_." : Str).cps.toList j = some c ∧ decide (c ∈ SGN.cps.toList) = false := by
  obtain ⟨n, rfl⟩ := Int.eq_ofNat_of_zero_le h0
  have h5 : n < 5 := by omega
  have hh : ∀ n : Nat, n < 5 → ((atI (" A-_." : Str).cps.toList (n : Int)).any fun c => !decide (c ∈ SGN.cps.toList)) = true := by decide +kernel
  have := hh n h5
  cases e : atI (" A-_." : Str).cps.toList (n : Int) with
  | none => rw [e] at this; cases this
  | some c =>
    rw [e] at this
    exact ⟨c, rfl, by simpa using this⟩
theorem good_cut : ∀ m : Nat, m < 12 → Txt.slice "abcdefghijkl" none (some (1 + (m : Int))) = txt (List.range (1 + m)) := by decide +kernel
theorem pure_law_bad_thing {K : PySem.W.Frag} (T : Kx K) (vs : List V) (H : Hp) (Q : VK) (E : XK) (h : sp_law_bad_thing K vs H Q E) : t_law_bad_thing K E { nx := fun _ H' => Q .non H', rt := Q } (start ["script", "k", "good", "at", "sign", "bent"] vs) H := by
  obtain ⟨a, ns, k, rfl, hS, hl, hk0, hk1, hC, q⟩ := h
  walk_at "go"
  walk_at "draw"
  intro d1 d10 d11
  obtain ⟨m, rfl⟩ := Int.eq_ofNat_of_zero_le d10
  walk_at "go"
  have hg := good_cut m (by omega)
  rw [hg]
  have hl1 : (txt (List.range (1 + m))).length = 1 + m := by rw [txt_len, List.length_range]
  walk_at "go"
  walk_at "b"
  refine ⟨a, ns, k + 1, (txt (List.range (1 + m))).length, rfl, hS, hl, by omega, by omega, by omega, by omega, fun d2 d20 d21 => ?_⟩
  obtain ⟨i, rfl⟩ := Int.eq_ofNat_of_zero_le d20
  walk_at "go"
  walk_at "draw"
  intro d3 d30 d31
  obtain ⟨c, hat, hc⟩ := odd_at d30 d31
  have hl2 : ((" A-_." : Str)).length ≤ sizeLine := by decide +kernel
  have hcl : (⟨#[c]⟩ : Str).length = 1 := rfl
  have hsz := sz
  walk_at "go"
  rw [slice_txt_to (by omega)]
  have ha := txt_len ((List.range (1 + m)).take (i : Int).toNat)
  have ha2 : ((List.range (1 + m)).take (i : Int).toNat).length ≤ 1 + m := by rw [List.length_take, List.length_range]; omega
  refine ⟨by omega, ?_⟩
  have hab : (txt ((List.range (1 + m)).take (i : Int).toNat) ++ (⟨#[c]⟩ : Str)).length = (txt ((List.range (1 + m)).take (i : Int).toNat)).length + 1 := by rw [Str.length_append]; rfl
  walk_at "go"
  rw [slice_txt_from (by omega)]
  have hb := txt_len ((List.range (1 + m)).drop ((i : Int) + 1).toNat)
  have hb2 := List.length_drop (i := ((i : Int) + 1).toNat) (l := List.range (1 + m))
  rw [List.length_range] at hb2
  refine ⟨by omega, ?_⟩
  obtain ⟨bent, hbent⟩ : ∃ b, b = txt ((List.range (1 + m)).take (i : Int).toNat) ++ (⟨#[c]⟩ : Str) ++ txt ((List.range (1 + m)).drop ((i : Int) + 1).toNat) := ⟨_, rfl⟩
  have hbb : isTh bent = false := bad_sign (c := c) (by rw [hbent, cps_app, cps_app]; exact List.mem_append_left _ (List.mem_append_right _ (List.mem_singleton.mpr rfl))) hc
  have hbl : bent.length ≤ 50 := by rw [hbent, Str.length_append, hab]; omega
  rw [← hbent]
  walk_at "go"
  walk_at "draw"
  intro d4 d40 d41
  walk_at "go"
  have hml : (Txt.mul ("0" : Str) (13 + d4)).length = (13 + d4).toNat := by
    show (Txt.mul ("0" : Str) (13 + d4)).cps.size = _
    rw [← Array.length_toList, show (Txt.mul ("0" : Str) (13 + d4)).cps.toList = List.replicate (13 + d4).toNat 48 from mul_one_list 48 _, List.length_replicate]
  generalize Txt.mul ("0" : Str) (13 + d4) = zz at hml ⊢
  intro p hp
  walk_at "go"
  refine ⟨_, _, _, _, rfl, sqL_new hS hp, hl, (by omega), (by omega), (by omega), (by omega), ?_⟩
  intro d5 d50 d51
  obtain ⟨_, hat2, y, hy, hy2, rfl⟩ := pick (xs := [V.str "", .str "abcdefghijklm", .str zz, .str bent]) (fun v => ∃ y, isTh y = false ∧ y.length ≤ 50 ∧ v = .str y) d50 (by simpa using d51)
    (all1 ⟨_, by decide +kernel, by decide +kernel, rfl⟩ (all1 ⟨_, by decide +kernel, by decide +kernel, rfl⟩ (all1 ⟨_, bad_long (by omega), by omega, rfl⟩ (all1 ⟨_, hbb, hbl, rfl⟩ all0))))
  refine ⟨_, _, _, _, rfl, rfl, sqL_at, hat2, ?_⟩
  refine ⟨_, Trim.back (Ex.new (Ex.refl _) hp) hC, ?_⟩
  exact ⟨_, Trim.refl hC, q _ hy hy2⟩
/-! ### law_far -/
/-- a number out of the bounds, not too far -/
def FarOf (lo hi x : Int) : Prop := (x < lo ∨ hi < x) ∧ lo - 1 - 10 ^ 18 ≤ x ∧ x ≤ hi + 1 + 10 ^ 18
def sp_law_far (K : PySem.W.Frag) : Sp := fun vs H Q E => ∃ (a : Addr) (ns : List Int) (k lo hi : Int), vs = [.ref a, .int k, .int lo, .int hi] ∧ SqL K H a (ns.map V.int) ∧ ns.length ≤ 63 ∧ 0 ≤ k ∧ k < 10000 ∧ -1000 ≤ lo ∧ lo ≤ hi + 1 ∧ hi ≤ 1000 ∧ Clo H ∧ ∀ x, FarOf lo hi x → Q (.int x) H
def t_law_far (K : PySem.W.Frag) (E : XK) : TS :=
  (tTrim (tMeet (tAsg (tIf (tTest (tOp rGtI (tCB (rLenQ K) (tCons (tVar 0) tNil)) (tC (.int 0)))) (tOp (rIxL K) (tVar 0) (tOp rModI (tVar 1) (tCB (rLenQ K) (tCons (tVar 0) tNil)))) (tC (.int 0))) (gName 4))
    (tSeq (tAsg (tOp rModI (tVar 4) (tOp rPowI (tC (.int 10)) (tC (.int 18)))) (gName 5))
    (tRet (tTrimE (tOp (rIxL K) (tLst (tCons (tOp rSubI (tVar 2) (tC (.int 1))) (tCons (tOp rAddI (tVar 3) (tC (.int 1))) (tCons (tOp rSubI (tOp rSubI (tVar 2) (tC (.int 1))) (tVar 5)) (tCons (tOp rAddI (tOp rAddI (tVar 3) (tC (.int 1))) (tVar 5)) tNil))))) (tCall (sp_law_draw K) [] E (tCons (tVar 0) (tCons (tOp rAddI (tVar 1) (tC (.int 1))) (tCons (tC (.int 4)) tNil))))))))))
theorem len_law_far {K : PySem.W.Frag} (vs : List V) (H : Hp) (Q : VK) (E : XK) : sp_law_far K vs H Q E → vs.length = (["script", "k", "least", "most"] : List Str).length := by
  walk_at "len"

theorem pure_law_far {K : PySem.W.Frag} (T : Kx K) (vs : List V) (H : Hp) (Q : VK) (E : XK) (h : sp_law_far K vs H Q E) : t_law_far K E { nx := fun _ H' => Q .non H', rt := Q } (start ["script", "k", "least", "most", "cell", "far"] vs) H := by
  obtain ⟨a, ns, k, lo, hi, rfl, hS, hl, hk0, hk1, hlo, hlh, hhi, hC, q⟩ := h
  have eN : (ns.map V.int).length = ns.length := List.length_map _
  walk_at "go"
  refine meet_fix (fun σ' => ∃ c : Int, σ' = [some (.ref a), some (.int k), some (.int lo), some (.int hi), some (.int c), none]) ?_ ?_
  · walk_at "go"
    refine iteD (fun c => ?_) fun c => ?_
    · have h1 := Int.emod_nonneg k (show (ns.length : Int) ≠ 0 by omega)
      have h2 := Int.emod_lt_of_pos k (show (0 : Int) < ns.length by omega)
      obtain ⟨x, hat, y, rfl⟩ := pick (xs := ns.map V.int) (e := k % (ns.length : Int)) (fun v => ∃ y : Int, v = .int y) h1 (by rw [eN]; exact h2) (fun v hv => by
        obtain ⟨z, _, rfl⟩ := List.mem_map.mp hv
        exact ⟨z, rfl⟩)
      walk_at "go"
      rw [eN]
      walk_at "go"
      exact ⟨_, rfl⟩
    · walk_at "go"
      exact ⟨_, rfl⟩
  rintro _ ⟨c, rfl⟩
  walk_at "go"
  refine ⟨show (0 : Int) < 10 ^ Int.toNat 18 by decide, ?_⟩
  have hf0 := Int.emod_nonneg c (show (10 ^ Int.toNat 18 : Int) ≠ 0 by decide)
  have hf1 : c % 1000000000000000000 < 1000000000000000000 := Int.emod_lt_of_pos c (by decide)
  have hf2 : (10 ^ Int.toNat 18 : Int) = 1000000000000000000 := by decide
  walk_at "go"
  intro p hp
  dsimp only
  rw [hf2] at hf0 ⊢
  generalize c % 1000000000000000000 = f at hf0 hf1 ⊢
  walk_at "go"
  refine ⟨_, _, _, _, rfl, sqL_new hS hp, hl, (by omega), (by omega), (by omega), (by omega), ?_⟩
  intro d d0 d1
  obtain ⟨_, hat, y, hy, rfl⟩ := pick (xs := [V.int (lo - 1), .int (hi + 1), .int (lo - 1 - f), .int (hi + 1 + f)]) (fun v => ∃ y, FarOf lo hi y ∧ v = .int y) d0 (by simpa using d1)
    (all1 ⟨_, ⟨by omega, by omega, by omega⟩, rfl⟩ (all1 ⟨_, ⟨by omega, by omega, by omega⟩, rfl⟩ (all1 ⟨_, ⟨by omega, by omega, by omega⟩, rfl⟩ (all1 ⟨_, ⟨by omega, by omega, by omega⟩, rfl⟩ all0))))
  refine ⟨_, _, _, _, rfl, rfl, sqL_at, hat, ?_⟩
  refine ⟨_, Trim.back (Ex.new (Ex.refl _) hp) hC, ?_⟩
  exact ⟨_, Trim.refl hC, q _ hy⟩
/-! ### law -/

def t_law (K : PySem.W.Frag) (E : XK) : TS :=
  (tSeq (tIfS (tTest (tOp rNe (tCall (sp_law_made K) [] E (tCons (tCall (sp_law_far K) [] E (tCons (tVar 0) (tCons (tC (.int 1)) (tCons (tC (.int 2)) (tCons (tC (.int 26)) tNil))))) tNil)) (tC (.str "letters"))))
    (tRet (tC (.bl false)))
    tNext)
    (tSeq (tAsg (tMake (He.ga K "Shelf") (sp_Shelf___init__ K) [] E (tCons (tOp rAddI (tC (.int 2)) (tCall (sp_law_draw K) [] E (tCons (tVar 0) (tCons (tC (.int 3)) (tCons (tC (.int 25)) tNil))))) tNil)) (gName 1))
    (tSeq (tAsg (tTrimE (tOp (rIxL K) (tLst (tCons (tCall (sp_law_draw K) [] E (tCons (tVar 0) (tCons (tC (.int 4)) (tCons (tC (.int 5)) tNil)))) (tCons (tOp rAddI (tC (.int 298)) (tCall (sp_law_draw K) [] E (tCons (tVar 0) (tCons (tC (.int 5)) (tCons (tC (.int 3)) tNil))))) tNil))) (tCB rInt1 (tCons (tOp rEq (tCall (sp_law_draw K) [] E (tCons (tVar 0) (tCons (tC (.int 6)) (tCons (tC (.int 8)) tNil)))) (tC (.int 0))) tNil)))) (gName 2))
    (tMeet (tIfS (tAnd (tTest (tOp rGtI (tVar 2) (tC (.int 0)))) (tTrimT (tTest (tOp rNe (tCall (sp_law_done K) [] E (tCons (tVar 1) (tCons (tC (.int 1)) (tCons (tC (.int 0)) (tCons (tLc (iRng1 (tCons (tVar 2) tNil)) (gName 3) tYes (tOp rAddS1 (tC (.str "a")) (tCB rStrI (tCons (tVar 3) tNil))) [3]) tNil))))) (tC (.str "done"))))))
    (tRet (tC (.bl false)))
    tNext)
    (tSeq (tAsg (tTrimE (tTup (tCons (tMeth (He.ga K "Shelf") "marks" (sp_Shelf_marks K) [] E (tVar 1) tNil) (tCons (tMeth (He.ga K "Shelf") "things" (sp_Shelf_things K) [] E (tVar 1) tNil) tNil)))) (gName 4))
    (tSeq (tAsg (tLst (tCons (tCall (sp_law_far K) [] E (tCons (tVar 0) (tCons (tC (.int 10)) (tCons (tC (.int 0)) (tCons (tVar 2) tNil))))) (tCons (tCall (sp_law_draw K) [] E (tCons (tVar 0) (tCons (tC (.int 12)) (tCons (tOp rAddI (tVar 2) (tC (.int 1))) tNil)))) tNil))) (gName 5))
    (tSeq (tFor (iRng1 (tCons (tC (.int 2)) tNil)) (gName 3)
    (tSeq (tAsg (tCall (sp_law_bad_thing K) [] E (tCons (tVar 0) (tCons (tOp rAddI (tC (.int 20)) (tOp rMulW (tC (.int 10)) (tVar 3))) tNil))) (gName 6))
    (tSeq (tAsg (tLc (iRng1 (tCons (tOp rAddI (tCall (sp_law_draw K) [] E (tCons (tVar 0) (tCons (tOp rAddI (tC (.int 40)) (tVar 3)) (tCons (tC (.int 3)) tNil)))) (tOp rMulW (tC (.int 9)) (tCall (sp_law_draw K) [] E (tCons (tVar 0) (tCons (tOp rAddI (tC (.int 46)) (tVar 3)) (tCons (tC (.int 2)) tNil)))))) tNil)) (gName 8) tYes (tOp rAddS1 (tC (.str "b")) (tCB rStrI (tCons (tVar 8) tNil))) [8]) (gName 7))
    (tSeq (tDrop (tBM K "list" rInsert (tVar 7) (tCons (tCall (sp_law_draw K) [] E (tCons (tVar 0) (tCons (tOp rAddI (tC (.int 42)) (tVar 3)) (tCons (tOp rAddI (tCB (rLenQ K) (tCons (tVar 7) tNil)) (tC (.int 1))) tNil)))) (tCons (tVar 6) tNil))))
    (tSeq (tAsg (tTrimE (tOp rRep (tLst (tCons (tC (.str "d")) tNil)) (tOp rAddI (tOp rSubI (tC (.int 301)) (tVar 2)) (tCall (sp_law_draw K) [] E (tCons (tVar 0) (tCons (tC (.int 44)) (tCons (tC (.int 20)) tNil))))))) (gName 9))
    (tSeq (tFor (iList K (tVar 5)) (gName 10)
    (tSeq (tIfS (tOr (tTrimT (tTest (tOp rNe (tCall (sp_law_done K) [] E (tCons (tVar 1) (tCons (tC (.int 0)) (tCons (tVar 10) (tCons (tLst (tCons (tVar 6) tNil)) tNil))))) (tC (.str "thing"))))) (tTest (tOp rNe (tCall (sp_law_done K) [] E (tCons (tVar 1) (tCons (tC (.int 1)) (tCons (tVar 10) (tCons (tVar 7) tNil))))) (tC (.str "thing")))))
    (tRet (tC (.bl false)))
    tNext)
    (tIfS (tOr (tTrimT (tTest (tOp rNe (tCall (sp_law_done K) [] E (tCons (tVar 1) (tCons (tC (.int 1)) (tCons (tVar 10) (tCons (tLst tNil) tNil))))) (tC (.str "thing"))))) (tTest (tOp rNe (tCall (sp_law_done K) [] E (tCons (tVar 1) (tCons (tC (.int 1)) (tCons (tVar 10) (tCons (tVar 9) tNil))))) (tC (.str "thing")))))
    (tRet (tC (.bl false)))
    tNext)))
    (tMeet (tIfS (tAnd (tTest (tOp rLtI (tVar 2) (tC (.int 300)))) (tTrimT (tTest (tOp rNe (tCall (sp_law_done K) [] E (tCons (tVar 1) (tCons (tVar 3) (tCons (tOp (rIxL K) (tVar 5) (tC (.int 0))) (tCons (tLst (tCons (tC (.str "e")) tNil)) tNil))))) (tC (.str "place"))))))
    (tRet (tC (.bl false)))
    tNext)
    (tIfS (tTrimT (tTest (tOp rNe (tCall (sp_law_done K) [] E (tCons (tVar 1) (tCons (tC (.int 2)) (tCons (tCall (sp_law_far K) [] E (tCons (tVar 0) (tCons (tOp rAddI (tC (.int 50)) (tOp rMulW (tC (.int 2)) (tVar 3))) (tCons (tC (.int 0)) (tCons (tOp rSubI (tVar 2) (tC (.int 1))) tNil))))) (tCons (tLst tNil) tNil))))) (tC (.str "place")))))
    (tRet (tC (.bl false)))
    tNext))))))))
    (tSeq (tIfS (tTrimT (tTest (tOp (rNeD K) (tTup (tCons (tMeth (He.ga K "Shelf") "marks" (sp_Shelf_marks K) [] E (tVar 1) tNil) (tCons (tMeth (He.ga K "Shelf") "things" (sp_Shelf_things K) [] E (tVar 1) tNil) tNil))) (tVar 4))))
    (tRet (tC (.bl false)))
    tNext)
    (tSeq (tIfS (tTest (tOp rEq (tVar 2) (tC (.int 300))))
    (tRet (tTrimE (tAndV (tOp rEq (tCall (sp_law_done K) [] E (tCons (tVar 1) (tCons (tC (.int 0)) (tCons (tOp (rIxL K) (tVar 5) (tC (.int 1))) (tCons (tLst (tCons (tC (.str "f")) tNil)) tNil))))) (tC (.str "thing"))) (tOp rEq (tCall (sp_law_done K) [] E (tCons (tVar 1) (tCons (tC (.int 2)) (tCons (tC (.int 299)) (tCons (tLst tNil) tNil))))) (tC (.str "done"))))))
    tNext)
    (tSeq (tAsg (tTrimE (tOp rCat (tOp rCat (tSl (rSlL K) (tOp (rIxT K) (tVar 4) (tC (.int 1))) tNoPart (tPart (tOp (rIxL K) (tVar 5) (tC (.int 1))))) (tLst (tCons (tC (.str "f")) tNil))) (tSl (rSlL K) (tOp (rIxT K) (tVar 4) (tC (.int 1))) (tPart (tOp (rIxL K) (tVar 5) (tC (.int 1)))) tNoPart))) (gName 11))
    (tRet (tTrimE (tAndV (tOp rEq (tCall (sp_law_done K) [] E (tCons (tVar 1) (tCons (tC (.int 0)) (tCons (tOp (rIxL K) (tVar 5) (tC (.int 1))) (tCons (tLst (tCons (tC (.str "f")) tNil)) tNil))))) (tC (.str "done"))) (tOp (rEqD K) (tMeth (He.ga K "Shelf") "things" (sp_Shelf_things K) [] E (tVar 1) tNil) (tVar 11)))))))))))))))
theorem len_law {K : PySem.W.Frag} (vs : List V) (H : Hp) (Q : VK) (E : XK) : sp_law K vs H Q E → vs.length = (["script"] : List Str).length := by
  walk_at "len"

theorem isTh_ok {t : Str} (h : isTh t = true) : PyData.strOk t = true := by
  have e : t = S t.cps.toList := str_ext rfl
  rw [e]
  refine strOk_S fun c hc => ?_
  unfold isTh at h
  rw [Bool.and_eq_true, Bool.and_eq_true] at h
  have := of_decide_eq_true (List.all_eq_true.mp h.2.2 c hc)
  have h2 : ∀ c ∈ SGN.cps.toList, c < 1000 := by decide +kernel
  have := h2 c this
  omega
theorem GoodMs.ok {L B : Nat} (hL : L ≤ 26) {M : List (List Nat)} (h : GoodMs L B M) : ∀ y ∈ M.map txt, PyData.strOk y = true := fun y hy => by
  obtain ⟨x, hx, rfl⟩ := List.mem_map.mp hy
  exact strOk_txt fun d hd => by have := (h.all x hx).1.lt d hd; omega
theorem a_th : ∀ k : Nat, k < 300 → isTh (("a" : Str) ++ toString (k : Int)) = true := by decide +kernel
theorem b_th : ∀ k : Nat, k < 12 → isTh (("b" : Str) ++ toString (k : Int)) = true := by decide +kernel
theorem strsI {n : Nat} (f : Nat → Str) : (List.range n).map (fun i => V.str (f i)) = ((List.range n).map f).map V.str := by rw [List.map_map]; rfl
theorem pure_law {K : PySem.W.Frag} (T : Kx K) (vs : List V) (H : Hp) (Q : VK) (E : XK) (h : sp_law K vs H Q E) : t_law K E { nx := fun _ H' => Q .non H', rt := Q } (start ["script", "shelf", "many", "k", "kept", "places", "bad", "row", "j", "long", "place", "due"] vs) H := by
  obtain ⟨a, ns, rfl, hS, hl, hO, q⟩ := h
  have hC := clo_only hO
  have b0 := Box.nil hC
  walk_at "go"
  refine ⟨a, ns, 1, 2, 26, rfl, hS, hl, by omega, by omega, by omega, by omega, by omega, hC, fun x hx => ?_⟩
  walk_at "go"
  refine ⟨fun z => by have := hx.1; omega, hC, ?_⟩
  walk_at "go"
  walk_at "draw"
  intro d1 d10 d11
  obtain ⟨m, rfl⟩ := Int.eq_ofNat_of_zero_le d10
  walk_at "go"
  walk_at "n"
  rw [show (2 : Int) + (m : Int) = ((2 + m : Nat) : Int) by omega]
  have hL : 2 ≤ 2 + m := by omega
  have hL2 : 2 + m ≤ 26 := by omega
  generalize 2 + m = L at hL hL2 ⊢
  intro y dx ny ndy nd
  refine sp_make (K := K) (B := 0) b0 rfl hL hL2 ny ndy nd fun lt lm H1 ex1 st => ?_
  have hSa := sqL_ex hS st.b.ex
  walk_at "go"
  refine ⟨_, _, _, _, rfl, hSa, hl, (by omega), (by omega), (by omega), (by omega), ?_⟩
  intro d2 d20 d21
  walk_at "go"
  refine ⟨_, _, _, _, rfl, hSa, hl, (by omega), (by omega), (by omega), (by omega), ?_⟩
  intro d3 d30 d31
  walk_at "go"
  intro p1 hp1
  walk_at "go"
  refine ⟨_, _, _, _, rfl, sqL_new hSa hp1, hl, (by omega), (by omega), (by omega), (by omega), ?_⟩
  intro d4 d40 d41
  walk_at "go"
  walk_at "n"
  refine .inr ⟨_, rfl, ?_⟩
  have hj0 : (0 : Int) ≤ (if decide (V.int d4 = V.int 0) = true then 1 else 0) := by split <;> omega
  have hj1 : (if decide (V.int d4 = V.int 0) = true then 1 else 0 : Int) < 2 := by split <;> omega
  obtain ⟨_, hat, mm, rfl, hmm0, hmm⟩ := pick (xs := [V.int d2, .int (298 + d3)]) (NatIn 0 300) hj0 hj1
    (all1 (natIn (by omega) (by omega)) (all1 (natIn (by omega) (by omega)) all0))
  refine ⟨_, _, _, _, rfl, rfl, sqL_at, hat, ?_⟩
  refine ⟨_, Trim.back (Ex.new (Ex.refl _) hp1) st.b.clo, ?_⟩
  clear hat hj0 hj1 hp1
  walk_at "go"
  refine ⟨fun σ1 H' => ∃ lt lm T M, St1 K H H' L y lt lm [] [] 10 T M ∧ T.length = mm ∧ σ1 = [some (.ref a), some (.ref y), some (.int mm), none, none, none, none, none, none, none, none, none], ?_, ?_⟩
  · walk_at "go"
    refine iteD (fun c => ?_) fun c => ?_
    · walk_at "go"
      intro D hD
      refine lc_fn walk_range1 (fun _ => true) (fun i => .str (("a" : Str) ++ toString (i : Int))) (by omega) (fun _ => trivial) ?_ ?_
      · intro i acc hi ha N hN _
        have hi2 : i < mm := by omega
        have hlg : (i : Int).natAbs.log2 < 1920 := by
          refine Nat.lt_of_le_of_lt (Nat.log2_le_self _) ?_
          omega
        have hth := isTh_len (a_th i (by omega))
        rw [Str.length_append] at hth
        walk_at "go"
        exact lc_end ha (by omega) (hN rfl)
      rw [filt_all, strsI (fun i => ("a" : Str) ++ toString (i : Int)), Int.toNat_natCast]
      obtain ⟨som, hsom⟩ : ∃ som, som = (List.range mm).map (fun (i : Nat) => ("a" : Str) ++ toString (i : Int)) := ⟨_, rfl⟩
      have hsl : som.length = mm := by rw [hsom, List.length_map, List.length_range]
      have hst : ∀ t ∈ som, isTh t = true := fun t ht => by
        rw [hsom] at ht
        obtain ⟨i, hi, rfl⟩ := List.mem_map.mp ht
        exact a_th i (by have := List.mem_range.mp hi; omega)
      rw [← hsom]
      have st2 := st.ext (Ex.new (o := .lst (som.map V.str)) (Ex.refl _) hD) (clo_new st.b.clo hD rfl)
      have hDD : (upd H1 D (.lst (som.map V.str))) D = some (.lst (som.map V.str)) := upd_same
      have hok : ThOk ([] : List Str).length som := ⟨fun e => by rw [e] at hsl; have : 0 = mm := hsl; omega, by show 0 + som.length ≤ 300; omega, hst⟩
      have kp1 := Kp.ex (Ex.new (o := .lst (som.map V.str)) (Ex.refl H1) hD) (clo_new st.b.clo hD rfl)
      generalize upd H1 D (.lst (som.map V.str)) = H2 at st2 hDD kp1 ⊢
      walk_at "n"
      refine ⟨H, y, lt, lm, D, [], [], L, 0, 1, 0, [], som, [], rfl, st2, rfl, by omega, hDD, by omega, fun t ht => by have := isTh_len (hst t ht); omega, by omega, by omega, by decide, .inr (.inl ⟨rfl, .inr (.inr ⟨0, rfl, Nat.le_refl _, hok, fun H3 lt2 lm2 M2 st3 kp3 => ?_⟩)⟩)⟩
      refine ⟨rfl, ?_⟩
      refine ⟨_, rfl, ?_⟩
      refine ⟨_, kp1.trans kp3, ?_⟩
      refine iteF ?_
      have hTl : (insR ([] : List Str) 0 som).length = mm := by rw [insR_len (show 0 ≤ ([] : List Str).length from Nat.le_refl _)]; show 0 + som.length = mm; omega
      exact ⟨lt2, lm2, _, _, st3, hTl, rfl⟩
    · exact ⟨lt, lm, [], [], st.mono (by omega), by show 0 = mm; omega, rfl⟩
  rintro _ H' ⟨lt, lm, T, M, st, hTl, rfl⟩
  clear hSa
  have hMl := st.len
  have hth := st.th
  have hmok := GoodMs.ok hL2 st.gm
  have htok : ∀ y ∈ T, PyData.strOk y = true := fun y hy => isTh_ok (hth y hy)
  walk_at "go"
  refine St1.meth st (by decide +kernel) (by decide +kernel) (by decide +kernel) ?_
  walk_at "go"
  refine ⟨y, lt, lm, L, T, M.map txt, rfl, st.sh, st.b.clo, fun f1 hf1 => ?_⟩
  have st := st.add (c := mkV M) rfl hf1 (Ex.new (Ex.refl _) hf1) upd_same (clo_new st.b.clo hf1 rfl)
  have e2 := Ex.new (o := .lst ((M.map txt).map V.str)) (Ex.refl H') hf1
  generalize upd H' f1 (.lst ((M.map txt).map V.str)) = H2 at st e2 ⊢
  have st : St1 K H H2 L y lt lm [f1] [mkV M] 10 T M := st
  walk_at "go"
  refine St1.meth st (by decide +kernel) (by decide +kernel) (by decide +kernel) ?_
  walk_at "go"
  refine ⟨y, lt, lm, L, T, M.map txt, rfl, st.sh, st.b.clo, fun f2 hf2 => ?_⟩
  have st := st.add (c := strV T) rfl hf2 (Ex.new (Ex.refl _) hf2) upd_same (clo_new st.b.clo hf2 rfl)
  have e3 := Ex.new (o := .lst (T.map V.str)) e2 (e2.back hf2)
  generalize upd H2 f2 (.lst (T.map V.str)) = H3 at st e3 ⊢
  have st : St1 K H H3 L y lt lm [f1, f2] [mkV M, strV T] 10 T M := st
  clear hf1 hf2
  walk_at "go"
  intro tt htt
  have e4 := Ex.new (o := .tup [.ref f1, .ref f2]) e3 (e3.back htt)
  have hC4 := clo_new (o := .tup [.ref f1, .ref f2]) st.b.clo htt rfl
  have st := st.ext (Ex.new (o := .tup [.ref f1, .ref f2]) (Ex.refl H3) htt) hC4
  have ht4 : (upd H3 tt (.tup [.ref f1, .ref f2])) tt = some (.tup [.ref f1, .ref f2]) := upd_same
  refine ⟨_, Kp.ex e4 hC4, ?_⟩
  generalize upd H3 tt (.tup [.ref f1, .ref f2]) = H4 at st ht4 e4 hC4 ⊢
  clear htt
  have hSa := sqL_ex hS st.b.ex
  walk_at "go"
  refine ⟨a, ns, 10, 0, mm, rfl, hSa, hl, by omega, by omega, by omega, by omega, by omega, hC4, fun x1 hx1 => ?_⟩
  walk_at "go"
  refine ⟨_, _, _, _, rfl, hSa, hl, (by omega), (by omega), (by omega), (by omega), ?_⟩
  intro d5 d50 d51
  obtain ⟨n5, rfl⟩ := Int.eq_ofNat_of_zero_le d50
  walk_at "go"
  intro pp hpp
  have st := st.add (c := [.int x1, .int (n5 : Nat)]) rfl hpp (Ex.new (Ex.refl _) hpp) upd_same (clo_new st.b.clo hpp rfl)
  have ht5 : (upd H4 pp (.lst [.int x1, .int (n5 : Nat)])) tt = some (.tup [.ref f1, .ref f2]) := by rw [upd_ne (ne_of_none ht4 hpp)]; exact ht4
  generalize upd H4 pp (.lst [.int x1, .int (n5 : Nat)]) = H5 at st ht5 ⊢
  have st : St1 K H H5 L y lt lm [f1, f2, pp] [mkV M, strV T, [.int x1, .int (n5 : Nat)]] 10 T M := st
  clear hSa e2 e3 e4 hC4 ht4 hpp
  have hl5 : n5 ≤ mm := by omega
  walk_at "go"
  refine for_fn walk_range1 (fun i σ' H' => ∃ x3 x6 x7 x8 x9 x10, St1 K H H' L y lt lm [f1, f2, pp] [mkV M, strV T, [.int x1, .int (n5 : Nat)]] 10 T M ∧ H' tt = some (.tup [.ref f1, .ref f2]) ∧ σ' = [some (.ref a), some (.ref y), some (.int mm), x3, some (.ref tt), some (.ref pp), x6, x7, x8, x9, x10, none])
    ⟨_, _, _, _, _, _, st, ht5, rfl⟩ (fun _ _ _ _ _ => trivial) ?_ ?_
  · rintro i σ' H6 hi ⟨x3, x6, x7, x8, x9, x10, st, ht6, rfl⟩
    have hi2 : i < 2 := hi
    have hSa := sqL_ex hS st.b.ex
    walk_at "go"
    refine ⟨a, ns, 20 + 10 * i, rfl, hSa, hl, by omega, by omega, st.b.clo, fun bad hb1 hb2 => ?_⟩
    walk_at "go"
    refine ⟨_, _, _, _, rfl, hSa, hl, (by omega), (by omega), (by omega), (by omega), ?_⟩
    intro d6 d60 d61
    walk_at "go"
    refine ⟨_, _, _, _, rfl, hSa, hl, (by omega), (by omega), (by omega), (by omega), ?_⟩
    intro d7 d70 d71
    walk_at "go"
    intro D hD
    refine lc_fn walk_range1 (fun _ => true) (fun i => .str (("b" : Str) ++ toString (i : Int))) (by omega) (fun _ => trivial) ?_ ?_
    · intro j acc hj ha N hN _
      have hj2 : j < 12 := by omega
      have hlg : (j : Int).natAbs.log2 < 1920 := by
        refine Nat.lt_of_le_of_lt (Nat.log2_le_self _) ?_
        omega
      have hthb := isTh_len (b_th j (by omega))
      rw [Str.length_append] at hthb
      walk_at "go"
      exact lc_end ha (by omega) (hN rfl)
    rw [filt_all, strsI (fun i => ("b" : Str) ++ toString (i : Int))]
    have hn7 : (d6 + 9 * d7).toNat < 12 := by omega
    generalize (d6 + 9 * d7).toNat = n7 at hn7 ⊢
    obtain ⟨som, hsom⟩ : ∃ som, som = (List.range n7).map (fun (i : Nat) => ("b" : Str) ++ toString (i : Int)) := ⟨_, rfl⟩
    have hsl : som.length = n7 := by rw [hsom, List.length_map, List.length_range]
    have hst : ∀ t ∈ som, t.length ≤ 1000 := fun t ht => by
      rw [hsom] at ht
      obtain ⟨i, hi, rfl⟩ := List.mem_map.mp ht
      have := isTh_len (b_th i (by have := List.mem_range.mp hi; omega))
      omega
    rw [← hsom]
    clear hsom
    have e1 := Ex.new (o := .lst (strV som)) (Ex.refl H6) hD
    have st := st.add (c := strV som) rfl hD e1 upd_same (clo_new st.b.clo hD rfl)
    have ht6 := e1 _ _ ht6
    generalize upd H6 D (.lst (strV som)) = H7 at st ht6 ⊢
    have st : St1 K H H7 L y lt lm [f1, f2, pp, D] [mkV M, strV T, [.int x1, .int (n5 : Nat)], strV som] 10 T M := st
    clear hSa e1 hD
    have hSa := sqL_ex hS st.b.ex
    have hDD := st.own 3 rfl rfl
    have eS : (som.map V.str).length = som.length := List.length_map _
    have hSD : SqL K H7 D (som.map V.str) := .inl (.inl hDD)
    walk_at "go"
    rw [eS]
    refine ⟨_, _, _, _, rfl, hSa, hl, (by omega), (by omega), (by omega), (by omega), ?_⟩
    intro d8 d80 d81
    obtain ⟨n8, rfl⟩ := Int.eq_ofNat_of_zero_le d80
    walk_at "go"
    walk_at "n"
    refine ⟨D, _, _, _, rfl, rfl, hDD, by rw [eS, sz]; omega, by omega, by omega, ?_⟩
    rw [Int.toNat_natCast, insL_map V.str som n8 bad]
    have hrl : (insL som n8 bad).length ≤ 20 := by rw [insL_len (by omega)]; omega
    have hrm : bad ∈ insL som n8 bad := by unfold insL; exact List.mem_append_left _ (List.mem_append_right _ (List.mem_singleton.mpr rfl))
    have hrt : ∀ t ∈ insL som n8 bad, t.length ≤ 1000 := fun t ht => by
      rcases insL_mem ht with h | h
      · exact hst t h
      · rw [h]; omega
    have st := st.set (y := strV (insL som n8 bad)) 3 rfl rfl
    have ht6 : (upd H7 D (.lst (strV (insL som n8 bad)))) tt = some (.tup [.ref f1, .ref f2]) := by rw [upd_ne (ne_of ht6 hDD (fun z => nomatch z))]; exact ht6
    generalize insL som n8 bad = row at st hrl hrm hrt ht6 ⊢
    generalize upd H7 D (.lst (strV row)) = H8 at st ht6 ⊢
    have st : St1 K H H8 L y lt lm [f1, f2, pp, D] [mkV M, strV T, [.int x1, .int (n5 : Nat)], strV row] 10 T M := st
    clear hSa hDD hSD
    have hSa := sqL_ex hS st.b.ex
    walk_at "go"
    intro p8 hp8
    walk_at "go"
    refine ⟨_, _, _, _, rfl, sqL_new hSa hp8, hl, (by omega), (by omega), (by omega), (by omega), ?_⟩
    intro d9 d90 d91
    refine ⟨_, _, rfl, rfl, ?_⟩
    refine ⟨p8, _, _, rfl, rfl, upd_same, by omega, by omega, by rw [sz]; simp only [List.length_cons, List.length_nil]; omega, fun p9 hp9 => ?_⟩
    have hp90 : H8 p9 = none := (Ex.new (Ex.refl H8) hp8).back hp9
    rw [show (List.replicate (301 - (mm : Int) + d9).toNat [V.str "d"]).flatten = strV (List.replicate (301 - (mm : Int) + d9).toNat ("d" : Str)) by
      rw [List.flatten_replicate_singleton]; exact (List.map_replicate ..).symm]
    refine ⟨_, Trim.last (Rst.refl _) (Ex.new (Ex.refl H8) hp8) hp90 st.b.clo rfl, ?_⟩
    have hll : (List.replicate (301 - (mm : Int) + d9).toNat ("d" : Str)).length = (301 - (mm : Int) + d9).toNat := List.length_replicate
    have hlt : ∀ t ∈ List.replicate (301 - (mm : Int) + d9).toNat ("d" : Str), t.length ≤ 1000 := fun t ht => by
      rw [(List.mem_replicate.mp ht).2]; decide +kernel
    generalize List.replicate (301 - (mm : Int) + d9).toNat ("d" : Str) = lg at hll hlt ⊢
    have st := st.add (c := strV lg) rfl hp90 (Ex.new (Ex.refl H8) hp90) upd_same (clo_new st.b.clo hp90 rfl)
    have ht6 : (upd H8 p9 (.lst (strV lg))) tt = some (.tup [.ref f1, .ref f2]) := by rw [upd_ne (ne_of_none ht6 hp90)]; exact ht6
    generalize upd H8 p9 (.lst (strV lg)) = H9 at st ht6 ⊢
    have st : St1 K H H9 L y lt lm [f1, f2, pp, D, p9] [mkV M, strV T, [.int x1, .int (n5 : Nat)], strV row, strV lg] 10 T M := st
    clear hSa hp8 hp9 hp90
    have hSa := sqL_ex hS st.b.ex
    have hCH := st.b.clo
    have hSp : SqL K H9 pp [.int x1, .int (n5 : Nat)] := .inl (.inl (st.own 2 rfl rfl))
    have hx1a := hx1.1
    have hx1b := hx1.2.1
    have hx1c := hx1.2.2
    have hx18 : (10 : Int) ^ 18 = 1000000000000000000 := by decide
    rw [hx18] at hx1b hx1c
    have nb : ∀ som : List Str, bad ∈ som → ¬ ThOk T.length som := fun som h z => by
      have := z.2.2 bad h
      rw [hb1] at this
      cases this
    have nl : ¬ ThOk T.length lg := fun z => by have := z.2.1; omega
    walk_at "go"
    refine ⟨⟨_, hSp⟩, ?_⟩
    refine for_list (fun v => ∃ pl : Int, v = .int pl ∧ -(2 ^ 61) ≤ pl ∧ pl < 2 ^ 61) (fun σ' => ∃ x8 x10, σ' = [some (.ref a), some (.ref y), some (.int mm), some (.int i), some (.ref tt), some (.ref pp), some (.str bad), some (.ref D), x8, some (.ref p9), x10, none]) hSp (all1 ⟨x1, rfl, by omega, by omega⟩ (all1 ⟨_, rfl, by omega, by omega⟩ all0)) ⟨_, _, rfl⟩ ?_ ?_
    · rintro _ σ' ⟨pl, rfl, hpl0, hpl1⟩ ⟨x8, x10, rfl⟩
      walk_at "go"
      intro q1 hq1
      walk_at "n"
      refine ⟨H, y, lt, lm, q1, _, _, L, 10, 0, pl, T, [bad], M, rfl, st.ext (Ex.new (o := .lst [.str bad]) (Ex.refl _) hq1) (clo_new hCH hq1 rfl), rfl, by omega, upd_same, by simp, fun t ht => by rw [List.mem_singleton.mp ht]; omega, hpl0, hpl1, by omega, .inl ⟨rfl, bad, rfl, .inl ⟨nb _ (List.mem_singleton.mpr rfl), ?_⟩⟩⟩
      refine ⟨rfl, ?_⟩
      refine ⟨_, rfl, ?_⟩
      refine ⟨_, Trim.back (Ex.new (Ex.refl _) hq1) hCH, ?_⟩
      refine iteF ?_
      walk_at "go"
      walk_at "n"
      refine ⟨H, y, lt, lm, D, _, _, L, 10, 1, pl, T, row, M, rfl, st, rfl, by omega, st.own 3 rfl rfl, by omega, hrt, hpl0, hpl1, by omega, .inr (.inl ⟨rfl, .inl ⟨nb _ hrm, ?_⟩⟩)⟩
      refine ⟨rfl, ?_⟩
      refine ⟨_, rfl, ?_⟩
      refine iteF ?_
      walk_at "go"
      intro q2 hq2
      walk_at "n"
      refine ⟨H, y, lt, lm, q2, _, _, L, 10, 1, pl, T, [], M, rfl, st.ext (Ex.new (o := .lst []) (Ex.refl _) hq2) (clo_new hCH hq2 rfl), rfl, by omega, upd_same, by simp, fun t ht => (nomatch ht), hpl0, hpl1, by omega, .inr (.inl ⟨rfl, .inl ⟨fun z => z.1 rfl, ?_⟩⟩)⟩
      refine ⟨rfl, ?_⟩
      refine ⟨_, rfl, ?_⟩
      refine ⟨_, Trim.back (Ex.new (Ex.refl _) hq2) hCH, ?_⟩
      refine iteF ?_
      walk_at "go"
      walk_at "n"
      refine ⟨H, y, lt, lm, p9, _, _, L, 10, 1, pl, T, lg, M, rfl, st, rfl, by omega, st.own 4 rfl rfl, by omega, hlt, hpl0, hpl1, by omega, .inr (.inl ⟨rfl, .inl ⟨nl, ?_⟩⟩)⟩
      refine ⟨rfl, ?_⟩
      refine ⟨_, rfl, ?_⟩
      refine iteF ?_
      exact ⟨rfl, _, _, rfl⟩
    rintro _ ⟨x8, x10, rfl⟩
    have he1 : isTh "e" = true := by decide +kernel
    have hel : ("e" : Str).length ≤ 1000 := by decide +kernel
    have hpx : atI [V.int x1, .int (n5 : Nat)] 0 = some (.int x1) := rfl
    refine meet_fix (fun σ' => σ' = [some (.ref a), some (.ref y), some (.int mm), some (.int i), some (.ref tt), some (.ref pp), some (.str bad), some (.ref D), x8, some (.ref p9), x10, none]) ?_ ?_
    · walk_at "go"
      refine iteD (fun c => ?_) fun c => ?_
      · walk_at "go"
        intro q1 hq1
        have hok1 : ThOk T.length ["e"] := ⟨by simp, by show T.length + 1 ≤ 300; omega, fun t ht => by rw [List.mem_singleton.mp ht]; exact he1⟩
        have fin : ∀ w : Int, w = 0 ∨ w = 1 → ∀ {Q : VK} {E : XK}, Q (.str "place") (upd H9 q1 (.lst [.str "e"])) → sp_law_done K [.ref y, .int w, .int x1, .ref q1] (upd H9 q1 (.lst [.str "e"])) Q E := fun w hw Q E q => by
          refine ⟨H, y, lt, lm, q1, _, _, L, 10, w, x1, T, ["e"], M, rfl, st.ext (Ex.new (o := .lst [.str "e"]) (Ex.refl _) hq1) (clo_new hCH hq1 rfl), rfl, by omega, upd_same, by simp, fun t ht => by rw [List.mem_singleton.mp ht]; exact hel, by omega, by omega, by omega, ?_⟩
          rcases hw with rfl | rfl
          · exact .inl ⟨rfl, "e", rfl, .inr (.inl ⟨hok1, by omega, q⟩)⟩
          · exact .inr (.inl ⟨rfl, .inr (.inl ⟨hok1, by omega, q⟩)⟩)
        walk_at "n"
        refine fin i (by omega) ?_
        refine ⟨rfl, ?_⟩
        refine ⟨_, rfl, ?_⟩
        refine ⟨_, Trim.back (Ex.new (Ex.refl _) hq1) hCH, ?_⟩
        refine iteF ?_
        exact ⟨rfl, rfl⟩
      · exact ⟨rfl, rfl⟩
    rintro _ rfl
    walk_at "go"
    refine ⟨a, ns, 50 + 2 * i, 0, (mm : Int) - 1, rfl, hSa, hl, by omega, by omega, by omega, by omega, by omega, hCH, fun x2 hx2 => ?_⟩
    have hx2a := hx2.1
    have hx2b := hx2.2.1
    have hx2c := hx2.2.2
    rw [hx18] at hx2b hx2c
    walk_at "go"
    intro q2 hq2
    walk_at "n"
    refine ⟨H, y, lt, lm, q2, _, _, L, 10, 2, x2, T, [], M, rfl, st.ext (Ex.new (o := .lst []) (Ex.refl _) hq2) (clo_new hCH hq2 rfl), rfl, by omega, upd_same, by simp, fun t ht => (nomatch ht), by omega, by omega, by omega, .inr (.inr ⟨rfl, .inl ⟨by omega, ?_⟩⟩)⟩
    refine ⟨rfl, ?_⟩
    refine ⟨_, rfl, ?_⟩
    refine ⟨_, Trim.back (Ex.new (Ex.refl _) hq2) hCH, ?_⟩
    refine iteF ?_
    have st : St1 K H H9 L y lt lm ([f1, f2, pp] ++ [D, p9]) ([mkV M, strV T, [.int x1, .int (n5 : Nat)]] ++ [strV row, strV lg]) 10 T M := st
    exact ⟨_, _, _, _, _, _, St1.pre rfl st, ht6, rfl⟩
  rintro σ' H6 ⟨x3, x6, x7, x8, x9, x10, st, ht6, rfl⟩
  walk_at "go"
  refine St1.meth st (by decide +kernel) (by decide +kernel) (by decide +kernel) ?_
  walk_at "go"
  refine ⟨y, lt, lm, L, T, M.map txt, rfl, st.sh, st.b.clo, fun g1 hg1 => ?_⟩
  have st2 := st.ext (Ex.new (o := .lst ((M.map txt).map V.str)) (Ex.refl H6) hg1) (clo_new st.b.clo hg1 rfl)
  have gg1 : (upd H6 g1 (.lst ((M.map txt).map V.str))) g1 = some (.lst ((M.map txt).map V.str)) := upd_same
  have e1 := Ex.new (o := .lst ((M.map txt).map V.str)) (Ex.refl H6) hg1
  generalize upd H6 g1 (.lst ((M.map txt).map V.str)) = H7 at st2 gg1 e1 ⊢
  walk_at "go"
  refine St1.meth st2 (by decide +kernel) (by decide +kernel) (by decide +kernel) ?_
  walk_at "go"
  refine ⟨y, lt, lm, L, T, M.map txt, rfl, st2.sh, st2.b.clo, fun g2 hg2 => ?_⟩
  have e2 := Ex.new (o := .lst (T.map V.str)) e1 (e1.back hg2)
  have gg2 : (upd H7 g2 (.lst (T.map V.str))) g2 = some (.lst (T.map V.str)) := upd_same
  have gg1 : (upd H7 g2 (.lst (T.map V.str))) g1 = some (.lst ((M.map txt).map V.str)) := by rw [upd_ne (ne_of_none gg1 hg2)]; exact gg1
  generalize upd H7 g2 (.lst (T.map V.str)) = H8 at e2 gg1 gg2 ⊢
  walk_at "go"
  intro t2 ht2
  have e3 := Ex.new (o := .tup [.ref g1, .ref g2]) e2 (e2.back ht2)
  have gg2 : (upd H8 t2 (.tup [.ref g1, .ref g2])) g2 = some (.lst (T.map V.str)) := by rw [upd_ne (ne_of_none gg2 ht2)]; exact gg2
  have gg1 : (upd H8 t2 (.tup [.ref g1, .ref g2])) g1 = some (.lst ((M.map txt).map V.str)) := by rw [upd_ne (ne_of_none gg1 ht2)]; exact gg1
  have gt2 : (upd H8 t2 (.tup [.ref g1, .ref g2])) t2 = some (.tup [.ref g1, .ref g2]) := upd_same
  generalize upd H8 t2 (.tup [.ref g1, .ref g2]) = G at e3 gg1 gg2 gt2 ⊢
  walk_at "go"
  walk_at "n"
  have hk1 := e3 _ _ (st.own 0 rfl rfl)
  have hk2 := e3 _ _ (st.own 1 rfl rfl)
  refine neD_data (d := .tuple [.list ((M.map txt).map PyData.str), .list (T.map PyData.str)]) (n := 2) (.tup (.inl (.inl gt2)) (.cons (.lst (.inl (.inl gg1)) (dpAll_strs _)) (.cons (.lst (.inl (.inl gg2)) (dpAll_strs _)) .nil))) (.tup (.inl (.inl (e3 _ _ ht6))) (.cons (.lst (.inl (.inl hk1)) (dpAll_strs _)) (.cons (.lst (.inl (.inl hk2)) (dpAll_strs _)) .nil))) (Sh.tup (n := 1) (all2 (sh_strs hmok) (sh_strs htok))) (by omega) (eqv_tup (all2 (by rw [eqv_strs, decide_eq_true rfl]) (by rw [eqv_strs, decide_eq_true rfl]))) ?_
  refine ⟨_, rfl, ?_⟩
  refine ⟨_, Trim.back e3 st.b.clo, ?_⟩
  refine iteF ?_
  clear gg1 gg2 gt2 hk1 hk2 e1 e2 e3 hg1 hg2 ht2 st2
  have hSa := sqL_ex hS st.b.ex
  have hCH := st.b.clo
  have hSp : SqL K H6 pp [.int x1, .int (n5 : Nat)] := .inl (.inl (st.own 2 rfl rfl))
  have hpx : atI [V.int x1, .int (n5 : Nat)] 1 = some (.int (n5 : Nat)) := rfl
  have hf1 : isTh "f" = true := by decide +kernel
  have hfl : ("f" : Str).length ≤ 1000 := by decide +kernel
  walk_at "go"
  refine iteEI (fun c => ?_) fun c => ?_
  · walk_at "go"
    intro q1 hq1
    have st1 := st.ext (Ex.new (o := .lst [.str "f"]) (Ex.refl _) hq1) (clo_new hCH hq1 rfl)
    have kp1 := Kp.ex (Ex.new (o := .lst [.str "f"]) (Ex.refl H6) hq1) (clo_new hCH hq1 rfl)
    have hqq : (upd H6 q1 (.lst [.str "f"])) q1 = some (.lst (([("f" : Str)] : List Str).map V.str)) := upd_same
    walk_at "n"
    refine ⟨H, y, lt, lm, q1, _, _, L, 10, 0, n5, T, ["f"], M, rfl, st1, rfl, by omega, hqq, by simp, fun t ht => by rw [List.mem_singleton.mp ht]; exact hfl, by omega, by omega, by omega, .inl ⟨rfl, "f", rfl, .inl ⟨fun z => by
      have h2 : T.length + 1 ≤ 300 := z.2.1
      omega, ?_⟩⟩⟩
    refine ⟨rfl, ?_⟩
    refine ⟨_, rfl, ?_⟩
    refine iteT ?_
    generalize upd H6 q1 (.lst [.str "f"]) = H7 at st1 kp1 hqq ⊢
    walk_at "go"
    intro q2 hq2
    have st2 := st1.ext (Ex.new (o := .lst []) (Ex.refl _) hq2) (clo_new st1.b.clo hq2 rfl)
    have kp2 := Kp.ex (Ex.new (o := .lst []) (Ex.refl H7) hq2) (clo_new st1.b.clo hq2 rfl)
    have hq2q : (upd H7 q2 (.lst [])) q2 = some (.lst (([] : List Str).map V.str)) := upd_same
    walk_at "n"
    refine ⟨H, y, lt, lm, q2, _, _, L, 10, 2, 299, T, [], M, rfl, st2, rfl, by omega, hq2q, by simp, fun t ht => (nomatch ht), by omega, by omega, by omega, .inr (.inr ⟨rfl, .inr ⟨299, rfl, by omega, fun H9 M2 st3 kp3 => ?_⟩⟩)⟩
    refine ⟨rfl, ?_⟩
    exact ⟨_, (kp1.trans kp2).trans kp3, q _⟩
  have hTle : T.length < 300 := by
    rcases Nat.lt_or_ge T.length 300 with z | z
    · exact z
    · exact absurd (by rw [show mm = 300 by omega]; rfl) c
  have hkT : SqT K H6 tt [.ref f1, .ref f2] := .inl (.inl ht6)
  have hk2 := st.own 1 rfl rfl
  have eT : (T.map V.str).length = T.length := List.length_map _
  have eT2 : (strV T).length = T.length := List.length_map _
  walk_at "go"
  refine ⟨_, _, _, _, rfl, rfl, hkT, rfl, ?_⟩
  walk_at "go"
  refine ⟨f2, _, rfl, .inl (.inl hk2), fun a1 h1 => ?_⟩
  rw [cut_take (by omega)]
  have gx1 := Ex.new (o := .lst ((T.map V.str).take n5)) (Ex.refl H6) h1
  have g1 : (upd H6 a1 (.lst ((T.map V.str).take n5))) a1 = some (.lst ((T.map V.str).take n5)) := upd_same
  generalize upd H6 a1 (.lst ((T.map V.str).take n5)) = G1 at gx1 g1 ⊢
  walk_at "go"
  intro a2 h2
  have gx2 := Ex.new (o := .lst [.str "f"]) gx1 (gx1.back h2)
  have g2 : (upd G1 a2 (.lst [.str "f"])) a2 = some (.lst [.str "f"]) := upd_same
  have g1 : (upd G1 a2 (.lst [.str "f"])) a1 = some (.lst ((T.map V.str).take n5)) := by rw [upd_ne (ne_of_none g1 h2)]; exact g1
  generalize upd G1 a2 (.lst [.str "f"]) = G2 at gx2 g2 g1 ⊢
  walk_at "go"
  refine ⟨a1, a2, _, _, rfl, rfl, g1, g2, by rw [List.length_take, sz]; simp only [List.length_cons, List.length_nil]; omega, fun a3 h3 => ?_⟩
  have gx3 := Ex.new (o := .lst ((T.map V.str).take n5 ++ [.str "f"])) gx2 (gx2.back h3)
  have g3 : (upd G2 a3 (.lst ((T.map V.str).take n5 ++ [.str "f"]))) a3 = some (.lst ((T.map V.str).take n5 ++ [.str "f"])) := upd_same
  generalize upd G2 a3 (.lst ((T.map V.str).take n5 ++ [.str "f"])) = G3 at gx3 g3 ⊢
  have hkT3 : SqT K G3 tt [.ref f1, .ref f2] := .inl (.inl (gx3 _ _ ht6))
  have hSp3 : SqL K G3 pp [.int x1, .int (n5 : Nat)] := sqL_ex hSp gx3
  walk_at "go"
  refine ⟨_, _, _, _, rfl, rfl, hkT3, rfl, ?_⟩
  walk_at "go"
  refine ⟨f2, _, rfl, .inl (.inl (gx3 _ _ hk2)), fun a4 h4 => ?_⟩
  rw [cut_drop (by omega)]
  have gx4 := Ex.new (o := .lst ((T.map V.str).drop n5)) gx3 (gx3.back h4)
  have g4 : (upd G3 a4 (.lst ((T.map V.str).drop n5))) a4 = some (.lst ((T.map V.str).drop n5)) := upd_same
  have g3 : (upd G3 a4 (.lst ((T.map V.str).drop n5))) a3 = some (.lst ((T.map V.str).take n5 ++ [.str "f"])) := by rw [upd_ne (ne_of_none g3 h4)]; exact g3
  generalize upd G3 a4 (.lst ((T.map V.str).drop n5)) = G4 at gx4 g4 g3 ⊢
  refine ⟨a3, a4, _, _, rfl, rfl, g3, g4, by rw [List.length_append, List.length_take, List.length_drop, sz]; simp only [List.length_cons, List.length_nil]; omega, fun dd hdd => ?_⟩
  have hdd0 := gx4.back hdd
  refine ⟨_, Trim.keep (Ex.new gx4 hdd0) hdd0 upd_same hCH (okO_plain rfl), ?_⟩
  rw [insL_map V.str T n5 "f"]
  clear gx1 gx2 gx3 gx4 g1 g2 g3 g4 hdd h1 h2 h3 h4 hkT3 hSp3 hkT hSp hk2
  have st5 := st.add (c := strV (insL T n5 "f")) rfl hdd0 (Ex.new (Ex.refl _) hdd0) upd_same (clo_new hCH hdd0 rfl)
  have st5 : St1 K H _ L y lt lm [f1, f2, pp, dd] [mkV M, strV T, [.int x1, .int (n5 : Nat)], strV (insL T n5 "f")] 10 T M := st5
  generalize upd H6 dd (.lst ((insL T n5 "f").map V.str)) = H7 at st5 ⊢
  have hSp : SqL K H7 pp [.int x1, .int (n5 : Nat)] := .inl (.inl (st5.own 2 rfl rfl))
  walk_at "go"
  intro q1 hq1
  have st6 := st5.ext (Ex.new (o := .lst [.str "f"]) (Ex.refl _) hq1) (clo_new st5.b.clo hq1 rfl)
  have kp6 := Kp.ex (Ex.new (o := .lst [.str "f"]) (Ex.refl H7) hq1) (clo_new st5.b.clo hq1 rfl)
  have hqq : (upd H7 q1 (.lst [.str "f"])) q1 = some (.lst (([("f" : Str)] : List Str).map V.str)) := upd_same
  walk_at "n"
  refine ⟨H, y, lt, lm, q1, _, _, L, 10, 0, n5, T, ["f"], M, rfl, st6, rfl, by omega, hqq, by simp, fun t ht => by rw [List.mem_singleton.mp ht]; exact hfl, by omega, by omega, by omega, .inl ⟨rfl, "f", rfl, .inr (.inr ⟨n5, rfl, by omega, hTle, hf1, fun H9 M2 st7 kp7 => ?_⟩)⟩⟩
  refine ⟨rfl, ?_⟩
  refine ⟨_, rfl, ?_⟩
  refine iteT ?_
  walk_at "go"
  refine St1.meth st7 (by decide +kernel) (by decide +kernel) (by decide +kernel) ?_
  walk_at "go"
  refine ⟨y, lt, lm, L, insL T n5 "f", M2.map txt, rfl, st7.sh, st7.b.clo, fun g1 hg1 => ?_⟩
  have hok7 : ∀ y ∈ insL T n5 "f", PyData.strOk y = true := fun y hy => isTh_ok (st7.th y hy)
  have hd7 := st7.own 3 rfl rfl
  walk_at "go"
  walk_at "n"
  refine eqD_same upd_same (by rw [upd_ne (ne_of_none hd7 hg1)]; exact hd7) hok7 ?_
  exact ⟨_, (kp6.trans kp7).trans (Kp.new st7.b.clo hg1 rfl), q _⟩
end Sm
namespace Sm
open PySem PySem.Spec PyProof.Rows L2
def top (i : Nat) : Stmt := PySem.Challenge.pw_shelfmark_k33_shelves_refused.main.body.getD i (.Pass ⟨0, 0, 0, 0⟩)
abbrev s_ask_letters : Stmt := top 13
theorem sc_ask_letters : FnScope ["letters", "hands"] ["letters", "hands"] (defScope s_ask_letters) := ⟨rfl, rfl, rfl, by decide +kernel, rfl, by decide +kernel, by decide +kernel⟩
abbrev s_whole_of : Stmt := top 14
theorem sc_whole_of : FnScope ["letters", "mark", "long", "whole", "k"] ["letters", "mark", "long"] (defScope s_whole_of) := ⟨rfl, rfl, rfl, by decide +kernel, rfl, by decide +kernel, by decide +kernel⟩
abbrev s_mark_of : Stmt := top 15
theorem sc_mark_of : FnScope ["letters", "number", "long", "signs", "k", "rest"] ["letters", "number", "long"] (defScope s_mark_of) := ⟨rfl, rfl, rfl, by decide +kernel, rfl, by decide +kernel, by decide +kernel⟩
abbrev s_ends_of : Stmt := top 17
theorem sc_ends_of : FnScope ["letters", "hands", "hand", "k"] ["letters", "hands", "hand"] (defScope s_ends_of) := ⟨rfl, rfl, rfl, by decide +kernel, rfl, by decide +kernel, by decide +kernel⟩
abbrev s_numbers_between : Stmt := top 18
theorem sc_numbers_between : FnScope ["letters", "low", "high", "long", "least", "most", "k"] ["letters", "low", "high", "long"] (defScope s_numbers_between) := ⟨rfl, rfl, rfl, by decide +kernel, rfl, by decide +kernel, by decide +kernel⟩
abbrev s_figures_of : Stmt := top 19
theorem sc_figures_of : FnScope ["letters", "hands", "hand", "sign"] ["letters", "hands", "hand"] (defScope s_figures_of) := ⟨rfl, rfl, rfl, by decide +kernel, rfl, by decide +kernel, by decide +kernel⟩
abbrev s_many_below : Stmt := top 20
theorem sc_many_below : FnScope ["letters", "figures", "number", "rounds", "rest", "one"] ["letters", "figures", "number"] (defScope s_many_below) := ⟨rfl, rfl, rfl, by decide +kernel, rfl, by decide +kernel, by decide +kernel⟩
abbrev s_room_at : Stmt := top 21
theorem sc_room_at : FnScope ["letters", "hands", "hand", "low", "high", "long", "least", "most", "figures"] ["letters", "hands", "hand", "low", "high", "long"] (defScope s_room_at) := ⟨rfl, rfl, rfl, by decide +kernel, rfl, by decide +kernel, by decide +kernel⟩
abbrev s_nth_mark : Stmt := top 22
theorem sc_nth_mark : FnScope ["letters", "hands", "hand", "low", "high", "long", "number", "least", "figures", "rounds", "rest"] ["letters", "hands", "hand", "low", "high", "long", "number"] (defScope s_nth_mark) := ⟨rfl, rfl, rfl, by decide +kernel, rfl, by decide +kernel, by decide +kernel⟩
abbrev s_least_long : Stmt := top 24
theorem sc_least_long : FnScope ["letters", "hands", "hand", "low", "high", "many", "long"] ["letters", "hands", "hand", "low", "high", "many"] (defScope s_least_long) := ⟨rfl, rfl, rfl, by decide +kernel, rfl, by decide +kernel, by decide +kernel⟩
abbrev s_mark_between : Stmt := top 25
theorem sc_mark_between : FnScope ["letters", "hands", "hand", "low", "high", "long", "many", "number"] ["letters", "hands", "hand", "low", "high"] (defScope s_mark_between) := ⟨rfl, rfl, rfl, by decide +kernel, rfl, by decide +kernel, by decide +kernel⟩
abbrev s_run_between : Stmt := top 27
theorem sc_run_between : FnScope ["letters", "hands", "hand", "low", "high", "many", "long", "room", "marks", "k", "number"] ["letters", "hands", "hand", "low", "high", "many"] (defScope s_run_between) := ⟨rfl, rfl, rfl, by decide +kernel, rfl, by decide +kernel, by decide +kernel⟩
abbrev s_is_thing : Stmt := top 32
theorem sc_is_thing : FnScope ["text", "sign"] ["text"] (defScope s_is_thing) := ⟨rfl, rfl, rfl, by decide +kernel, rfl, by decide +kernel, by decide +kernel⟩
abbrev s_Shelf___init__ : Stmt := inClass (top 33) 0
theorem sc_Shelf___init__ : FnScope ["self", "letters"] ["self", "letters"] (defScope s_Shelf___init__) := ⟨rfl, rfl, rfl, by decide +kernel, rfl, by decide +kernel, by decide +kernel⟩
abbrev s_Shelf_ask_put : Stmt := inClass (top 33) 1
theorem sc_Shelf_ask_put : FnScope ["self", "place", "some", "thing"] ["self", "place", "some"] (defScope s_Shelf_ask_put) := ⟨rfl, rfl, rfl, by decide +kernel, rfl, by decide +kernel, by decide +kernel⟩
abbrev s_Shelf_marks_round : Stmt := inClass (top 33) 2
theorem sc_Shelf_marks_round : FnScope ["self", "place", "low", "high"] ["self", "place"] (defScope s_Shelf_marks_round) := ⟨rfl, rfl, rfl, by decide +kernel, rfl, by decide +kernel, by decide +kernel⟩
abbrev s_Shelf_put : Stmt := inClass (top 33) 3
theorem sc_Shelf_put : FnScope ["self", "place", "thing", "low", "high", "mark"] ["self", "place", "thing"] (defScope s_Shelf_put) := ⟨rfl, rfl, rfl, by decide +kernel, rfl, by decide +kernel, by decide +kernel⟩
abbrev s_Shelf_put_row : Stmt := inClass (top 33) 4
theorem sc_Shelf_put_row : FnScope ["self", "place", "some", "low", "high", "fresh"] ["self", "place", "some"] (defScope s_Shelf_put_row) := ⟨rfl, rfl, rfl, by decide +kernel, rfl, by decide +kernel, by decide +kernel⟩
abbrev s_Shelf_take : Stmt := inClass (top 33) 5
theorem sc_Shelf_take : FnScope ["self", "place"] ["self", "place"] (defScope s_Shelf_take) := ⟨rfl, rfl, rfl, by decide +kernel, rfl, by decide +kernel, by decide +kernel⟩
abbrev s_Shelf_marks : Stmt := inClass (top 33) 7
theorem sc_Shelf_marks : FnScope ["self"] ["self"] (defScope s_Shelf_marks) := ⟨rfl, rfl, rfl, by decide +kernel, rfl, by decide +kernel, by decide +kernel⟩
abbrev s_Shelf_things : Stmt := inClass (top 33) 8
theorem sc_Shelf_things : FnScope ["self"] ["self"] (defScope s_Shelf_things) := ⟨rfl, rfl, rfl, by decide +kernel, rfl, by decide +kernel, by decide +kernel⟩
abbrev s_law_draw : Stmt := top 35
theorem sc_law_draw : FnScope ["script", "k", "many", "cell", "j", "seed"] ["script", "k", "many"] (defScope s_law_draw) := ⟨rfl, rfl, rfl, by decide +kernel, rfl, by decide +kernel, by decide +kernel⟩
abbrev s_law_of : Stmt := top 36
theorem sc_law_of : FnScope ["e", "some", "others"] ["e"] (defScope s_law_of) := ⟨rfl, rfl, rfl, by decide +kernel, rfl, by decide +kernel, by decide +kernel⟩
abbrev s_law_made : Stmt := top 37
theorem sc_law_made : FnScope ["letters", "told", "e"] ["letters"] (defScope s_law_made) := ⟨rfl, rfl, rfl, by decide +kernel, rfl, by decide +kernel, by decide +kernel⟩
abbrev s_law_done : Stmt := top 38
theorem sc_law_done : FnScope ["shelf", "way", "place", "some", "told", "e"] ["shelf", "way", "place", "some"] (defScope s_law_done) := ⟨rfl, rfl, rfl, by decide +kernel, rfl, by decide +kernel, by decide +kernel⟩
abbrev s_law_bad_thing : Stmt := top 39
theorem sc_law_bad_thing : FnScope ["script", "k", "good", "at", "sign", "bent"] ["script", "k"] (defScope s_law_bad_thing) := ⟨rfl, rfl, rfl, by decide +kernel, rfl, by decide +kernel, by decide +kernel⟩
abbrev s_law_far : Stmt := top 40
theorem sc_law_far : FnScope ["script", "k", "least", "most", "cell", "far"] ["script", "k", "least", "most"] (defScope s_law_far) := ⟨rfl, rfl, rfl, by decide +kernel, rfl, by decide +kernel, by decide +kernel⟩
abbrev s_law : Stmt := top 41
theorem sc_law : FnScope ["script", "shelf", "many", "k", "kept", "places", "bad", "row", "j", "long", "place", "due"] ["script"] (defScope s_law) := ⟨rfl, rfl, rfl, by decide +kernel, rfl, by decide +kernel, by decide +kernel⟩
structure Tx (K : PySem.W.Frag) (mg : Str → Option Value) : Prop where
  n_ValueError : mg "ValueError" = none
  n_divmod : mg "divmod" = none
  n_int : mg "int" = none
  n_isinstance : mg "isinstance" = none
  n_len : mg "len" = none
  n_list : mg "list" = none
  n_range : mg "range" = none
  n_str : mg "str" = none
  g_LETTERS : ∃ t, mg "LETTERS" = some (.str "abcdefghijklmnopqrstuvwxyz" t)
  g_LONGEST_THING : ∃ t, mg "LONGEST_THING" = some (.int 12 t)
  g_MOST_THINGS : ∃ t, mg "MOST_THINGS" = some (.int 300 t)
  g_SIGNS : ∃ t, mg "SIGNS" = some (.str "abcdefghijklmnopqrstuvwxyz0123456789" t)
  x_NoLetters : PySem.W.excIn K (He.ga K "NoLetters") He.veBase "ValueError.__new__" = true
  k_NoLetters : PySem.W.keepIn K (.ref (He.ga K "NoLetters")) = true
  b_NoLetters : PySem.W.subIn K (.ref (He.ga K "NoLetters")) (.type "BaseException") = some true
  t_NoLetters : PySem.W.typeIn K (.ref (He.ga K "NoLetters")) = some (.type "type")
  x_NoPlace : PySem.W.excIn K (He.ga K "NoPlace") He.veBase "ValueError.__new__" = true
  k_NoPlace : PySem.W.keepIn K (.ref (He.ga K "NoPlace")) = true
  b_NoPlace : PySem.W.subIn K (.ref (He.ga K "NoPlace")) (.type "BaseException") = some true
  t_NoPlace : PySem.W.typeIn K (.ref (He.ga K "NoPlace")) = some (.type "type")
  x_NoRoom : PySem.W.excIn K (He.ga K "NoRoom") He.veBase "ValueError.__new__" = true
  k_NoRoom : PySem.W.keepIn K (.ref (He.ga K "NoRoom")) = true
  b_NoRoom : PySem.W.subIn K (.ref (He.ga K "NoRoom")) (.type "BaseException") = some true
  t_NoRoom : PySem.W.typeIn K (.ref (He.ga K "NoRoom")) = some (.type "type")
  x_NoThing : PySem.W.excIn K (He.ga K "NoThing") He.veBase "ValueError.__new__" = true
  k_NoThing : PySem.W.keepIn K (.ref (He.ga K "NoThing")) = true
  b_NoThing : PySem.W.subIn K (.ref (He.ga K "NoThing")) (.type "BaseException") = some true
  t_NoThing : PySem.W.typeIn K (.ref (He.ga K "NoThing")) = some (.type "type")
  g_NoHand : mg "NoHand" = some (.ref (He.ga K "NoHand"))
  g_NoLetters : mg "NoLetters" = some (.ref (He.ga K "NoLetters"))
  g_NoLine : mg "NoLine" = some (.ref (He.ga K "NoLine"))
  g_NoPlace : mg "NoPlace" = some (.ref (He.ga K "NoPlace"))
  g_NoRoom : mg "NoRoom" = some (.ref (He.ga K "NoRoom"))
  g_NoShelf : mg "NoShelf" = some (.ref (He.ga K "NoShelf"))
  g_NoState : mg "NoState" = some (.ref (He.ga K "NoState"))
  g_NoThing : mg "NoThing" = some (.ref (He.ga K "NoThing"))
  g_Shelf : mg "Shelf" = some (.ref (He.ga K "Shelf"))
  g_ShelfError : mg "ShelfError" = some (.ref (He.ga K "ShelfError"))
  kx : Kx K
section
variable {P : Program} {w : World} {K : PySem.W.Frag} {mg : Str → Option Value} {base : Heap}
theorem ok_ask_letters {f : Addr} {fd : FuncData} (F : FunD K "ask_letters" "ask_letters" (defArgs s_ask_letters) (defBody s_ask_letters) (defScope s_ask_letters) [] [] f fd) (T : Tx K mg) : FnOk P w K mg base (L2.CX P w) 1 f fd ["letters", "hands"] (sp_ask_letters K) := by
  refine F.ok sc_ask_letters len_ask_letters (fun cdv A outer s H vs Q E hr h => ⟨t_ask_letters K E, ?_, pure_ask_letters T.kx vs H Q E h⟩)
  have nd := sc_ask_letters.nd
  have hu := hu_of hr
  have htk : Takes (cxOf (L2.CX P w) P w K mg base ["letters", "hands"] "ask_letters" (defScope s_ask_letters) f cdv A outer s H E) (fun c d _ H => E c d H) := takes_of rfl rfl rfl rfl
  have hpx : Passes (L2.CX P w) (cxOf (L2.CX P w) P w K mg base ["letters", "hands"] "ask_letters" (defScope s_ask_letters) f cdv A outer s H E) E := passes_call htk fun _ _ _ _ z => z
  have hps : PassesOwn (model P w) (A.deeper (envOfC "ask_letters" (defScope s_ask_letters) s.heap.objs.size f cdv)) (envOfC "ask_letters" (defScope s_ask_letters) s.heap.objs.size f cdv) (cxOf (L2.CX P w) P w K mg base ["letters", "hands"] "ask_letters" (defScope s_ask_letters) f cdv A outer s H E).xe := passes_of (X := cxOf (L2.CX P w) P w K mg base ["letters", "hands"] "ask_letters" (defScope s_ask_letters) f cdv A outer s H E) rfl
  exact (pss_one (ps_if (PW.pt (pw_or (pt_cmpR op_lt (pv 0) pe_int (nomark _)) (pw_or (pt_cmpR op_gt (pv 0) (pe_callB call_len_str (by rfl) T.n_len (by decide +kernel) (pa_cons (pe_glob (by rfl) T.g_LETTERS.choose_spec ⟨_, rfl⟩) pa_nil)) (nomark _)) (pw_or (pt_cmpR op_lt (pv 1) pe_int (nomark _)) (pw_or1 (pt_cmpR op_ge (pv 1) (pv 0) (nomark _)))))))
    (pss_one (ps_raise rfl htk (pmk_own PySem.F.excBase_ValueError T.x_NoLetters T.g_NoLetters T.k_NoLetters (raises_own T.b_NoLetters T.t_NoLetters) rfl)))
    pss_nil))
theorem ok_whole_of {f : Addr} {fd : FuncData} (F : FunD K "whole_of" "whole_of" (defArgs s_whole_of) (defBody s_whole_of) (defScope s_whole_of) [] [] f fd) (T : Tx K mg) : FnOk P w K mg base (L2.CX P w) 1 f fd ["letters", "mark", "long"] (sp_whole_of K) := by
  refine F.ok sc_whole_of len_whole_of (fun cdv A outer s H vs Q E hr h => ⟨t_whole_of K E, ?_, pure_whole_of T.kx vs H Q E h⟩)
  have nd := sc_whole_of.nd
  have hu := hu_of hr
  have htk : Takes (cxOf (L2.CX P w) P w K mg base ["letters", "mark", "long", "whole", "k"] "whole_of" (defScope s_whole_of) f cdv A outer s H E) (fun c d _ H => E c d H) := takes_of rfl rfl rfl rfl
  have hpx : Passes (L2.CX P w) (cxOf (L2.CX P w) P w K mg base ["letters", "mark", "long", "whole", "k"] "whole_of" (defScope s_whole_of) f cdv A outer s H E) E := passes_call htk fun _ _ _ _ z => z
  have hps : PassesOwn (model P w) (A.deeper (envOfC "whole_of" (defScope s_whole_of) s.heap.objs.size f cdv)) (envOfC "whole_of" (defScope s_whole_of) s.heap.objs.size f cdv) (cxOf (L2.CX P w) P w K mg base ["letters", "mark", "long", "whole", "k"] "whole_of" (defScope s_whole_of) f cdv A outer s H E).xe := passes_of (X := cxOf (L2.CX P w) P w K mg base ["letters", "mark", "long", "whole", "k"] "whole_of" (defScope s_whole_of) f cdv A outer s H E) rfl
  exact (pss_cons (ps_set (i := 3) nd rfl (by first | exact Or.inl rfl | exact Or.inr rfl) pe_int)
    (pss_cons (ps_for hps rfl (pi_range1 (by rfl) T.n_range (pa_cons (pv 2) pa_nil)) (pg_name (i := 4) nd rfl (by first | exact Or.inl rfl | exact Or.inr rfl))
    (pss_cons (ps_set (i := 3) nd rfl (by first | exact Or.inl rfl | exact Or.inr rfl) (pe_op op_mulW (pv 3) (pv 0)))
    (pss_one (ps_if (pt_cmpR op_lt (pv 4) (pe_callB call_len_str (by rfl) T.n_len (by decide +kernel) (pa_cons (pv 1) pa_nil)) (nomark _))
    (pss_one (ps_set (i := 3) nd rfl (by first | exact Or.inl rfl | exact Or.inr rfl) (pe_op op_add (pv 3) (pe_bmS PySem.F.plainAttrs_str PySem.F.slot_str_index PySem.F.type_str_index (mt_indexS rfl) (pe_glob (by rfl) T.g_LETTERS.choose_spec ⟨_, rfl⟩) (pa_cons (pe_ix ix_str (pv 1) (pv 4) (fun _ _ => rfl)) pa_nil)))))
    pss_nil))))
    (pss_one (ps_ret (pv 3)))))
theorem ok_mark_of {f : Addr} {fd : FuncData} (F : FunD K "mark_of" "mark_of" (defArgs s_mark_of) (defBody s_mark_of) (defScope s_mark_of) [] [] f fd) (T : Tx K mg) : FnOk P w K mg base (L2.CX P w) 1 f fd ["letters", "number", "long"] (sp_mark_of K) := by
  refine F.ok sc_mark_of len_mark_of (fun cdv A outer s H vs Q E hr h => ⟨t_mark_of K E, ?_, pure_mark_of T.kx vs H Q E h⟩)
  have nd := sc_mark_of.nd
  have hu := hu_of hr
  have htk : Takes (cxOf (L2.CX P w) P w K mg base ["letters", "number", "long", "signs", "k", "rest"] "mark_of" (defScope s_mark_of) f cdv A outer s H E) (fun c d _ H => E c d H) := takes_of rfl rfl rfl rfl
  have hpx : Passes (L2.CX P w) (cxOf (L2.CX P w) P w K mg base ["letters", "number", "long", "signs", "k", "rest"] "mark_of" (defScope s_mark_of) f cdv A outer s H E) E := passes_call htk fun _ _ _ _ z => z
  have hps : PassesOwn (model P w) (A.deeper (envOfC "mark_of" (defScope s_mark_of) s.heap.objs.size f cdv)) (envOfC "mark_of" (defScope s_mark_of) s.heap.objs.size f cdv) (cxOf (L2.CX P w) P w K mg base ["letters", "number", "long", "signs", "k", "rest"] "mark_of" (defScope s_mark_of) f cdv A outer s H E).xe := passes_of (X := cxOf (L2.CX P w) P w K mg base ["letters", "number", "long", "signs", "k", "rest"] "mark_of" (defScope s_mark_of) f cdv A outer s H E) rfl
  exact (pss_trim (pss_cons (ps_set (i := 3) nd rfl (by first | exact Or.inl rfl | exact Or.inr rfl) (pe_lst pa_nil))
    (pss_cons (ps_for hps rfl (pi_range1 (by rfl) T.n_range (pa_cons (pv 2) pa_nil)) (pg_name (i := 4) nd rfl (by first | exact Or.inl rfl | exact Or.inr rfl))
    (pss_cons (ps_trim (ps_asg (pe_callB call_divmod (by rfl) T.n_divmod (by decide +kernel) (pa_cons (pv 1) (pa_cons (pv 0) pa_nil))) (pg_tup rfl (pgs_cons (pg_name (i := 1) nd rfl (by first | exact Or.inl rfl | exact Or.inr rfl)) (pgs_cons (pg_name (i := 5) nd rfl (by first | exact Or.inl rfl | exact Or.inr rfl)) pgs_nil)))))
    (pss_one (ps_expr (pe_bm PySem.F.plainAttrs_list PySem.F.slot_list_append PySem.F.type_list_append mt_append (pv 3) (pa_cons (pe_ix ix_str (pe_glob (by rfl) T.g_LETTERS.choose_spec ⟨_, rfl⟩) (pv 5) (fun _ _ => rfl)) pa_nil))))))
    (pss_cons (ps_expr (pe_bm0 PySem.F.plainAttrs_list PySem.F.slot_list_reverse PySem.F.type_list_reverse mt_reverse (pv 3)))
    (pss_one (ps_ret (pe_bm PySem.F.plainAttrs_str PySem.F.slot_str_rstrip PySem.F.type_str_rstrip mt_rstripChars (pe_bm PySem.F.plainAttrs_str PySem.F.slot_str_join PySem.F.type_str_join mt_join pe_str (pa_cons (pv 3) pa_nil)) (pa_cons pe_str pa_nil))))))))
theorem ok_ends_of {f : Addr} {fd : FuncData} (F : FunD K "ends_of" "ends_of" (defArgs s_ends_of) (defBody s_ends_of) (defScope s_ends_of) [] [] f fd) (T : Tx K mg) : FnOk P w K mg base (L2.CX P w) 1 f fd ["letters", "hands", "hand"] (sp_ends_of K) := by
  refine F.ok sc_ends_of len_ends_of (fun cdv A outer s H vs Q E hr h => ⟨t_ends_of K E, ?_, pure_ends_of T.kx vs H Q E h⟩)
  have nd := sc_ends_of.nd
  have hu := hu_of hr
  have htk : Takes (cxOf (L2.CX P w) P w K mg base ["letters", "hands", "hand", "k"] "ends_of" (defScope s_ends_of) f cdv A outer s H E) (fun c d _ H => E c d H) := takes_of rfl rfl rfl rfl
  have hpx : Passes (L2.CX P w) (cxOf (L2.CX P w) P w K mg base ["letters", "hands", "hand", "k"] "ends_of" (defScope s_ends_of) f cdv A outer s H E) E := passes_call htk fun _ _ _ _ z => z
  have hps : PassesOwn (model P w) (A.deeper (envOfC "ends_of" (defScope s_ends_of) s.heap.objs.size f cdv)) (envOfC "ends_of" (defScope s_ends_of) s.heap.objs.size f cdv) (cxOf (L2.CX P w) P w K mg base ["letters", "hands", "hand", "k"] "ends_of" (defScope s_ends_of) f cdv A outer s H E).xe := passes_of (X := cxOf (L2.CX P w) P w K mg base ["letters", "hands", "hand", "k"] "ends_of" (defScope s_ends_of) f cdv A outer s H E) rfl
  exact (pss_trim (pss_one (ps_ret (pe_trim (pe_bm PySem.F.plainAttrs_str PySem.F.slot_str_join PySem.F.type_str_join mt_join pe_str (pa_cons (pe_lc (own := [("k", 3)]) rfl nd (pi_range2 (by rfl) T.n_range (pa_cons pe_int (pa_cons (pv 0) pa_nil))) (blkOk_by (own := [("k", 3)]) (N := ["letters", "hands", "hand", "k"]) (sc := defScope s_ends_of) (by decide +kernel)) (fun _ _ _ _ _ => (pg_name (i := 3) nd rfl (by first | exact Or.inl rfl | exact Or.inr rfl))) (fun _ _ _ _ _ => (pts_one (pt_cmpR op_eq (pe_op op_mod (pe_op op_sub (pv 3) pe_int) (pv 1)) (pv 2) (nomark _)))) (fun _ _ _ _ _ => (pe_ix ix_str (pe_glob (by rfl) T.g_LETTERS.choose_spec ⟨_, rfl⟩) (pv 3) (fun _ _ => rfl)))) pa_nil))))))
theorem ok_numbers_between {f : Addr} {fd : FuncData} (F : FunD K "numbers_between" "numbers_between" (defArgs s_numbers_between) (defBody s_numbers_between) (defScope s_numbers_between) [] [] f fd) (T : Tx K mg) (G_whole_of : FnG P w K mg base (L2.CX P w) "whole_of" ["letters", "mark", "long"] 1 (sp_whole_of K)) : FnOk P w K mg base (L2.CX P w) 2 f fd ["letters", "low", "high", "long"] (sp_numbers_between K) := by
  refine F.ok sc_numbers_between len_numbers_between (fun cdv A outer s H vs Q E hr h => ⟨t_numbers_between K E, ?_, pure_numbers_between T.kx vs H Q E h⟩)
  have nd := sc_numbers_between.nd
  have hu := hu_of hr
  have htk : Takes (cxOf (L2.CX P w) P w K mg base ["letters", "low", "high", "long", "least", "most", "k"] "numbers_between" (defScope s_numbers_between) f cdv A outer s H E) (fun c d _ H => E c d H) := takes_of rfl rfl rfl rfl
  have hpx : Passes (L2.CX P w) (cxOf (L2.CX P w) P w K mg base ["letters", "low", "high", "long", "least", "most", "k"] "numbers_between" (defScope s_numbers_between) f cdv A outer s H E) E := passes_call htk fun _ _ _ _ z => z
  have hps : PassesOwn (model P w) (A.deeper (envOfC "numbers_between" (defScope s_numbers_between) s.heap.objs.size f cdv)) (envOfC "numbers_between" (defScope s_numbers_between) s.heap.objs.size f cdv) (cxOf (L2.CX P w) P w K mg base ["letters", "low", "high", "long", "least", "most", "k"] "numbers_between" (defScope s_numbers_between) f cdv A outer s H E).xe := passes_of (X := cxOf (L2.CX P w) P w K mg base ["letters", "low", "high", "long", "least", "most", "k"] "numbers_between" (defScope s_numbers_between) f cdv A outer s H E) rfl
  exact (pss_trim (pss_meet (ps_if (PW.pt (pw_and (pt_cmpR op_notN (pv 1) pe_non (nomark _)) (pw_and (pt_cmpR op_notN (pv 2) pe_non (nomark _)) (pw_and1 (pt_not (pt_cmpR op_lt_str (pv 1) (pv 2) (nomark _)))))))
    (pss_one (ps_raise rfl htk (pmk_own PySem.F.excBase_ValueError T.x_NoRoom T.g_NoRoom T.k_NoRoom (raises_own T.b_NoRoom T.t_NoRoom) rfl)))
    pss_nil)
    (pss_cons (ps_set (i := 4) nd rfl (by first | exact Or.inl rfl | exact Or.inr rfl) pe_int)
    (pss_meet (ps_if (pt_cmpR op_notN (pv 1) pe_non (nomark _))
    (pss_one (ps_set (i := 4) nd rfl (by first | exact Or.inl rfl | exact Or.inr rfl) (pe_op op_add (pe_G G_whole_of hr (by decide) rfl hpx (pa_cons (pv 0) (pa_cons (pv 1) (pa_cons (pv 3) pa_nil)))) pe_int)))
    pss_nil)
    (pss_cons (ps_set (i := 5) nd rfl (by first | exact Or.inl rfl | exact Or.inr rfl) pe_int)
    (pss_cons (ps_for hps rfl (pi_range1 (by rfl) T.n_range (pa_cons (pv 3) pa_nil)) (pg_name (i := 6) nd rfl (by first | exact Or.inl rfl | exact Or.inr rfl))
    (pss_one (ps_set (i := 5) nd rfl (by first | exact Or.inl rfl | exact Or.inr rfl) (pe_op op_mulW (pv 5) (pv 0)))))
    (pss_cons (ps_set (i := 5) nd rfl (by first | exact Or.inl rfl | exact Or.inr rfl) (pe_op op_sub (pv 5) pe_int))
    (pss_meet (ps_if (pt_cmpR op_notN (pv 2) pe_non (nomark _))
    (pss_cons (ps_set (i := 5) nd rfl (by first | exact Or.inl rfl | exact Or.inr rfl) (pe_G G_whole_of hr (by decide) rfl hpx (pa_cons (pv 0) (pa_cons (pv 2) (pa_cons (pv 3) pa_nil)))))
    (pss_one (ps_if (pt_cmpR op_le (pe_callB call_len_str (by rfl) T.n_len (by decide +kernel) (pa_cons (pv 2) pa_nil)) (pv 3) (nomark _))
    (pss_one (ps_set (i := 5) nd rfl (by first | exact Or.inl rfl | exact Or.inr rfl) (pe_op op_sub (pv 5) pe_int)))
    pss_nil)))
    pss_nil)
    (pss_one (ps_ret (pe_tup (pa_cons (pv 4) (pa_cons (pv 5) pa_nil)))))))))))))
theorem ok_figures_of {f : Addr} {fd : FuncData} (F : FunD K "figures_of" "figures_of" (defArgs s_figures_of) (defBody s_figures_of) (defScope s_figures_of) [] [] f fd) (T : Tx K mg) (G_ends_of : FnG P w K mg base (L2.CX P w) "ends_of" ["letters", "hands", "hand"] 1 (sp_ends_of K)) : FnOk P w K mg base (L2.CX P w) 2 f fd ["letters", "hands", "hand"] (sp_figures_of K) := by
  refine F.ok sc_figures_of len_figures_of (fun cdv A outer s H vs Q E hr h => ⟨t_figures_of K E, ?_, pure_figures_of T.kx vs H Q E h⟩)
  have nd := sc_figures_of.nd
  have hu := hu_of hr
  have htk : Takes (cxOf (L2.CX P w) P w K mg base ["letters", "hands", "hand", "sign"] "figures_of" (defScope s_figures_of) f cdv A outer s H E) (fun c d _ H => E c d H) := takes_of rfl rfl rfl rfl
  have hpx : Passes (L2.CX P w) (cxOf (L2.CX P w) P w K mg base ["letters", "hands", "hand", "sign"] "figures_of" (defScope s_figures_of) f cdv A outer s H E) E := passes_call htk fun _ _ _ _ z => z
  have hps : PassesOwn (model P w) (A.deeper (envOfC "figures_of" (defScope s_figures_of) s.heap.objs.size f cdv)) (envOfC "figures_of" (defScope s_figures_of) s.heap.objs.size f cdv) (cxOf (L2.CX P w) P w K mg base ["letters", "hands", "hand", "sign"] "figures_of" (defScope s_figures_of) f cdv A outer s H E).xe := passes_of (X := cxOf (L2.CX P w) P w K mg base ["letters", "hands", "hand", "sign"] "figures_of" (defScope s_figures_of) f cdv A outer s H E) rfl
  exact (pss_trim (pss_one (ps_ret (pe_lc (own := [("sign", 3)]) rfl nd (pi_str (pe_G G_ends_of hr (by decide) rfl hpx (pa_cons (pv 0) (pa_cons (pv 1) (pa_cons (pv 2) pa_nil))))) (blkOk_by (own := [("sign", 3)]) (N := ["letters", "hands", "hand", "sign"]) (sc := defScope s_figures_of) (by decide +kernel)) (fun _ _ _ _ _ => (pg_name (i := 3) nd rfl (by first | exact Or.inl rfl | exact Or.inr rfl))) (fun _ _ _ _ _ => pts_nil) (fun _ _ _ _ _ => (pe_bmS PySem.F.plainAttrs_str PySem.F.slot_str_index PySem.F.type_str_index (mt_indexS rfl) (pe_glob (by rfl) T.g_LETTERS.choose_spec ⟨_, rfl⟩) (pa_cons (pv 3) pa_nil)))))))
theorem ok_many_below {f : Addr} {fd : FuncData} (F : FunD K "many_below" "many_below" (defArgs s_many_below) (defBody s_many_below) (defScope s_many_below) [] [] f fd) (T : Tx K mg) : FnOk P w K mg base (L2.CX P w) 1 f fd ["letters", "figures", "number"] (sp_many_below K) := by
  refine F.ok sc_many_below len_many_below (fun cdv A outer s H vs Q E hr h => ⟨t_many_below K E, ?_, pure_many_below T.kx vs H Q E h⟩)
  have nd := sc_many_below.nd
  have hu := hu_of hr
  have htk : Takes (cxOf (L2.CX P w) P w K mg base ["letters", "figures", "number", "rounds", "rest", "one"] "many_below" (defScope s_many_below) f cdv A outer s H E) (fun c d _ H => E c d H) := takes_of rfl rfl rfl rfl
  have hpx : Passes (L2.CX P w) (cxOf (L2.CX P w) P w K mg base ["letters", "figures", "number", "rounds", "rest", "one"] "many_below" (defScope s_many_below) f cdv A outer s H E) E := passes_call htk fun _ _ _ _ z => z
  have hps : PassesOwn (model P w) (A.deeper (envOfC "many_below" (defScope s_many_below) s.heap.objs.size f cdv)) (envOfC "many_below" (defScope s_many_below) s.heap.objs.size f cdv) (cxOf (L2.CX P w) P w K mg base ["letters", "figures", "number", "rounds", "rest", "one"] "many_below" (defScope s_many_below) f cdv A outer s H E).xe := passes_of (X := cxOf (L2.CX P w) P w K mg base ["letters", "figures", "number", "rounds", "rest", "one"] "many_below" (defScope s_many_below) f cdv A outer s H E) rfl
  exact (pss_trim (pss_cons (ps_trim (ps_asg (pe_callB call_divmod (by rfl) T.n_divmod (by decide +kernel) (pa_cons (pv 2) (pa_cons (pv 0) pa_nil))) (pg_tup rfl (pgs_cons (pg_name (i := 3) nd rfl (by first | exact Or.inl rfl | exact Or.inr rfl)) (pgs_cons (pg_name (i := 4) nd rfl (by first | exact Or.inl rfl | exact Or.inr rfl)) pgs_nil)))))
    (pss_one (ps_ret (pe_trim (pe_op op_add (pe_op op_mulW (pv 3) (pe_callB call_len_seq (by rfl) T.n_len (by decide +kernel) (pa_cons (pv 1) pa_nil))) (pe_callB call_len_seq (by rfl) T.n_len (by decide +kernel) (pa_cons (pe_lc (own := [("one", 5)]) rfl nd (pi_list (pv 1)) (blkOk_by (own := [("one", 5)]) (N := ["letters", "figures", "number", "rounds", "rest", "one"]) (sc := defScope s_many_below) (by decide +kernel)) (fun _ _ _ _ _ => (pg_name (i := 5) nd rfl (by first | exact Or.inl rfl | exact Or.inr rfl))) (fun _ _ _ _ _ => (pts_one (pt_cmpR op_lt (pv 5) (pv 4) (nomark _)))) (fun _ _ _ _ _ => (pv 5))) pa_nil))))))))
theorem ok_room_at {f : Addr} {fd : FuncData} (F : FunD K "room_at" "room_at" (defArgs s_room_at) (defBody s_room_at) (defScope s_room_at) [] [] f fd) (T : Tx K mg) (G_numbers_between : FnG P w K mg base (L2.CX P w) "numbers_between" ["letters", "low", "high", "long"] 2 (sp_numbers_between K)) (G_figures_of : FnG P w K mg base (L2.CX P w) "figures_of" ["letters", "hands", "hand"] 2 (sp_figures_of K)) (G_many_below : FnG P w K mg base (L2.CX P w) "many_below" ["letters", "figures", "number"] 1 (sp_many_below K)) : FnOk P w K mg base (L2.CX P w) 3 f fd ["letters", "hands", "hand", "low", "high", "long"] (sp_room_at K) := by
  refine F.ok sc_room_at len_room_at (fun cdv A outer s H vs Q E hr h => ⟨t_room_at K E, ?_, pure_room_at T.kx vs H Q E h⟩)
  have nd := sc_room_at.nd
  have hu := hu_of hr
  have htk : Takes (cxOf (L2.CX P w) P w K mg base ["letters", "hands", "hand", "low", "high", "long", "least", "most", "figures"] "room_at" (defScope s_room_at) f cdv A outer s H E) (fun c d _ H => E c d H) := takes_of rfl rfl rfl rfl
  have hpx : Passes (L2.CX P w) (cxOf (L2.CX P w) P w K mg base ["letters", "hands", "hand", "low", "high", "long", "least", "most", "figures"] "room_at" (defScope s_room_at) f cdv A outer s H E) E := passes_call htk fun _ _ _ _ z => z
  have hps : PassesOwn (model P w) (A.deeper (envOfC "room_at" (defScope s_room_at) s.heap.objs.size f cdv)) (envOfC "room_at" (defScope s_room_at) s.heap.objs.size f cdv) (cxOf (L2.CX P w) P w K mg base ["letters", "hands", "hand", "low", "high", "long", "least", "most", "figures"] "room_at" (defScope s_room_at) f cdv A outer s H E).xe := passes_of (X := cxOf (L2.CX P w) P w K mg base ["letters", "hands", "hand", "low", "high", "long", "least", "most", "figures"] "room_at" (defScope s_room_at) f cdv A outer s H E) rfl
  exact (pss_trim (pss_cons (ps_trim (ps_asg (pe_G G_numbers_between hr (by decide) rfl hpx (pa_cons (pv 0) (pa_cons (pv 3) (pa_cons (pv 4) (pa_cons (pv 5) pa_nil))))) (pg_tup rfl (pgs_cons (pg_name (i := 6) nd rfl (by first | exact Or.inl rfl | exact Or.inr rfl)) (pgs_cons (pg_name (i := 7) nd rfl (by first | exact Or.inl rfl | exact Or.inr rfl)) pgs_nil)))))
    (pss_cons (ps_if (pt_cmpR op_lt (pv 7) (pv 6) (nomark _))
    (pss_one (ps_ret pe_int))
    pss_nil)
    (pss_cons (ps_set (i := 8) nd rfl (by first | exact Or.inl rfl | exact Or.inr rfl) (pe_G G_figures_of hr (by decide) rfl hpx (pa_cons (pv 0) (pa_cons (pv 1) (pa_cons (pv 2) pa_nil)))))
    (pss_one (ps_ret (pe_op op_sub (pe_G G_many_below hr (by decide) rfl hpx (pa_cons (pv 0) (pa_cons (pv 8) (pa_cons (pe_op op_add (pv 7) pe_int) pa_nil)))) (pe_G G_many_below hr (by decide) rfl hpx (pa_cons (pv 0) (pa_cons (pv 8) (pa_cons (pv 6) pa_nil)))))))))))
theorem ok_nth_mark {f : Addr} {fd : FuncData} (F : FunD K "nth_mark" "nth_mark" (defArgs s_nth_mark) (defBody s_nth_mark) (defScope s_nth_mark) [] [] f fd) (T : Tx K mg) (G_numbers_between : FnG P w K mg base (L2.CX P w) "numbers_between" ["letters", "low", "high", "long"] 2 (sp_numbers_between K)) (G_figures_of : FnG P w K mg base (L2.CX P w) "figures_of" ["letters", "hands", "hand"] 2 (sp_figures_of K)) (G_many_below : FnG P w K mg base (L2.CX P w) "many_below" ["letters", "figures", "number"] 1 (sp_many_below K)) (G_mark_of : FnG P w K mg base (L2.CX P w) "mark_of" ["letters", "number", "long"] 1 (sp_mark_of K)) : FnOk P w K mg base (L2.CX P w) 3 f fd ["letters", "hands", "hand", "low", "high", "long", "number"] (sp_nth_mark K) := by
  refine F.ok sc_nth_mark len_nth_mark (fun cdv A outer s H vs Q E hr h => ⟨t_nth_mark K E, ?_, pure_nth_mark T.kx vs H Q E h⟩)
  have nd := sc_nth_mark.nd
  have hu := hu_of hr
  have htk : Takes (cxOf (L2.CX P w) P w K mg base ["letters", "hands", "hand", "low", "high", "long", "number", "least", "figures", "rounds", "rest"] "nth_mark" (defScope s_nth_mark) f cdv A outer s H E) (fun c d _ H => E c d H) := takes_of rfl rfl rfl rfl
  have hpx : Passes (L2.CX P w) (cxOf (L2.CX P w) P w K mg base ["letters", "hands", "hand", "low", "high", "long", "number", "least", "figures", "rounds", "rest"] "nth_mark" (defScope s_nth_mark) f cdv A outer s H E) E := passes_call htk fun _ _ _ _ z => z
  have hps : PassesOwn (model P w) (A.deeper (envOfC "nth_mark" (defScope s_nth_mark) s.heap.objs.size f cdv)) (envOfC "nth_mark" (defScope s_nth_mark) s.heap.objs.size f cdv) (cxOf (L2.CX P w) P w K mg base ["letters", "hands", "hand", "low", "high", "long", "number", "least", "figures", "rounds", "rest"] "nth_mark" (defScope s_nth_mark) f cdv A outer s H E).xe := passes_of (X := cxOf (L2.CX P w) P w K mg base ["letters", "hands", "hand", "low", "high", "long", "number", "least", "figures", "rounds", "rest"] "nth_mark" (defScope s_nth_mark) f cdv A outer s H E) rfl
  exact (pss_trim (pss_cons (ps_set (i := 7) nd rfl (by first | exact Or.inl rfl | exact Or.inr rfl) (pe_trim (pe_ix ix_tup (pe_G G_numbers_between hr (by decide) rfl hpx (pa_cons (pv 0) (pa_cons (pv 3) (pa_cons (pv 4) (pa_cons (pv 5) pa_nil))))) pe_int (fun _ _ => rfl))))
    (pss_cons (ps_set (i := 8) nd rfl (by first | exact Or.inl rfl | exact Or.inr rfl) (pe_G G_figures_of hr (by decide) rfl hpx (pa_cons (pv 0) (pa_cons (pv 1) (pa_cons (pv 2) pa_nil)))))
    (pss_cons (ps_trim (ps_asg (pe_callB call_divmod (by rfl) T.n_divmod (by decide +kernel) (pa_cons (pe_op op_add (pe_G G_many_below hr (by decide) rfl hpx (pa_cons (pv 0) (pa_cons (pv 8) (pa_cons (pv 7) pa_nil)))) (pv 6)) (pa_cons (pe_callB call_len_seq (by rfl) T.n_len (by decide +kernel) (pa_cons (pv 8) pa_nil)) pa_nil))) (pg_tup rfl (pgs_cons (pg_name (i := 9) nd rfl (by first | exact Or.inl rfl | exact Or.inr rfl)) (pgs_cons (pg_name (i := 10) nd rfl (by first | exact Or.inl rfl | exact Or.inr rfl)) pgs_nil)))))
    (pss_one (ps_ret (pe_G G_mark_of hr (by decide) rfl hpx (pa_cons (pv 0) (pa_cons (pe_op op_add (pe_op op_mulW (pv 9) (pv 0)) (pe_ix ix_list (pv 8) (pv 10) (fun _ _ => rfl))) (pa_cons (pv 5) pa_nil))))))))))
theorem ok_least_long {f : Addr} {fd : FuncData} (F : FunD K "least_long" "least_long" (defArgs s_least_long) (defBody s_least_long) (defScope s_least_long) [] [] f fd) (T : Tx K mg) (G_room_at : FnG P w K mg base (L2.CX P w) "room_at" ["letters", "hands", "hand", "low", "high", "long"] 3 (sp_room_at K)) : FnOk P w K mg base (L2.CX P w) 4 f fd ["letters", "hands", "hand", "low", "high", "many"] (sp_least_long K) := by
  refine F.ok sc_least_long len_least_long (fun cdv A outer s H vs Q E hr h => ⟨t_least_long K E, ?_, pure_least_long T.kx vs H Q E h⟩)
  have nd := sc_least_long.nd
  have hu := hu_of hr
  have htk : Takes (cxOf (L2.CX P w) P w K mg base ["letters", "hands", "hand", "low", "high", "many", "long"] "least_long" (defScope s_least_long) f cdv A outer s H E) (fun c d _ H => E c d H) := takes_of rfl rfl rfl rfl
  have hpx : Passes (L2.CX P w) (cxOf (L2.CX P w) P w K mg base ["letters", "hands", "hand", "low", "high", "many", "long"] "least_long" (defScope s_least_long) f cdv A outer s H E) E := passes_call htk fun _ _ _ _ z => z
  have hps : PassesOwn (model P w) (A.deeper (envOfC "least_long" (defScope s_least_long) s.heap.objs.size f cdv)) (envOfC "least_long" (defScope s_least_long) s.heap.objs.size f cdv) (cxOf (L2.CX P w) P w K mg base ["letters", "hands", "hand", "low", "high", "many", "long"] "least_long" (defScope s_least_long) f cdv A outer s H E).xe := passes_of (X := cxOf (L2.CX P w) P w K mg base ["letters", "hands", "hand", "low", "high", "many", "long"] "least_long" (defScope s_least_long) f cdv A outer s H E) rfl
  exact (pss_cons (ps_set (i := 6) nd rfl (by first | exact Or.inl rfl | exact Or.inr rfl) pe_int)
    (pss_cons (ps_while hps (pt_cmpR op_lt (pe_G G_room_at hr (by decide) rfl hpx (pa_cons (pv 0) (pa_cons (pv 1) (pa_cons (pv 2) (pa_cons (pv 3) (pa_cons (pv 4) (pa_cons (pv 6) pa_nil))))))) (pv 5) (nomark _)) (pss_one (ps_set (i := 6) nd rfl (by first | exact Or.inl rfl | exact Or.inr rfl) (pe_op op_add (pv 6) pe_int))))
    (pss_one (ps_ret (pv 6)))))
theorem ok_mark_between {f : Addr} {fd : FuncData} (F : FunD K "mark_between" "mark_between" (defArgs s_mark_between) (defBody s_mark_between) (defScope s_mark_between) [] [] f fd) (T : Tx K mg) (G_least_long : FnG P w K mg base (L2.CX P w) "least_long" ["letters", "hands", "hand", "low", "high", "many"] 4 (sp_least_long K)) (G_room_at : FnG P w K mg base (L2.CX P w) "room_at" ["letters", "hands", "hand", "low", "high", "long"] 3 (sp_room_at K)) (G_nth_mark : FnG P w K mg base (L2.CX P w) "nth_mark" ["letters", "hands", "hand", "low", "high", "long", "number"] 3 (sp_nth_mark K)) : FnOk P w K mg base (L2.CX P w) 5 f fd ["letters", "hands", "hand", "low", "high"] (sp_mark_between K) := by
  refine F.ok sc_mark_between len_mark_between (fun cdv A outer s H vs Q E hr h => ⟨t_mark_between K E, ?_, pure_mark_between T.kx vs H Q E h⟩)
  have nd := sc_mark_between.nd
  have hu := hu_of hr
  have htk : Takes (cxOf (L2.CX P w) P w K mg base ["letters", "hands", "hand", "low", "high", "long", "many", "number"] "mark_between" (defScope s_mark_between) f cdv A outer s H E) (fun c d _ H => E c d H) := takes_of rfl rfl rfl rfl
  have hpx : Passes (L2.CX P w) (cxOf (L2.CX P w) P w K mg base ["letters", "hands", "hand", "low", "high", "long", "many", "number"] "mark_between" (defScope s_mark_between) f cdv A outer s H E) E := passes_call htk fun _ _ _ _ z => z
  have hps : PassesOwn (model P w) (A.deeper (envOfC "mark_between" (defScope s_mark_between) s.heap.objs.size f cdv)) (envOfC "mark_between" (defScope s_mark_between) s.heap.objs.size f cdv) (cxOf (L2.CX P w) P w K mg base ["letters", "hands", "hand", "low", "high", "long", "many", "number"] "mark_between" (defScope s_mark_between) f cdv A outer s H E).xe := passes_of (X := cxOf (L2.CX P w) P w K mg base ["letters", "hands", "hand", "low", "high", "long", "many", "number"] "mark_between" (defScope s_mark_between) f cdv A outer s H E) rfl
  exact (pss_cons (ps_set (i := 5) nd rfl (by first | exact Or.inl rfl | exact Or.inr rfl) (pe_G G_least_long hr (by decide) rfl hpx (pa_cons (pv 0) (pa_cons (pv 1) (pa_cons (pv 2) (pa_cons (pv 3) (pa_cons (pv 4) (pa_cons pe_int pa_nil))))))))
    (pss_cons (ps_set (i := 6) nd rfl (by first | exact Or.inl rfl | exact Or.inr rfl) (pe_G G_room_at hr (by decide) rfl hpx (pa_cons (pv 0) (pa_cons (pv 1) (pa_cons (pv 2) (pa_cons (pv 3) (pa_cons (pv 4) (pa_cons (pv 5) pa_nil))))))))
    (pss_cons (ps_set (i := 7) nd rfl (by first | exact Or.inl rfl | exact Or.inr rfl) (pe_op op_fdivW (pe_op op_sub (pv 6) pe_int) pe_int))
    (pss_meet (ps_if (PW.pt (pw_and (pt_cmpR op_isN (pv 4) pe_non (nomark _)) (pw_and1 (pt_cmpR op_notN (pv 3) pe_non (nomark _)))))
    (pss_one (ps_set (i := 7) nd rfl (by first | exact Or.inl rfl | exact Or.inr rfl) pe_int))
    pss_nil)
    (pss_meet (ps_if (PW.pt (pw_and (pt_cmpR op_isN (pv 3) pe_non (nomark _)) (pw_and1 (pt_cmpR op_notN (pv 4) pe_non (nomark _)))))
    (pss_one (ps_set (i := 7) nd rfl (by first | exact Or.inl rfl | exact Or.inr rfl) (pe_op op_sub (pv 6) pe_int)))
    pss_nil)
    (pss_one (ps_ret (pe_G G_nth_mark hr (by decide) rfl hpx (pa_cons (pv 0) (pa_cons (pv 1) (pa_cons (pv 2) (pa_cons (pv 3) (pa_cons (pv 4) (pa_cons (pv 5) (pa_cons (pv 7) pa_nil)))))))))))))))
theorem ok_run_between {f : Addr} {fd : FuncData} (F : FunD K "run_between" "run_between" (defArgs s_run_between) (defBody s_run_between) (defScope s_run_between) [] [] f fd) (T : Tx K mg) (G_least_long : FnG P w K mg base (L2.CX P w) "least_long" ["letters", "hands", "hand", "low", "high", "many"] 4 (sp_least_long K)) (G_room_at : FnG P w K mg base (L2.CX P w) "room_at" ["letters", "hands", "hand", "low", "high", "long"] 3 (sp_room_at K)) (G_nth_mark : FnG P w K mg base (L2.CX P w) "nth_mark" ["letters", "hands", "hand", "low", "high", "long", "number"] 3 (sp_nth_mark K)) : FnOk P w K mg base (L2.CX P w) 5 f fd ["letters", "hands", "hand", "low", "high", "many"] (sp_run_between K) := by
  refine F.ok sc_run_between len_run_between (fun cdv A outer s H vs Q E hr h => ⟨t_run_between K E, ?_, pure_run_between T.kx vs H Q E h⟩)
  have nd := sc_run_between.nd
  have hu := hu_of hr
  have htk : Takes (cxOf (L2.CX P w) P w K mg base ["letters", "hands", "hand", "low", "high", "many", "long", "room", "marks", "k", "number"] "run_between" (defScope s_run_between) f cdv A outer s H E) (fun c d _ H => E c d H) := takes_of rfl rfl rfl rfl
  have hpx : Passes (L2.CX P w) (cxOf (L2.CX P w) P w K mg base ["letters", "hands", "hand", "low", "high", "many", "long", "room", "marks", "k", "number"] "run_between" (defScope s_run_between) f cdv A outer s H E) E := passes_call htk fun _ _ _ _ z => z
  have hps : PassesOwn (model P w) (A.deeper (envOfC "run_between" (defScope s_run_between) s.heap.objs.size f cdv)) (envOfC "run_between" (defScope s_run_between) s.heap.objs.size f cdv) (cxOf (L2.CX P w) P w K mg base ["letters", "hands", "hand", "low", "high", "many", "long", "room", "marks", "k", "number"] "run_between" (defScope s_run_between) f cdv A outer s H E).xe := passes_of (X := cxOf (L2.CX P w) P w K mg base ["letters", "hands", "hand", "low", "high", "many", "long", "room", "marks", "k", "number"] "run_between" (defScope s_run_between) f cdv A outer s H E) rfl
  exact (pss_trim (pss_cons (ps_set (i := 6) nd rfl (by first | exact Or.inl rfl | exact Or.inr rfl) (pe_G G_least_long hr (by decide) rfl hpx (pa_cons (pv 0) (pa_cons (pv 1) (pa_cons (pv 2) (pa_cons (pv 3) (pa_cons (pv 4) (pa_cons (pv 5) pa_nil))))))))
    (pss_cons (ps_set (i := 7) nd rfl (by first | exact Or.inl rfl | exact Or.inr rfl) (pe_G G_room_at hr (by decide) rfl hpx (pa_cons (pv 0) (pa_cons (pv 1) (pa_cons (pv 2) (pa_cons (pv 3) (pa_cons (pv 4) (pa_cons (pv 6) pa_nil))))))))
    (pss_cons (ps_set (i := 8) nd rfl (by first | exact Or.inl rfl | exact Or.inr rfl) (pe_lst pa_nil))
    (pss_cons (ps_for hps rfl (pi_range1 (by rfl) T.n_range (pa_cons (pv 5) pa_nil)) (pg_name (i := 9) nd rfl (by first | exact Or.inl rfl | exact Or.inr rfl))
    (pss_cons (ps_set (i := 10) nd rfl (by first | exact Or.inl rfl | exact Or.inr rfl) (pe_op op_sub (pe_op op_fdivW (pe_op op_mulW (pe_op op_add (pv 9) pe_int) (pe_op op_add (pv 7) pe_int)) (pe_op op_add (pv 5) pe_int)) pe_int))
    (pss_one (ps_expr (pe_bm PySem.F.plainAttrs_list PySem.F.slot_list_append PySem.F.type_list_append mt_append (pv 8) (pa_cons (pe_G G_nth_mark hr (by decide) rfl hpx (pa_cons (pv 0) (pa_cons (pv 1) (pa_cons (pv 2) (pa_cons (pv 3) (pa_cons (pv 4) (pa_cons (pv 6) (pa_cons (pv 10) pa_nil)))))))) pa_nil))))))
    (pss_one (ps_ret (pv 8))))))))
theorem ok_is_thing {f : Addr} {fd : FuncData} (F : FunD K "is_thing" "is_thing" (defArgs s_is_thing) (defBody s_is_thing) (defScope s_is_thing) [] [] f fd) (T : Tx K mg) : FnOk P w K mg base (L2.CX P w) 1 f fd ["text"] (sp_is_thing K) := by
  refine F.ok sc_is_thing len_is_thing (fun cdv A outer s H vs Q E hr h => ⟨t_is_thing K E, ?_, pure_is_thing T.kx vs H Q E h⟩)
  have nd := sc_is_thing.nd
  have hu := hu_of hr
  have htk : Takes (cxOf (L2.CX P w) P w K mg base ["text", "sign"] "is_thing" (defScope s_is_thing) f cdv A outer s H E) (fun c d _ H => E c d H) := takes_of rfl rfl rfl rfl
  have hpx : Passes (L2.CX P w) (cxOf (L2.CX P w) P w K mg base ["text", "sign"] "is_thing" (defScope s_is_thing) f cdv A outer s H E) E := passes_call htk fun _ _ _ _ z => z
  have hps : PassesOwn (model P w) (A.deeper (envOfC "is_thing" (defScope s_is_thing) s.heap.objs.size f cdv)) (envOfC "is_thing" (defScope s_is_thing) s.heap.objs.size f cdv) (cxOf (L2.CX P w) P w K mg base ["text", "sign"] "is_thing" (defScope s_is_thing) f cdv A outer s H E).xe := passes_of (X := cxOf (L2.CX P w) P w K mg base ["text", "sign"] "is_thing" (defScope s_is_thing) f cdv A outer s H E) rfl
  exact (pss_cons (ps_if (PW.pt (pw_or (pt_cmpR op_eq (pe_callB call_len_str (by rfl) T.n_len (by decide +kernel) (pa_cons (pv 0) pa_nil)) pe_int (nomark _)) (pw_or1 (pt_cmpR op_gt (pe_callB call_len_str (by rfl) T.n_len (by decide +kernel) (pa_cons (pv 0) pa_nil)) (pe_glob (by rfl) T.g_LONGEST_THING.choose_spec ⟨_, rfl⟩) (nomark _)))))
    (pss_one (ps_ret pe_bl))
    pss_nil)
    (pss_cons (ps_for hps rfl (pi_str (pv 0)) (pg_name (i := 1) nd rfl (by first | exact Or.inl rfl | exact Or.inr rfl))
    (pss_one (ps_if (pt_cmpR op_notIn_sign (pv 1) (pe_glob (by rfl) T.g_SIGNS.choose_spec ⟨_, rfl⟩) (by rfl))
    (pss_one (ps_ret pe_bl))
    pss_nil)))
    (pss_one (ps_ret pe_bl))))
theorem ok_Shelf___init__ {f : Addr} {fd : FuncData} (F : FunD K "__init__" "Shelf.__init__" (defArgs s_Shelf___init__) (defBody s_Shelf___init__) (defScope s_Shelf___init__) [] [] f fd) (T : Tx K mg) (G_ask_letters : FnG P w K mg base (L2.CX P w) "ask_letters" ["letters", "hands"] 1 (sp_ask_letters K)) : FnOk P w K mg base (L2.CX P w) 2 f fd ["self", "letters"] (sp_Shelf___init__ K) := by
  refine F.ok sc_Shelf___init__ len_Shelf___init__ (fun cdv A outer s H vs Q E hr h => ⟨t_Shelf___init__ K E, ?_, pure_Shelf___init__ T.kx vs H Q E h⟩)
  have nd := sc_Shelf___init__.nd
  have hu := hu_of hr
  have htk : Takes (cxOf (L2.CX P w) P w K mg base ["self", "letters"] "Shelf.__init__" (defScope s_Shelf___init__) f cdv A outer s H E) (fun c d _ H => E c d H) := takes_of rfl rfl rfl rfl
  have hpx : Passes (L2.CX P w) (cxOf (L2.CX P w) P w K mg base ["self", "letters"] "Shelf.__init__" (defScope s_Shelf___init__) f cdv A outer s H E) E := passes_call htk fun _ _ _ _ z => z
  have hps : PassesOwn (model P w) (A.deeper (envOfC "Shelf.__init__" (defScope s_Shelf___init__) s.heap.objs.size f cdv)) (envOfC "Shelf.__init__" (defScope s_Shelf___init__) s.heap.objs.size f cdv) (cxOf (L2.CX P w) P w K mg base ["self", "letters"] "Shelf.__init__" (defScope s_Shelf___init__) f cdv A outer s H E).xe := passes_of (X := cxOf (L2.CX P w) P w K mg base ["self", "letters"] "Shelf.__init__" (defScope s_Shelf___init__) f cdv A outer s H E) rfl
  exact (pss_trim (pss_cons (ps_expr (pe_G G_ask_letters hr (by decide) rfl hpx (pa_cons (pv 1) (pa_cons pe_int pa_nil))))
    (pss_cons (ps_fld (pv 0) (pv 1) rfl)
    (pss_cons (ps_fld (pv 0) (pe_lst pa_nil) rfl)
    (pss_one (ps_fld (pv 0) (pe_lst pa_nil) rfl))))))
theorem ok_Shelf_ask_put {f : Addr} {fd : FuncData} (F : FunD K "ask_put" "Shelf.ask_put" (defArgs s_Shelf_ask_put) (defBody s_Shelf_ask_put) (defScope s_Shelf_ask_put) [] [] f fd) (T : Tx K mg) (G_is_thing : FnG P w K mg base (L2.CX P w) "is_thing" ["text"] 1 (sp_is_thing K)) : FnOk P w K mg base (L2.CX P w) 2 f fd ["self", "place", "some"] (sp_Shelf_ask_put K) := by
  refine F.ok sc_Shelf_ask_put len_Shelf_ask_put (fun cdv A outer s H vs Q E hr h => ⟨t_Shelf_ask_put K E, ?_, pure_Shelf_ask_put T.kx vs H Q E h⟩)
  have nd := sc_Shelf_ask_put.nd
  have hu := hu_of hr
  have htk : Takes (cxOf (L2.CX P w) P w K mg base ["self", "place", "some", "thing"] "Shelf.ask_put" (defScope s_Shelf_ask_put) f cdv A outer s H E) (fun c d _ H => E c d H) := takes_of rfl rfl rfl rfl
  have hpx : Passes (L2.CX P w) (cxOf (L2.CX P w) P w K mg base ["self", "place", "some", "thing"] "Shelf.ask_put" (defScope s_Shelf_ask_put) f cdv A outer s H E) E := passes_call htk fun _ _ _ _ z => z
  have hps : PassesOwn (model P w) (A.deeper (envOfC "Shelf.ask_put" (defScope s_Shelf_ask_put) s.heap.objs.size f cdv)) (envOfC "Shelf.ask_put" (defScope s_Shelf_ask_put) s.heap.objs.size f cdv) (cxOf (L2.CX P w) P w K mg base ["self", "place", "some", "thing"] "Shelf.ask_put" (defScope s_Shelf_ask_put) f cdv A outer s H E).xe := passes_of (X := cxOf (L2.CX P w) P w K mg base ["self", "place", "some", "thing"] "Shelf.ask_put" (defScope s_Shelf_ask_put) f cdv A outer s H E) rfl
  exact (pss_cons (ps_if (PW.pt (pw_or (pt_cmpR op_eq (pe_callB call_len_seq (by rfl) T.n_len (by decide +kernel) (pa_cons (pv 2) pa_nil)) pe_int (nomark _)) (pw_or1 (pt_cmpR op_gt (pe_op op_add (pe_callB call_len_seq (by rfl) T.n_len (by decide +kernel) (pa_cons (pe_fld (pv 0) rfl) pa_nil)) (pe_callB call_len_seq (by rfl) T.n_len (by decide +kernel) (pa_cons (pv 2) pa_nil))) (pe_glob (by rfl) T.g_MOST_THINGS.choose_spec ⟨_, rfl⟩) (nomark _)))))
    (pss_one (ps_raise rfl htk (pmk_own PySem.F.excBase_ValueError T.x_NoThing T.g_NoThing T.k_NoThing (raises_own T.b_NoThing T.t_NoThing) rfl)))
    pss_nil)
    (pss_cons (ps_for hps rfl (pi_list (pv 2)) (pg_name (i := 3) nd rfl (by first | exact Or.inl rfl | exact Or.inr rfl))
    (pss_one (ps_if (pt_not (pt_val (pe_G G_is_thing hr (by decide) rfl hpx (pa_cons (pv 3) pa_nil))))
    (pss_one (ps_raise rfl htk (pmk_own PySem.F.excBase_ValueError T.x_NoThing T.g_NoThing T.k_NoThing (raises_own T.b_NoThing T.t_NoThing) rfl)))
    pss_nil)))
    (pss_one (ps_if (PW.pt (pw_or (pt_cmpR op_lt (pv 1) pe_int (nomark _)) (pw_or1 (pt_cmpR op_gt (pv 1) (pe_callB call_len_seq (by rfl) T.n_len (by decide +kernel) (pa_cons (pe_fld (pv 0) rfl) pa_nil)) (nomark _)))))
    (pss_one (ps_raise rfl htk (pmk_own PySem.F.excBase_ValueError T.x_NoPlace T.g_NoPlace T.k_NoPlace (raises_own T.b_NoPlace T.t_NoPlace) rfl)))
    pss_nil))))
theorem ok_Shelf_marks_round {f : Addr} {fd : FuncData} (F : FunD K "marks_round" "Shelf.marks_round" (defArgs s_Shelf_marks_round) (defBody s_Shelf_marks_round) (defScope s_Shelf_marks_round) [] [] f fd) (T : Tx K mg) : FnOk P w K mg base (L2.CX P w) 1 f fd ["self", "place"] (sp_Shelf_marks_round K) := by
  refine F.ok sc_Shelf_marks_round len_Shelf_marks_round (fun cdv A outer s H vs Q E hr h => ⟨t_Shelf_marks_round K E, ?_, pure_Shelf_marks_round T.kx vs H Q E h⟩)
  have nd := sc_Shelf_marks_round.nd
  have hu := hu_of hr
  have htk : Takes (cxOf (L2.CX P w) P w K mg base ["self", "place", "low", "high"] "Shelf.marks_round" (defScope s_Shelf_marks_round) f cdv A outer s H E) (fun c d _ H => E c d H) := takes_of rfl rfl rfl rfl
  have hpx : Passes (L2.CX P w) (cxOf (L2.CX P w) P w K mg base ["self", "place", "low", "high"] "Shelf.marks_round" (defScope s_Shelf_marks_round) f cdv A outer s H E) E := passes_call htk fun _ _ _ _ z => z
  have hps : PassesOwn (model P w) (A.deeper (envOfC "Shelf.marks_round" (defScope s_Shelf_marks_round) s.heap.objs.size f cdv)) (envOfC "Shelf.marks_round" (defScope s_Shelf_marks_round) s.heap.objs.size f cdv) (cxOf (L2.CX P w) P w K mg base ["self", "place", "low", "high"] "Shelf.marks_round" (defScope s_Shelf_marks_round) f cdv A outer s H E).xe := passes_of (X := cxOf (L2.CX P w) P w K mg base ["self", "place", "low", "high"] "Shelf.marks_round" (defScope s_Shelf_marks_round) f cdv A outer s H E) rfl
  exact (pss_trim (pss_cons (ps_set (i := 2) nd rfl (by first | exact Or.inl rfl | exact Or.inr rfl) pe_non)
    (pss_cons (ps_set (i := 3) nd rfl (by first | exact Or.inl rfl | exact Or.inr rfl) pe_non)
    (pss_meet (ps_if (pt_cmpR op_gt (pv 1) pe_int (nomark _))
    (pss_one (ps_set (i := 2) nd rfl (by first | exact Or.inl rfl | exact Or.inr rfl) (pe_ix ix_list (pe_fld (pv 0) rfl) (pe_op op_sub (pv 1) pe_int) (fun _ _ => rfl))))
    pss_nil)
    (pss_meet (ps_if (pt_cmpR op_lt (pv 1) (pe_callB call_len_seq (by rfl) T.n_len (by decide +kernel) (pa_cons (pe_fld (pv 0) rfl) pa_nil)) (nomark _))
    (pss_one (ps_set (i := 3) nd rfl (by first | exact Or.inl rfl | exact Or.inr rfl) (pe_ix ix_list (pe_fld (pv 0) rfl) (pv 1) (fun _ _ => rfl))))
    pss_nil)
    (pss_one (ps_ret (pe_tup (pa_cons (pv 2) (pa_cons (pv 3) pa_nil))))))))))
theorem ok_Shelf_put {f : Addr} {fd : FuncData} (F : FunD K "put" "Shelf.put" (defArgs s_Shelf_put) (defBody s_Shelf_put) (defScope s_Shelf_put) [] [] f fd) (T : Tx K mg) (G_Shelf_ask_put : FnM P w K mg base (L2.CX P w) (He.ga K "Shelf") "ask_put" ["self", "place", "some"] 2 (sp_Shelf_ask_put K)) (G_Shelf_marks_round : FnM P w K mg base (L2.CX P w) (He.ga K "Shelf") "marks_round" ["self", "place"] 1 (sp_Shelf_marks_round K)) (G_mark_between : FnG P w K mg base (L2.CX P w) "mark_between" ["letters", "hands", "hand", "low", "high"] 5 (sp_mark_between K)) : FnOk P w K mg base (L2.CX P w) 6 f fd ["self", "place", "thing"] (sp_Shelf_put K) := by
  refine F.ok sc_Shelf_put len_Shelf_put (fun cdv A outer s H vs Q E hr h => ⟨t_Shelf_put K E, ?_, pure_Shelf_put T.kx vs H Q E h⟩)
  have nd := sc_Shelf_put.nd
  have hu := hu_of hr
  have htk : Takes (cxOf (L2.CX P w) P w K mg base ["self", "place", "thing", "low", "high", "mark"] "Shelf.put" (defScope s_Shelf_put) f cdv A outer s H E) (fun c d _ H => E c d H) := takes_of rfl rfl rfl rfl
  have hpx : Passes (L2.CX P w) (cxOf (L2.CX P w) P w K mg base ["self", "place", "thing", "low", "high", "mark"] "Shelf.put" (defScope s_Shelf_put) f cdv A outer s H E) E := passes_call htk fun _ _ _ _ z => z
  have hps : PassesOwn (model P w) (A.deeper (envOfC "Shelf.put" (defScope s_Shelf_put) s.heap.objs.size f cdv)) (envOfC "Shelf.put" (defScope s_Shelf_put) s.heap.objs.size f cdv) (cxOf (L2.CX P w) P w K mg base ["self", "place", "thing", "low", "high", "mark"] "Shelf.put" (defScope s_Shelf_put) f cdv A outer s H E).xe := passes_of (X := cxOf (L2.CX P w) P w K mg base ["self", "place", "thing", "low", "high", "mark"] "Shelf.put" (defScope s_Shelf_put) f cdv A outer s H E) rfl
  exact (pss_trim (pss_cons (ps_expr (pe_trim (pe_Gm G_Shelf_ask_put hr (by decide) (pv 0) T.kx.c_Shelf hpx (pa_cons (pv 1) (pa_cons (pe_lst (pa_cons (pv 2) pa_nil)) pa_nil)))))
    (pss_cons (ps_trim (ps_asg (pe_Gm G_Shelf_marks_round hr (by decide) (pv 0) T.kx.c_Shelf hpx (pa_cons (pv 1) pa_nil)) (pg_tup rfl (pgs_cons (pg_name (i := 3) nd rfl (by first | exact Or.inl rfl | exact Or.inr rfl)) (pgs_cons (pg_name (i := 4) nd rfl (by first | exact Or.inl rfl | exact Or.inr rfl)) pgs_nil)))))
    (pss_cons (ps_set (i := 5) nd rfl (by first | exact Or.inl rfl | exact Or.inr rfl) (pe_G G_mark_between hr (by decide) rfl hpx (pa_cons (pe_fld (pv 0) rfl) (pa_cons pe_int (pa_cons pe_int (pa_cons (pv 3) (pa_cons (pv 4) pa_nil)))))))
    (pss_cons (ps_expr (pe_bm PySem.F.plainAttrs_list PySem.F.slot_list_insert PySem.F.type_list_insert mt_insert (pe_fld (pv 0) rfl) (pa_cons (pv 1) (pa_cons (pv 2) pa_nil))))
    (pss_cons (ps_expr (pe_bm PySem.F.plainAttrs_list PySem.F.slot_list_insert PySem.F.type_list_insert mt_insert (pe_fld (pv 0) rfl) (pa_cons (pv 1) (pa_cons (pv 5) pa_nil))))
    (pss_one (ps_ret (pv 5)))))))))
theorem ok_Shelf_put_row {f : Addr} {fd : FuncData} (F : FunD K "put_row" "Shelf.put_row" (defArgs s_Shelf_put_row) (defBody s_Shelf_put_row) (defScope s_Shelf_put_row) [] [] f fd) (T : Tx K mg) (G_Shelf_ask_put : FnM P w K mg base (L2.CX P w) (He.ga K "Shelf") "ask_put" ["self", "place", "some"] 2 (sp_Shelf_ask_put K)) (G_Shelf_marks_round : FnM P w K mg base (L2.CX P w) (He.ga K "Shelf") "marks_round" ["self", "place"] 1 (sp_Shelf_marks_round K)) (G_run_between : FnG P w K mg base (L2.CX P w) "run_between" ["letters", "hands", "hand", "low", "high", "many"] 5 (sp_run_between K)) : FnOk P w K mg base (L2.CX P w) 6 f fd ["self", "place", "some"] (sp_Shelf_put_row K) := by
  refine F.ok sc_Shelf_put_row len_Shelf_put_row (fun cdv A outer s H vs Q E hr h => ⟨t_Shelf_put_row K E, ?_, pure_Shelf_put_row T.kx vs H Q E h⟩)
  have nd := sc_Shelf_put_row.nd
  have hu := hu_of hr
  have htk : Takes (cxOf (L2.CX P w) P w K mg base ["self", "place", "some", "low", "high", "fresh"] "Shelf.put_row" (defScope s_Shelf_put_row) f cdv A outer s H E) (fun c d _ H => E c d H) := takes_of rfl rfl rfl rfl
  have hpx : Passes (L2.CX P w) (cxOf (L2.CX P w) P w K mg base ["self", "place", "some", "low", "high", "fresh"] "Shelf.put_row" (defScope s_Shelf_put_row) f cdv A outer s H E) E := passes_call htk fun _ _ _ _ z => z
  have hps : PassesOwn (model P w) (A.deeper (envOfC "Shelf.put_row" (defScope s_Shelf_put_row) s.heap.objs.size f cdv)) (envOfC "Shelf.put_row" (defScope s_Shelf_put_row) s.heap.objs.size f cdv) (cxOf (L2.CX P w) P w K mg base ["self", "place", "some", "low", "high", "fresh"] "Shelf.put_row" (defScope s_Shelf_put_row) f cdv A outer s H E).xe := passes_of (X := cxOf (L2.CX P w) P w K mg base ["self", "place", "some", "low", "high", "fresh"] "Shelf.put_row" (defScope s_Shelf_put_row) f cdv A outer s H E) rfl
  exact (pss_trim (pss_cons (ps_expr (pe_Gm G_Shelf_ask_put hr (by decide) (pv 0) T.kx.c_Shelf hpx (pa_cons (pv 1) (pa_cons (pv 2) pa_nil))))
    (pss_cons (ps_trim (ps_asg (pe_Gm G_Shelf_marks_round hr (by decide) (pv 0) T.kx.c_Shelf hpx (pa_cons (pv 1) pa_nil)) (pg_tup rfl (pgs_cons (pg_name (i := 3) nd rfl (by first | exact Or.inl rfl | exact Or.inr rfl)) (pgs_cons (pg_name (i := 4) nd rfl (by first | exact Or.inl rfl | exact Or.inr rfl)) pgs_nil)))))
    (pss_cons (ps_set (i := 5) nd rfl (by first | exact Or.inl rfl | exact Or.inr rfl) (pe_G G_run_between hr (by decide) rfl hpx (pa_cons (pe_fld (pv 0) rfl) (pa_cons pe_int (pa_cons pe_int (pa_cons (pv 3) (pa_cons (pv 4) (pa_cons (pe_callB call_len_seq (by rfl) T.n_len (by decide +kernel) (pa_cons (pv 2) pa_nil)) pa_nil))))))))
    (pss_cons (ps_fld (pv 0) (pe_trim (pe_op op_cat (pe_op op_cat (pe_slice sl_list (pe_fld (pv 0) rfl) po_none (po_some (pv 1))) (pe_callTy call_list_of (by rfl) T.n_list (by decide +kernel) (pa_cons (pv 2) pa_nil))) (pe_slice sl_list (pe_fld (pv 0) rfl) (po_some (pv 1)) po_none))) rfl)
    (pss_cons (ps_fld (pv 0) (pe_trim (pe_op op_cat (pe_op op_cat (pe_slice sl_list (pe_fld (pv 0) rfl) po_none (po_some (pv 1))) (pv 5)) (pe_slice sl_list (pe_fld (pv 0) rfl) (po_some (pv 1)) po_none))) rfl)
    (pss_one (ps_ret (pe_callTy call_list_of (by rfl) T.n_list (by decide +kernel) (pa_cons (pv 5) pa_nil))))))))))
theorem ok_Shelf_take {f : Addr} {fd : FuncData} (F : FunD K "take" "Shelf.take" (defArgs s_Shelf_take) (defBody s_Shelf_take) (defScope s_Shelf_take) [] [] f fd) (T : Tx K mg) : FnOk P w K mg base (L2.CX P w) 1 f fd ["self", "place"] (sp_Shelf_take K) := by
  refine F.ok sc_Shelf_take len_Shelf_take (fun cdv A outer s H vs Q E hr h => ⟨t_Shelf_take K E, ?_, pure_Shelf_take T.kx vs H Q E h⟩)
  have nd := sc_Shelf_take.nd
  have hu := hu_of hr
  have htk : Takes (cxOf (L2.CX P w) P w K mg base ["self", "place"] "Shelf.take" (defScope s_Shelf_take) f cdv A outer s H E) (fun c d _ H => E c d H) := takes_of rfl rfl rfl rfl
  have hpx : Passes (L2.CX P w) (cxOf (L2.CX P w) P w K mg base ["self", "place"] "Shelf.take" (defScope s_Shelf_take) f cdv A outer s H E) E := passes_call htk fun _ _ _ _ z => z
  have hps : PassesOwn (model P w) (A.deeper (envOfC "Shelf.take" (defScope s_Shelf_take) s.heap.objs.size f cdv)) (envOfC "Shelf.take" (defScope s_Shelf_take) s.heap.objs.size f cdv) (cxOf (L2.CX P w) P w K mg base ["self", "place"] "Shelf.take" (defScope s_Shelf_take) f cdv A outer s H E).xe := passes_of (X := cxOf (L2.CX P w) P w K mg base ["self", "place"] "Shelf.take" (defScope s_Shelf_take) f cdv A outer s H E) rfl
  exact (pss_cons (ps_if (PW.pt (pw_or (pt_cmpR op_lt (pv 1) pe_int (nomark _)) (pw_or1 (pt_cmpR op_ge (pv 1) (pe_callB call_len_seq (by rfl) T.n_len (by decide +kernel) (pa_cons (pe_fld (pv 0) rfl) pa_nil)) (nomark _)))))
    (pss_one (ps_raise rfl htk (pmk_own PySem.F.excBase_ValueError T.x_NoPlace T.g_NoPlace T.k_NoPlace (raises_own T.b_NoPlace T.t_NoPlace) rfl)))
    pss_nil)
    (pss_cons (ps_expr (pe_bm PySem.F.plainAttrs_list PySem.F.slot_list_pop PySem.F.type_list_pop mt_popAt (pe_fld (pv 0) rfl) (pa_cons (pv 1) pa_nil)))
    (pss_one (ps_ret (pe_bm PySem.F.plainAttrs_list PySem.F.slot_list_pop PySem.F.type_list_pop mt_popAt (pe_fld (pv 0) rfl) (pa_cons (pv 1) pa_nil))))))
theorem ok_Shelf_marks {f : Addr} {fd : FuncData} (F : FunD K "marks" "Shelf.marks" (defArgs s_Shelf_marks) (defBody s_Shelf_marks) (defScope s_Shelf_marks) [] [] f fd) (T : Tx K mg) : FnOk P w K mg base (L2.CX P w) 1 f fd ["self"] (sp_Shelf_marks K) := by
  refine F.ok sc_Shelf_marks len_Shelf_marks (fun cdv A outer s H vs Q E hr h => ⟨t_Shelf_marks K E, ?_, pure_Shelf_marks T.kx vs H Q E h⟩)
  have nd := sc_Shelf_marks.nd
  have hu := hu_of hr
  have htk : Takes (cxOf (L2.CX P w) P w K mg base ["self"] "Shelf.marks" (defScope s_Shelf_marks) f cdv A outer s H E) (fun c d _ H => E c d H) := takes_of rfl rfl rfl rfl
  have hpx : Passes (L2.CX P w) (cxOf (L2.CX P w) P w K mg base ["self"] "Shelf.marks" (defScope s_Shelf_marks) f cdv A outer s H E) E := passes_call htk fun _ _ _ _ z => z
  have hps : PassesOwn (model P w) (A.deeper (envOfC "Shelf.marks" (defScope s_Shelf_marks) s.heap.objs.size f cdv)) (envOfC "Shelf.marks" (defScope s_Shelf_marks) s.heap.objs.size f cdv) (cxOf (L2.CX P w) P w K mg base ["self"] "Shelf.marks" (defScope s_Shelf_marks) f cdv A outer s H E).xe := passes_of (X := cxOf (L2.CX P w) P w K mg base ["self"] "Shelf.marks" (defScope s_Shelf_marks) f cdv A outer s H E) rfl
  exact (pss_trim (pss_one (ps_ret (pe_callTy call_list_of (by rfl) T.n_list (by decide +kernel) (pa_cons (pe_fld (pv 0) rfl) pa_nil)))))
theorem ok_Shelf_things {f : Addr} {fd : FuncData} (F : FunD K "things" "Shelf.things" (defArgs s_Shelf_things) (defBody s_Shelf_things) (defScope s_Shelf_things) [] [] f fd) (T : Tx K mg) : FnOk P w K mg base (L2.CX P w) 1 f fd ["self"] (sp_Shelf_things K) := by
  refine F.ok sc_Shelf_things len_Shelf_things (fun cdv A outer s H vs Q E hr h => ⟨t_Shelf_things K E, ?_, pure_Shelf_things T.kx vs H Q E h⟩)
  have nd := sc_Shelf_things.nd
  have hu := hu_of hr
  have htk : Takes (cxOf (L2.CX P w) P w K mg base ["self"] "Shelf.things" (defScope s_Shelf_things) f cdv A outer s H E) (fun c d _ H => E c d H) := takes_of rfl rfl rfl rfl
  have hpx : Passes (L2.CX P w) (cxOf (L2.CX P w) P w K mg base ["self"] "Shelf.things" (defScope s_Shelf_things) f cdv A outer s H E) E := passes_call htk fun _ _ _ _ z => z
  have hps : PassesOwn (model P w) (A.deeper (envOfC "Shelf.things" (defScope s_Shelf_things) s.heap.objs.size f cdv)) (envOfC "Shelf.things" (defScope s_Shelf_things) s.heap.objs.size f cdv) (cxOf (L2.CX P w) P w K mg base ["self"] "Shelf.things" (defScope s_Shelf_things) f cdv A outer s H E).xe := passes_of (X := cxOf (L2.CX P w) P w K mg base ["self"] "Shelf.things" (defScope s_Shelf_things) f cdv A outer s H E) rfl
  exact (pss_trim (pss_one (ps_ret (pe_callTy call_list_of (by rfl) T.n_list (by decide +kernel) (pa_cons (pe_fld (pv 0) rfl) pa_nil)))))
theorem ok_law_draw {f : Addr} {fd : FuncData} (F : FunD K "_law_draw" "_law_draw" (defArgs s_law_draw) (defBody s_law_draw) (defScope s_law_draw) [] [] f fd) (T : Tx K mg) : FnOk P w K mg base (L2.CX P w) 1 f fd ["script", "k", "many"] (sp_law_draw K) := by
  refine F.ok sc_law_draw len_law_draw (fun cdv A outer s H vs Q E hr h => ⟨t_law_draw K E, ?_, pure_law_draw T.kx vs H Q E h⟩)
  have nd := sc_law_draw.nd
  have hu := hu_of hr
  have htk : Takes (cxOf (L2.CX P w) P w K mg base ["script", "k", "many", "cell", "j", "seed"] "_law_draw" (defScope s_law_draw) f cdv A outer s H E) (fun c d _ H => E c d H) := takes_of rfl rfl rfl rfl
  have hpx : Passes (L2.CX P w) (cxOf (L2.CX P w) P w K mg base ["script", "k", "many", "cell", "j", "seed"] "_law_draw" (defScope s_law_draw) f cdv A outer s H E) E := passes_call htk fun _ _ _ _ z => z
  have hps : PassesOwn (model P w) (A.deeper (envOfC "_law_draw" (defScope s_law_draw) s.heap.objs.size f cdv)) (envOfC "_law_draw" (defScope s_law_draw) s.heap.objs.size f cdv) (cxOf (L2.CX P w) P w K mg base ["script", "k", "many", "cell", "j", "seed"] "_law_draw" (defScope s_law_draw) f cdv A outer s H E).xe := passes_of (X := cxOf (L2.CX P w) P w K mg base ["script", "k", "many", "cell", "j", "seed"] "_law_draw" (defScope s_law_draw) f cdv A outer s H E) rfl
  exact (pss_meet (ps_set (i := 3) nd rfl (by first | exact Or.inl rfl | exact Or.inr rfl) (pe_ifExp (pt_cmpR op_gt (pe_callB call_len_seq (by rfl) T.n_len (by decide +kernel) (pa_cons (pv 0) pa_nil)) pe_int (nomark _)) (pe_ix ix_list (pv 0) (pe_op op_mod (pv 1) (pe_callB call_len_seq (by rfl) T.n_len (by decide +kernel) (pa_cons (pv 0) pa_nil))) (fun _ _ => rfl)) pe_int))
    (pss_meet (ps_if (PW.pt (pw_and (pt_cmpR op_gt (pe_callB call_len_seq (by rfl) T.n_len (by decide +kernel) (pa_cons (pv 0) pa_nil)) pe_int (nomark _)) (pw_and1 (pt_cmpR op_eq (pe_op op_mod (pe_op op_fdivW (pe_ix ix_list (pv 0) pe_int (fun _ _ => rfl)) pe_int) pe_int) pe_int (nomark _)))))
    (pss_cons (ps_for hps rfl (pi_range1 (by rfl) T.n_range (pa_cons (pe_op op_mod (pe_op op_fdivW (pv 1) (pe_callB call_len_seq (by rfl) T.n_len (by decide +kernel) (pa_cons (pv 0) pa_nil))) pe_int) pa_nil)) (pg_name (i := 4) nd rfl (by first | exact Or.inl rfl | exact Or.inr rfl))
    (pss_one (ps_set (i := 3) nd rfl (by first | exact Or.inl rfl | exact Or.inr rfl) (pe_op op_fdivW (pv 3) pe_int))))
    (pss_one (ps_ret (pe_op op_mod (pe_op op_mod (pv 3) pe_int) (pv 2)))))
    pss_nil)
    (pss_cons (ps_set (i := 5) nd rfl (by first | exact Or.inl rfl | exact Or.inr rfl) (pe_op op_add (pe_op op_add (pe_op op_mod (pv 3) pe_int) (pe_op op_mulW (pe_op op_mulW pe_int (pv 1)) (pv 1))) pe_int))
    (pss_one (ps_ret (pe_op op_mod (pe_op op_mod (pe_op op_mulW (pe_op op_mod (pe_op op_mulW (pv 5) pe_int) pe_int) pe_int) pe_int) (pv 2)))))))
theorem okq_law_of {f : Addr} {fd : FuncData} (F : FunD K "_law_of" "_law_of" (defArgs s_law_of) (defBody s_law_of) (defScope s_law_of) [] [] f fd) (T : Tx K mg) : FnQ P w K mg base (L2.CX P w) 1 f fd ["e"] (sp_law_of K) := by
  refine okQ F sc_law_of len_law_of (fun cdv A outer s H vs Q E hr h => ⟨t_law_of K E, ?_, pure_law_of T.kx vs H Q E h⟩)
  have nd := sc_law_of.nd
  exact (pss_trim (pss_cons (ps_set (i := 1) nd rfl (by first | exact Or.inl rfl | exact Or.inr rfl) (pe_lst (pa_cons (pe_callB call_isT (by rfl) T.n_isinstance (by decide +kernel) (pa_cons (pv 0) (pa_cons (pe_glob (by rfl) T.g_NoLetters rfl) pa_nil))) (pa_cons (pe_callB call_isT (by rfl) T.n_isinstance (by decide +kernel) (pa_cons (pv 0) (pa_cons (pe_glob (by rfl) T.g_NoThing rfl) pa_nil))) (pa_cons (pe_callB call_isT (by rfl) T.n_isinstance (by decide +kernel) (pa_cons (pv 0) (pa_cons (pe_glob (by rfl) T.g_NoPlace rfl) pa_nil))) pa_nil)))))
    (pss_cons (ps_set (i := 2) nd rfl (by first | exact Or.inl rfl | exact Or.inr rfl) (pe_trim (pe_callB call_isTT (by rfl) T.n_isinstance (by decide +kernel) (pa_cons (pv 0) (pa_cons (pe_tup (pa_cons (pe_glob (by rfl) T.g_NoHand rfl) (pa_cons (pe_glob (by rfl) T.g_NoLine rfl) (pa_cons (pe_glob (by rfl) T.g_NoRoom rfl) (pa_cons (pe_glob (by rfl) T.g_NoShelf rfl) (pa_cons (pe_glob (by rfl) T.g_NoState rfl) pa_nil)))))) pa_nil)))))
    (pss_cons (ps_if (PW.pt (pw_or (pt_val (pv 2)) (pw_or (pt_cmpR op_ne (pe_bm PySem.F.plainAttrs_list PySem.F.slot_list_count PySem.F.type_list_count mt_lcountB (pv 1) (pa_cons pe_bl pa_nil)) pe_int (nomark _)) (pw_or1 (pt_not (pt_val (pe_callB call_isT (by rfl) T.n_isinstance (by decide +kernel) (pa_cons (pv 0) (pa_cons (pe_bltn (by rfl) T.n_ValueError (by decide +kernel) rfl) pa_nil)))))))))
    (pss_one (ps_ret pe_str))
    pss_nil)
    (pss_one (ps_ret (pe_trim (pe_ix ix_list (pe_lst (pa_cons pe_str (pa_cons pe_str (pa_cons pe_str pa_nil)))) (pe_bm PySem.F.plainAttrs_list PySem.F.slot_list_index PySem.F.type_list_index mt_index (pv 1) (pa_cons pe_bl pa_nil)) (fun _ _ => rfl)))))))))

theorem ok_law_made {f : Addr} {fd : FuncData} (F : FunD K "_law_made" "_law_made" (defArgs s_law_made) (defBody s_law_made) (defScope s_law_made) [] [] f fd) (T : Tx K mg) (G_Shelf___init__ : FnI P w K mg base (L2.CX P w) (He.ga K "Shelf") ["self", "letters"] 2 (sp_Shelf___init__ K)) (Q_law_of : FnGQ P w K mg base (L2.CX P w) "_law_of" ["e"] 1 (sp_law_of K)) : FnOk P w K mg base (L2.CX P w) 4 f fd ["letters"] (sp_law_made K) := by
  refine F.ok sc_law_made len_law_made (fun cdv A outer s H vs Q E hr h => ⟨t_law_made K E, ?_, pure_law_made T.kx vs H Q E h⟩)
  have nd := sc_law_made.nd
  have hu := hu_of hr
  have htk : Takes (cxOf (L2.CX P w) P w K mg base ["letters", "told", "e"] "_law_made" (defScope s_law_made) f cdv A outer s H E) (fun c d _ H => E c d H) := takes_of rfl rfl rfl rfl
  have hpx : Passes (L2.CX P w) (cxOf (L2.CX P w) P w K mg base ["letters", "told", "e"] "_law_made" (defScope s_law_made) f cdv A outer s H E) E := passes_call htk fun _ _ _ _ z => z
  have hps : PassesOwn (model P w) (A.deeper (envOfC "_law_made" (defScope s_law_made) s.heap.objs.size f cdv)) (envOfC "_law_made" (defScope s_law_made) s.heap.objs.size f cdv) (cxOf (L2.CX P w) P w K mg base ["letters", "told", "e"] "_law_made" (defScope s_law_made) f cdv A outer s H E).xe := passes_of (X := cxOf (L2.CX P w) P w K mg base ["letters", "told", "e"] "_law_made" (defScope s_law_made) f cdv A outer s H E) rfl
  exact (pss_trim (pss_cons (ps_set (i := 1) nd rfl (by first | exact Or.inl rfl | exact Or.inr rfl) pe_str)
    (pss_meet (ps_try_asT (i := 2) rfl rfl rfl nd rfl rfl ⟨rfl, by decide, .inl T.g_ShelfError⟩ htk (fun W pn xe tk _ => (pss_one (ps_expr (pe_GMS G_Shelf___init__ hr (by decide) rfl T.g_Shelf (fun σ => passAt tk σ) (pa_cons (pv 0) pa_nil))))) (fun a pn => (pss_one (ps_set (i := 1) nd rfl (by first | exact Or.inl rfl | exact Or.inr rfl) (pe_Q Q_law_of (roomQ hr) (by decide) rfl passL (pa_cons (pv 2) pa_nil))))))
    (pss_one (ps_ret (pv 1))))))
theorem ok_law_done {f : Addr} {fd : FuncData} (F : FunD K "_law_done" "_law_done" (defArgs s_law_done) (defBody s_law_done) (defScope s_law_done) [] [] f fd) (T : Tx K mg) (G_Shelf_put : FnM P w K mg base (L2.CX P w) (He.ga K "Shelf") "put" ["self", "place", "thing"] 6 (sp_Shelf_put K)) (G_Shelf_put_row : FnM P w K mg base (L2.CX P w) (He.ga K "Shelf") "put_row" ["self", "place", "some"] 6 (sp_Shelf_put_row K)) (G_Shelf_take : FnM P w K mg base (L2.CX P w) (He.ga K "Shelf") "take" ["self", "place"] 1 (sp_Shelf_take K)) (Q_law_of : FnGQ P w K mg base (L2.CX P w) "_law_of" ["e"] 1 (sp_law_of K)) : FnOk P w K mg base (L2.CX P w) 7 f fd ["shelf", "way", "place", "some"] (sp_law_done K) := by
  refine F.ok sc_law_done len_law_done (fun cdv A outer s H vs Q E hr h => ⟨t_law_done K E, ?_, pure_law_done T.kx vs H Q E h⟩)
  have nd := sc_law_done.nd
  have hu := hu_of hr
  have htk : Takes (cxOf (L2.CX P w) P w K mg base ["shelf", "way", "place", "some", "told", "e"] "_law_done" (defScope s_law_done) f cdv A outer s H E) (fun c d _ H => E c d H) := takes_of rfl rfl rfl rfl
  have hpx : Passes (L2.CX P w) (cxOf (L2.CX P w) P w K mg base ["shelf", "way", "place", "some", "told", "e"] "_law_done" (defScope s_law_done) f cdv A outer s H E) E := passes_call htk fun _ _ _ _ z => z
  have hps : PassesOwn (model P w) (A.deeper (envOfC "_law_done" (defScope s_law_done) s.heap.objs.size f cdv)) (envOfC "_law_done" (defScope s_law_done) s.heap.objs.size f cdv) (cxOf (L2.CX P w) P w K mg base ["shelf", "way", "place", "some", "told", "e"] "_law_done" (defScope s_law_done) f cdv A outer s H E).xe := passes_of (X := cxOf (L2.CX P w) P w K mg base ["shelf", "way", "place", "some", "told", "e"] "_law_done" (defScope s_law_done) f cdv A outer s H E) rfl
  exact (pss_trim (pss_cons (ps_set (i := 4) nd rfl (by first | exact Or.inl rfl | exact Or.inr rfl) pe_str)
    (pss_meet (ps_try_asT (i := 5) rfl rfl rfl nd rfl rfl ⟨rfl, by decide, .inl T.g_ShelfError⟩ htk (fun W pn xe tk _ => (pss_one (ps_if (pt_cmpR op_eq (pv 1) pe_int (nomark _))
    (pss_one (ps_expr (pe_GmS G_Shelf_put hr (by decide) (pv 0) T.kx.c_Shelf (fun σ => passAt tk σ) (pa_cons (pv 2) (pa_cons (pe_ix ix_list (pv 3) pe_int (fun _ _ => rfl)) pa_nil)))))
    (pss_one (ps_if (pt_cmpR op_eq (pv 1) pe_int (nomark _))
    (pss_one (ps_expr (pe_GmS G_Shelf_put_row hr (by decide) (pv 0) T.kx.c_Shelf (fun σ => passAt tk σ) (pa_cons (pv 2) (pa_cons (pv 3) pa_nil)))))
    (pss_one (ps_expr (pe_GmS G_Shelf_take hr (by decide) (pv 0) T.kx.c_Shelf (fun σ => passAt tk σ) (pa_cons (pv 2) pa_nil))))))))) (fun a pn => (pss_one (ps_set (i := 4) nd rfl (by first | exact Or.inl rfl | exact Or.inr rfl) (pe_Q Q_law_of (roomQ hr) (by decide) rfl passL (pa_cons (pv 5) pa_nil))))))
    (pss_one (ps_ret (pv 4))))))
theorem ok_law_bad_thing {f : Addr} {fd : FuncData} (F : FunD K "_law_bad_thing" "_law_bad_thing" (defArgs s_law_bad_thing) (defBody s_law_bad_thing) (defScope s_law_bad_thing) [] [] f fd) (T : Tx K mg) (G_law_draw : FnG P w K mg base (L2.CX P w) "_law_draw" ["script", "k", "many"] 1 (sp_law_draw K)) : FnOk P w K mg base (L2.CX P w) 2 f fd ["script", "k"] (sp_law_bad_thing K) := by
  refine F.ok sc_law_bad_thing len_law_bad_thing (fun cdv A outer s H vs Q E hr h => ⟨t_law_bad_thing K E, ?_, pure_law_bad_thing T.kx vs H Q E h⟩)
  have nd := sc_law_bad_thing.nd
  have hu := hu_of hr
  have htk : Takes (cxOf (L2.CX P w) P w K mg base ["script", "k", "good", "at", "sign", "bent"] "_law_bad_thing" (defScope s_law_bad_thing) f cdv A outer s H E) (fun c d _ H => E c d H) := takes_of rfl rfl rfl rfl
  have hpx : Passes (L2.CX P w) (cxOf (L2.CX P w) P w K mg base ["script", "k", "good", "at", "sign", "bent"] "_law_bad_thing" (defScope s_law_bad_thing) f cdv A outer s H E) E := passes_call htk fun _ _ _ _ z => z
  have hps : PassesOwn (model P w) (A.deeper (envOfC "_law_bad_thing" (defScope s_law_bad_thing) s.heap.objs.size f cdv)) (envOfC "_law_bad_thing" (defScope s_law_bad_thing) s.heap.objs.size f cdv) (cxOf (L2.CX P w) P w K mg base ["script", "k", "good", "at", "sign", "bent"] "_law_bad_thing" (defScope s_law_bad_thing) f cdv A outer s H E).xe := passes_of (X := cxOf (L2.CX P w) P w K mg base ["script", "k", "good", "at", "sign", "bent"] "_law_bad_thing" (defScope s_law_bad_thing) f cdv A outer s H E) rfl
  exact (pss_trim (pss_cons (ps_set (i := 2) nd rfl (by first | exact Or.inl rfl | exact Or.inr rfl) (pe_slice C8.sl_txt pe_str po_none (po_some (pe_op op_add pe_int (pe_G G_law_draw hr (by decide) rfl hpx (pa_cons (pv 0) (pa_cons (pv 1) (pa_cons pe_int pa_nil))))))))
    (pss_cons (ps_set (i := 3) nd rfl (by first | exact Or.inl rfl | exact Or.inr rfl) (pe_G G_law_draw hr (by decide) rfl hpx (pa_cons (pv 0) (pa_cons (pe_op op_add (pv 1) pe_int) (pa_cons (pe_callB call_len_str (by rfl) T.n_len (by decide +kernel) (pa_cons (pv 2) pa_nil)) pa_nil)))))
    (pss_cons (ps_set (i := 4) nd rfl (by first | exact Or.inl rfl | exact Or.inr rfl) (pe_ix ix_str pe_str (pe_G G_law_draw hr (by decide) rfl hpx (pa_cons (pv 0) (pa_cons (pe_op op_add (pv 1) pe_int) (pa_cons pe_int pa_nil)))) (fun _ _ => rfl)))
    (pss_cons (ps_set (i := 5) nd rfl (by first | exact Or.inl rfl | exact Or.inr rfl) (pe_op op_add_str (pe_op op_add_str (pe_slice C8.sl_txt (pv 2) po_none (po_some (pv 3))) (pv 4)) (pe_slice C8.sl_txt (pv 2) (po_some (pe_op op_add (pv 3) pe_int)) po_none)))
    (pss_one (ps_ret (pe_trim (pe_ix ix_list (pe_lst (pa_cons pe_str (pa_cons pe_str (pa_cons (pe_op op_mul_str pe_str (pe_op op_add pe_int (pe_G G_law_draw hr (by decide) rfl hpx (pa_cons (pv 0) (pa_cons (pe_op op_add (pv 1) pe_int) (pa_cons pe_int pa_nil)))))) (pa_cons (pv 5) pa_nil))))) (pe_G G_law_draw hr (by decide) rfl hpx (pa_cons (pv 0) (pa_cons (pe_op op_add (pv 1) pe_int) (pa_cons pe_int pa_nil)))) (fun _ _ => rfl))))))))))
theorem ok_law_far {f : Addr} {fd : FuncData} (F : FunD K "_law_far" "_law_far" (defArgs s_law_far) (defBody s_law_far) (defScope s_law_far) [] [] f fd) (T : Tx K mg) (G_law_draw : FnG P w K mg base (L2.CX P w) "_law_draw" ["script", "k", "many"] 1 (sp_law_draw K)) : FnOk P w K mg base (L2.CX P w) 2 f fd ["script", "k", "least", "most"] (sp_law_far K) := by
  refine F.ok sc_law_far len_law_far (fun cdv A outer s H vs Q E hr h => ⟨t_law_far K E, ?_, pure_law_far T.kx vs H Q E h⟩)
  have nd := sc_law_far.nd
  have hu := hu_of hr
  have htk : Takes (cxOf (L2.CX P w) P w K mg base ["script", "k", "least", "most", "cell", "far"] "_law_far" (defScope s_law_far) f cdv A outer s H E) (fun c d _ H => E c d H) := takes_of rfl rfl rfl rfl
  have hpx : Passes (L2.CX P w) (cxOf (L2.CX P w) P w K mg base ["script", "k", "least", "most", "cell", "far"] "_law_far" (defScope s_law_far) f cdv A outer s H E) E := passes_call htk fun _ _ _ _ z => z
  have hps : PassesOwn (model P w) (A.deeper (envOfC "_law_far" (defScope s_law_far) s.heap.objs.size f cdv)) (envOfC "_law_far" (defScope s_law_far) s.heap.objs.size f cdv) (cxOf (L2.CX P w) P w K mg base ["script", "k", "least", "most", "cell", "far"] "_law_far" (defScope s_law_far) f cdv A outer s H E).xe := passes_of (X := cxOf (L2.CX P w) P w K mg base ["script", "k", "least", "most", "cell", "far"] "_law_far" (defScope s_law_far) f cdv A outer s H E) rfl
  exact (pss_trim (pss_meet (ps_set (i := 4) nd rfl (by first | exact Or.inl rfl | exact Or.inr rfl) (pe_ifExp (pt_cmpR op_gt (pe_callB call_len_seq (by rfl) T.n_len (by decide +kernel) (pa_cons (pv 0) pa_nil)) pe_int (nomark _)) (pe_ix ix_list (pv 0) (pe_op op_mod (pv 1) (pe_callB call_len_seq (by rfl) T.n_len (by decide +kernel) (pa_cons (pv 0) pa_nil))) (fun _ _ => rfl)) pe_int))
    (pss_cons (ps_set (i := 5) nd rfl (by first | exact Or.inl rfl | exact Or.inr rfl) (pe_op op_mod (pv 4) (pe_op op_pow pe_int pe_int)))
    (pss_one (ps_ret (pe_trim (pe_ix ix_list (pe_lst (pa_cons (pe_op op_sub (pv 2) pe_int) (pa_cons (pe_op op_add (pv 3) pe_int) (pa_cons (pe_op op_sub (pe_op op_sub (pv 2) pe_int) (pv 5)) (pa_cons (pe_op op_add (pe_op op_add (pv 3) pe_int) (pv 5)) pa_nil))))) (pe_G G_law_draw hr (by decide) rfl hpx (pa_cons (pv 0) (pa_cons (pe_op op_add (pv 1) pe_int) (pa_cons pe_int pa_nil)))) (fun _ _ => rfl))))))))
theorem ok_law {f : Addr} {fd : FuncData} (F : FunD K "law" "law" (defArgs s_law) (defBody s_law) (defScope s_law) [] [] f fd) (T : Tx K mg) (G_law_far : FnG P w K mg base (L2.CX P w) "_law_far" ["script", "k", "least", "most"] 2 (sp_law_far K)) (G_law_made : FnG P w K mg base (L2.CX P w) "_law_made" ["letters"] 4 (sp_law_made K)) (G_law_draw : FnG P w K mg base (L2.CX P w) "_law_draw" ["script", "k", "many"] 1 (sp_law_draw K)) (G_law_done : FnG P w K mg base (L2.CX P w) "_law_done" ["shelf", "way", "place", "some"] 7 (sp_law_done K)) (G_Shelf_things : FnM P w K mg base (L2.CX P w) (He.ga K "Shelf") "things" ["self"] 1 (sp_Shelf_things K)) (G_Shelf_marks : FnM P w K mg base (L2.CX P w) (He.ga K "Shelf") "marks" ["self"] 1 (sp_Shelf_marks K)) (G_law_bad_thing : FnG P w K mg base (L2.CX P w) "_law_bad_thing" ["script", "k"] 2 (sp_law_bad_thing K)) (G_Shelf___init__ : FnI P w K mg base (L2.CX P w) (He.ga K "Shelf") ["self", "letters"] 2 (sp_Shelf___init__ K)) : FnOk P w K mg base (L2.CX P w) 8 f fd ["script"] (sp_law K) := by
  refine F.ok sc_law len_law (fun cdv A outer s H vs Q E hr h => ⟨t_law K E, ?_, pure_law T.kx vs H Q E h⟩)
  have nd := sc_law.nd
  have hu := hu_of hr
  have htk : Takes (cxOf (L2.CX P w) P w K mg base ["script", "shelf", "many", "k", "kept", "places", "bad", "row", "j", "long", "place", "due"] "law" (defScope s_law) f cdv A outer s H E) (fun c d _ H => E c d H) := takes_of rfl rfl rfl rfl
  have hpx : Passes (L2.CX P w) (cxOf (L2.CX P w) P w K mg base ["script", "shelf", "many", "k", "kept", "places", "bad", "row", "j", "long", "place", "due"] "law" (defScope s_law) f cdv A outer s H E) E := passes_call htk fun _ _ _ _ z => z
  have hps : PassesOwn (model P w) (A.deeper (envOfC "law" (defScope s_law) s.heap.objs.size f cdv)) (envOfC "law" (defScope s_law) s.heap.objs.size f cdv) (cxOf (L2.CX P w) P w K mg base ["script", "shelf", "many", "k", "kept", "places", "bad", "row", "j", "long", "place", "due"] "law" (defScope s_law) f cdv A outer s H E).xe := passes_of (X := cxOf (L2.CX P w) P w K mg base ["script", "shelf", "many", "k", "kept", "places", "bad", "row", "j", "long", "place", "due"] "law" (defScope s_law) f cdv A outer s H E) rfl
  exact (pss_cons (ps_if (pt_cmpR op_ne (pe_G G_law_made hr (by decide) rfl hpx (pa_cons (pe_G G_law_far hr (by decide) rfl hpx (pa_cons (pv 0) (pa_cons pe_int (pa_cons pe_int (pa_cons pe_int pa_nil))))) pa_nil)) pe_str (nomark _))
    (pss_one (ps_ret pe_bl))
    pss_nil)
    (pss_cons (ps_set (i := 1) nd rfl (by first | exact Or.inl rfl | exact Or.inr rfl) (pe_GM G_Shelf___init__ hr (by decide) rfl T.g_Shelf hpx (pa_cons (pe_op op_add pe_int (pe_G G_law_draw hr (by decide) rfl hpx (pa_cons (pv 0) (pa_cons pe_int (pa_cons pe_int pa_nil))))) pa_nil)))
    (pss_cons (ps_set (i := 2) nd rfl (by first | exact Or.inl rfl | exact Or.inr rfl) (pe_trim (pe_ix ix_list (pe_lst (pa_cons (pe_G G_law_draw hr (by decide) rfl hpx (pa_cons (pv 0) (pa_cons pe_int (pa_cons pe_int pa_nil)))) (pa_cons (pe_op op_add pe_int (pe_G G_law_draw hr (by decide) rfl hpx (pa_cons (pv 0) (pa_cons pe_int (pa_cons pe_int pa_nil))))) pa_nil))) (pe_callTy call_int1 (by rfl) T.n_int (by decide +kernel) (pa_cons (pe_cmpR op_eq (pe_G G_law_draw hr (by decide) rfl hpx (pa_cons (pv 0) (pa_cons pe_int (pa_cons pe_int pa_nil)))) pe_int (nomark _)) pa_nil)) (fun _ _ => rfl))))
    (pss_meet (ps_if (PW.pt (pw_and (pt_cmpR op_gt (pv 2) pe_int (nomark _)) (pw_and1 (pt_trim (pt_cmpR op_ne (pe_G G_law_done hr (by decide) rfl hpx (pa_cons (pv 1) (pa_cons pe_int (pa_cons pe_int (pa_cons (pe_lc (own := [("k", 3)]) rfl nd (pi_range1 (by rfl) T.n_range (pa_cons (pv 2) pa_nil)) (blkOk_by (own := [("k", 3)]) (N := ["script", "shelf", "many", "k", "kept", "places", "bad", "row", "j", "long", "place", "due"]) (sc := defScope s_law) (by decide +kernel)) (fun _ _ _ _ _ => (pg_name (i := 3) nd rfl (by first | exact Or.inl rfl | exact Or.inr rfl))) (fun _ _ _ _ _ => pts_nil) (fun _ _ _ _ _ => (pe_op op_add_str pe_str (pe_callTy call_str_int (by rfl) T.n_str (by decide +kernel) (pa_cons (pv 3) pa_nil))))) pa_nil))))) pe_str (nomark _))))))
    (pss_one (ps_ret pe_bl))
    pss_nil)
    (pss_cons (ps_set (i := 4) nd rfl (by first | exact Or.inl rfl | exact Or.inr rfl) (pe_trim (pe_tup (pa_cons (pe_Gm0 G_Shelf_marks hr (by decide) (pv 1) T.kx.c_Shelf hpx) (pa_cons (pe_Gm0 G_Shelf_things hr (by decide) (pv 1) T.kx.c_Shelf hpx) pa_nil)))))
    (pss_cons (ps_set (i := 5) nd rfl (by first | exact Or.inl rfl | exact Or.inr rfl) (pe_lst (pa_cons (pe_G G_law_far hr (by decide) rfl hpx (pa_cons (pv 0) (pa_cons pe_int (pa_cons pe_int (pa_cons (pv 2) pa_nil))))) (pa_cons (pe_G G_law_draw hr (by decide) rfl hpx (pa_cons (pv 0) (pa_cons pe_int (pa_cons (pe_op op_add (pv 2) pe_int) pa_nil)))) pa_nil))))
    (pss_cons (ps_for hps rfl (pi_range1 (by rfl) T.n_range (pa_cons pe_int pa_nil)) (pg_name (i := 3) nd rfl (by first | exact Or.inl rfl | exact Or.inr rfl))
    (pss_cons (ps_set (i := 6) nd rfl (by first | exact Or.inl rfl | exact Or.inr rfl) (pe_G G_law_bad_thing hr (by decide) rfl hpx (pa_cons (pv 0) (pa_cons (pe_op op_add pe_int (pe_op op_mulW pe_int (pv 3))) pa_nil))))
    (pss_cons (ps_setLc (i := 7) (own := [("j", 8)]) rfl nd rfl rfl (sw_true rfl rfl rfl (by decide +kernel)) (pi_range1 (by rfl) T.n_range (pa_cons (pe_op op_add (pe_G G_law_draw hr (by decide) rfl hpx (pa_cons (pv 0) (pa_cons (pe_op op_add pe_int (pv 3)) (pa_cons pe_int pa_nil)))) (pe_op op_mulW pe_int (pe_G G_law_draw hr (by decide) rfl hpx (pa_cons (pv 0) (pa_cons (pe_op op_add pe_int (pv 3)) (pa_cons pe_int pa_nil)))))) pa_nil)) (blkOk_by (own := [("j", 8)]) (N := ["script", "shelf", "many", "k", "kept", "places", "bad", "row", "j", "long", "place", "due"]) (sc := defScope s_law) (by decide +kernel)) (fun _ _ _ _ _ => (pg_name (i := 8) nd rfl (by first | exact Or.inl rfl | exact Or.inr rfl))) (fun _ _ _ _ _ => pts_nil) (fun _ _ _ _ _ => (pe_op op_add_str pe_str (pe_callTy call_str_int (by rfl) T.n_str (by decide +kernel) (pa_cons (pv 8) pa_nil)))))
    (pss_cons (ps_expr (pe_bm PySem.F.plainAttrs_list PySem.F.slot_list_insert PySem.F.type_list_insert mt_insert (pv 7) (pa_cons (pe_G G_law_draw hr (by decide) rfl hpx (pa_cons (pv 0) (pa_cons (pe_op op_add pe_int (pv 3)) (pa_cons (pe_op op_add (pe_callB call_len_seq (by rfl) T.n_len (by decide +kernel) (pa_cons (pv 7) pa_nil)) pe_int) pa_nil)))) (pa_cons (pv 6) pa_nil))))
    (pss_cons (ps_set (i := 9) nd rfl (by first | exact Or.inl rfl | exact Or.inr rfl) (pe_trim (pe_op op_rep (pe_lst (pa_cons pe_str pa_nil)) (pe_op op_add (pe_op op_sub pe_int (pv 2)) (pe_G G_law_draw hr (by decide) rfl hpx (pa_cons (pv 0) (pa_cons pe_int (pa_cons pe_int pa_nil))))))))
    (pss_cons (ps_for hps rfl (pi_list (pv 5)) (pg_name (i := 10) nd rfl (by first | exact Or.inl rfl | exact Or.inr rfl))
    (pss_cons (ps_if (PW.pt (pw_or (pt_trim (pt_cmpR op_ne (pe_G G_law_done hr (by decide) rfl hpx (pa_cons (pv 1) (pa_cons pe_int (pa_cons (pv 10) (pa_cons (pe_lst (pa_cons (pv 6) pa_nil)) pa_nil))))) pe_str (nomark _))) (pw_or1 (pt_cmpR op_ne (pe_G G_law_done hr (by decide) rfl hpx (pa_cons (pv 1) (pa_cons pe_int (pa_cons (pv 10) (pa_cons (pv 7) pa_nil))))) pe_str (nomark _)))))
    (pss_one (ps_ret pe_bl))
    pss_nil)
    (pss_one (ps_if (PW.pt (pw_or (pt_trim (pt_cmpR op_ne (pe_G G_law_done hr (by decide) rfl hpx (pa_cons (pv 1) (pa_cons pe_int (pa_cons (pv 10) (pa_cons (pe_lst pa_nil) pa_nil))))) pe_str (nomark _))) (pw_or1 (pt_cmpR op_ne (pe_G G_law_done hr (by decide) rfl hpx (pa_cons (pv 1) (pa_cons pe_int (pa_cons (pv 10) (pa_cons (pv 9) pa_nil))))) pe_str (nomark _)))))
    (pss_one (ps_ret pe_bl))
    pss_nil))))
    (pss_meet (ps_if (PW.pt (pw_and (pt_cmpR op_lt (pv 2) pe_int (nomark _)) (pw_and1 (pt_trim (pt_cmpR op_ne (pe_G G_law_done hr (by decide) rfl hpx (pa_cons (pv 1) (pa_cons (pv 3) (pa_cons (pe_ix ix_list (pv 5) pe_int (fun _ _ => rfl)) (pa_cons (pe_lst (pa_cons pe_str pa_nil)) pa_nil))))) pe_str (nomark _))))))
    (pss_one (ps_ret pe_bl))
    pss_nil)
    (pss_one (ps_if (pt_trim (pt_cmpR op_ne (pe_G G_law_done hr (by decide) rfl hpx (pa_cons (pv 1) (pa_cons pe_int (pa_cons (pe_G G_law_far hr (by decide) rfl hpx (pa_cons (pv 0) (pa_cons (pe_op op_add pe_int (pe_op op_mulW pe_int (pv 3))) (pa_cons pe_int (pa_cons (pe_op op_sub (pv 2) pe_int) pa_nil))))) (pa_cons (pe_lst pa_nil) pa_nil))))) pe_str (nomark _)))
    (pss_one (ps_ret pe_bl))
    pss_nil)))))))))
    (pss_cons (ps_if (pt_trim (pt_cmpR (op_neD hr.units) (pe_tup (pa_cons (pe_Gm0 G_Shelf_marks hr (by decide) (pv 1) T.kx.c_Shelf hpx) (pa_cons (pe_Gm0 G_Shelf_things hr (by decide) (pv 1) T.kx.c_Shelf hpx) pa_nil))) (pv 4) (nomark _)))
    (pss_one (ps_ret pe_bl))
    pss_nil)
    (pss_cons (ps_if (pt_cmpR op_eq (pv 2) pe_int (nomark _))
    (pss_one (ps_ret (pe_trim (pe_and (pe_cmpR op_eq (pe_G G_law_done hr (by decide) rfl hpx (pa_cons (pv 1) (pa_cons pe_int (pa_cons (pe_ix ix_list (pv 5) pe_int (fun _ _ => rfl)) (pa_cons (pe_lst (pa_cons pe_str pa_nil)) pa_nil))))) pe_str (nomark _)) (pe_one (pe_cmpR op_eq (pe_G G_law_done hr (by decide) rfl hpx (pa_cons (pv 1) (pa_cons pe_int (pa_cons pe_int (pa_cons (pe_lst pa_nil) pa_nil))))) pe_str (nomark _)))))))
    pss_nil)
    (pss_cons (ps_set (i := 11) nd rfl (by first | exact Or.inl rfl | exact Or.inr rfl) (pe_trim (pe_op op_cat (pe_op op_cat (pe_slice sl_list (pe_ix ix_tup (pv 4) pe_int (fun _ _ => rfl)) po_none (po_some (pe_ix ix_list (pv 5) pe_int (fun _ _ => rfl)))) (pe_lst (pa_cons pe_str pa_nil))) (pe_slice sl_list (pe_ix ix_tup (pv 4) pe_int (fun _ _ => rfl)) (po_some (pe_ix ix_list (pv 5) pe_int (fun _ _ => rfl))) po_none))))
    (pss_one (ps_ret (pe_trim (pe_and (pe_cmpR op_eq (pe_G G_law_done hr (by decide) rfl hpx (pa_cons (pv 1) (pa_cons pe_int (pa_cons (pe_ix ix_list (pv 5) pe_int (fun _ _ => rfl)) (pa_cons (pe_lst (pa_cons pe_str pa_nil)) pa_nil))))) pe_str (nomark _)) (pe_one (pe_cmpR (op_eqD hr.units) (pe_Gm0 G_Shelf_things hr (by decide) (pv 1) T.kx.c_Shelf hpx) (pv 11) (nomark _)))))))))))))))))
end
end Sm
namespace Sm
open PySem PySem.Spec PyProof.Rows L2
def d_ask_letters : He.DefD := ⟨("ask_letters", none), "ask_letters", "ask_letters", defArgs s_ask_letters, defBody s_ask_letters, defScope s_ask_letters, [], []⟩
def d_whole_of : He.DefD := ⟨("whole_of", none), "whole_of", "whole_of", defArgs s_whole_of, defBody s_whole_of, defScope s_whole_of, [], []⟩
def d_mark_of : He.DefD := ⟨("mark_of", none), "mark_of", "mark_of", defArgs s_mark_of, defBody s_mark_of, defScope s_mark_of, [], []⟩
def d_ends_of : He.DefD := ⟨("ends_of", none), "ends_of", "ends_of", defArgs s_ends_of, defBody s_ends_of, defScope s_ends_of, [], []⟩
def d_numbers_between : He.DefD := ⟨("numbers_between", none), "numbers_between", "numbers_between", defArgs s_numbers_between, defBody s_numbers_between, defScope s_numbers_between, [], []⟩
def d_figures_of : He.DefD := ⟨("figures_of", none), "figures_of", "figures_of", defArgs s_figures_of, defBody s_figures_of, defScope s_figures_of, [], []⟩
def d_many_below : He.DefD := ⟨("many_below", none), "many_below", "many_below", defArgs s_many_below, defBody s_many_below, defScope s_many_below, [], []⟩
def d_room_at : He.DefD := ⟨("room_at", none), "room_at", "room_at", defArgs s_room_at, defBody s_room_at, defScope s_room_at, [], []⟩
def d_nth_mark : He.DefD := ⟨("nth_mark", none), "nth_mark", "nth_mark", defArgs s_nth_mark, defBody s_nth_mark, defScope s_nth_mark, [], []⟩
def d_least_long : He.DefD := ⟨("least_long", none), "least_long", "least_long", defArgs s_least_long, defBody s_least_long, defScope s_least_long, [], []⟩
def d_mark_between : He.DefD := ⟨("mark_between", none), "mark_between", "mark_between", defArgs s_mark_between, defBody s_mark_between, defScope s_mark_between, [], []⟩
def d_run_between : He.DefD := ⟨("run_between", none), "run_between", "run_between", defArgs s_run_between, defBody s_run_between, defScope s_run_between, [], []⟩
def d_is_thing : He.DefD := ⟨("is_thing", none), "is_thing", "is_thing", defArgs s_is_thing, defBody s_is_thing, defScope s_is_thing, [], []⟩
def d_Shelf___init__ : He.DefD := ⟨("Shelf", some "__init__"), "__init__", "Shelf.__init__", defArgs s_Shelf___init__, defBody s_Shelf___init__, defScope s_Shelf___init__, [], []⟩
def d_Shelf_ask_put : He.DefD := ⟨("Shelf", some "ask_put"), "ask_put", "Shelf.ask_put", defArgs s_Shelf_ask_put, defBody s_Shelf_ask_put, defScope s_Shelf_ask_put, [], []⟩
def d_Shelf_marks_round : He.DefD := ⟨("Shelf", some "marks_round"), "marks_round", "Shelf.marks_round", defArgs s_Shelf_marks_round, defBody s_Shelf_marks_round, defScope s_Shelf_marks_round, [], []⟩
def d_Shelf_put : He.DefD := ⟨("Shelf", some "put"), "put", "Shelf.put", defArgs s_Shelf_put, defBody s_Shelf_put, defScope s_Shelf_put, [], []⟩
def d_Shelf_put_row : He.DefD := ⟨("Shelf", some "put_row"), "put_row", "Shelf.put_row", defArgs s_Shelf_put_row, defBody s_Shelf_put_row, defScope s_Shelf_put_row, [], []⟩
def d_Shelf_take : He.DefD := ⟨("Shelf", some "take"), "take", "Shelf.take", defArgs s_Shelf_take, defBody s_Shelf_take, defScope s_Shelf_take, [], []⟩
def d_Shelf_marks : He.DefD := ⟨("Shelf", some "marks"), "marks", "Shelf.marks", defArgs s_Shelf_marks, defBody s_Shelf_marks, defScope s_Shelf_marks, [], []⟩
def d_Shelf_things : He.DefD := ⟨("Shelf", some "things"), "things", "Shelf.things", defArgs s_Shelf_things, defBody s_Shelf_things, defScope s_Shelf_things, [], []⟩
def d_law_draw : He.DefD := ⟨("_law_draw", none), "_law_draw", "_law_draw", defArgs s_law_draw, defBody s_law_draw, defScope s_law_draw, [], []⟩
def d_law_of : He.DefD := ⟨("_law_of", none), "_law_of", "_law_of", defArgs s_law_of, defBody s_law_of, defScope s_law_of, [], []⟩
def d_law_made : He.DefD := ⟨("_law_made", none), "_law_made", "_law_made", defArgs s_law_made, defBody s_law_made, defScope s_law_made, [], []⟩
def d_law_done : He.DefD := ⟨("_law_done", none), "_law_done", "_law_done", defArgs s_law_done, defBody s_law_done, defScope s_law_done, [], []⟩
def d_law_bad_thing : He.DefD := ⟨("_law_bad_thing", none), "_law_bad_thing", "_law_bad_thing", defArgs s_law_bad_thing, defBody s_law_bad_thing, defScope s_law_bad_thing, [], []⟩
def d_law_far : He.DefD := ⟨("_law_far", none), "_law_far", "_law_far", defArgs s_law_far, defBody s_law_far, defScope s_law_far, [], []⟩
def d_law : He.DefD := ⟨("law", none), "law", "law", defArgs s_law, defBody s_law, defScope s_law, [], []⟩
def fn : List He.DefD := [d_ask_letters, d_whole_of, d_mark_of, d_ends_of, d_numbers_between, d_figures_of, d_many_below, d_room_at, d_nth_mark, d_least_long, d_mark_between, d_run_between, d_is_thing, d_Shelf___init__, d_Shelf_ask_put, d_Shelf_marks_round, d_Shelf_put, d_Shelf_put_row, d_Shelf_take, d_Shelf_marks, d_Shelf_things, d_law_draw, d_law_of, d_law_made, d_law_done, d_law_bad_thing, d_law_far, d_law]
def fa : List He.Fa := [.free "ValueError", .free "divmod", .free "int", .free "isinstance", .free "len", .free "list", .free "range", .free "str", .str "LETTERS" "abcdefghijklmnopqrstuvwxyz", .int "LONGEST_THING" 12, .int "MOST_THINGS" 300, .str "SIGNS" "abcdefghijklmnopqrstuvwxyz0123456789", .cls "Shelf", .exc "NoLetters", .exc "NoPlace", .exc "NoRoom", .exc "NoThing", .exm "NoLetters" "ShelfError" true, .exm "NoPlace" "ShelfError" true, .exm "NoRoom" "ShelfError" true, .exm "NoThing" "ShelfError" true, .glo "NoHand", .glo "NoLetters", .glo "NoLine", .glo "NoPlace", .glo "NoRoom", .glo "NoShelf", .glo "NoState", .glo "NoThing", .glo "Shelf", .glo "ShelfError", .meth "Shelf" "ask_put", .meth "Shelf" "marks", .meth "Shelf" "marks_round", .meth "Shelf" "put", .meth "Shelf" "put_row", .meth "Shelf" "take", .meth "Shelf" "things", .mkr "Shelf", .noat "Shelf" "letters", .noat "Shelf" "row_marks", .noat "Shelf" "row_things", .glo "ask_letters", .glo "whole_of", .glo "mark_of", .glo "ends_of", .glo "numbers_between", .glo "figures_of", .glo "many_below", .glo "room_at", .glo "nth_mark", .glo "least_long", .glo "mark_between", .glo "run_between", .glo "is_thing", .glo "_law_draw", .glo "_law_of", .glo "_law_made", .glo "_law_done", .glo "_law_bad_thing", .glo "_law_far", .glo "law"]
abbrev R : PySem.W.OpenRow := PySem.W.OpenLaw.row PySem.Challenge.rw_shelfmark_k33_shelves_refused
abbrev AlE : Type := He.AlD × Bool
def obsE (n : Nat) (fa : List He.Fa) (fn : List He.DefD) (ex : PySem.W.Frag → Bool) (g : Addr → Option Obj) : AlE := (He.obsD fa fn (He.frG g (He.asD g n)), ex (He.frG g (He.asD g n)))
def hookE (n : Nat) (fa : List He.Fa) (fn : List He.DefD) (ex : PySem.W.Frag → Bool) : PySem.W.Hook where
  α := AlE
  obs := fun s => obsE n fa fn ex s.heap.get?
  val := fun _ => (He.valD fn, true)
  says := fun _ h => ∃ K : PySem.W.Frag, K.In h ∧ He.SaysD fa fn K ∧ ex K = true
  of := fun _ _ e => ⟨_, He.frG_in, congrArg (fun z : AlE => z.1) e, congrArg (fun z : AlE => z.2) e⟩
  keeps := fun _ _ _ ⟨K, hK, c⟩ k => ⟨K, PySem.W.Frag.In.keeps hK k, c⟩
theorem obsE_eq {n : Nat} {fa : List He.Fa} {fn : List He.DefD} {ex : PySem.W.Frag → Bool} {g : Addr → Option Obj} {s : Shared} (h : ∀ a, g a = s.heap.get? a) : obsE n fa fn ex g = (hookE n fa fn ex).obs s := by
  have e : g = s.heap.get? := funext h
  rw [e] <;> rfl
def excB (K : PySem.W.Frag) (D : Addr) : Bool := decide (PySem.W.findIn K (.ref D) "__getattribute__" = some (some (.builtin "BaseException.__getattribute__"))) && (decide (PySem.W.findIn K (.ref D) "__getattr__" = some none) &&
  (decide (PySem.W.subIn K (.ref D) (.type "BaseException") = some true) && (PySem.W.hasDictIn K D && (decide (PySem.W.findIn K (.ref D) "__class__" = some (some (.builtin "object.__class__"))) &&
  (decide (PySem.W.specialIn K (.builtin "object.__class__") "__get__" = some (some (.builtin "getset_descriptor.__get__"))) && (decide (PySem.W.takesIn K (.builtin "object.__class__") = some true) && decide (PySem.W.mroIn K D (.type "object") = some true)))))))
theorem excB_ok {K : PySem.W.Frag} {D : Addr} (h : excB K D = true) : ExcC K D := by
  obtain ⟨h1, h⟩ := He.ba h
  obtain ⟨h2, h⟩ := He.ba h
  obtain ⟨h3, h⟩ := He.ba h
  obtain ⟨h4, h⟩ := He.ba h
  obtain ⟨h5, h⟩ := He.ba h
  obtain ⟨h6, h⟩ := He.ba h
  obtain ⟨h7, h8⟩ := He.ba h
  exact ⟨of_decide_eq_true h1, of_decide_eq_true h2, of_decide_eq_true h3, h4, of_decide_eq_true h5, of_decide_eq_true h6, of_decide_eq_true h7, of_decide_eq_true h8⟩
theorem all_at {K : PySem.W.Frag} {l : List (PySem.W.Frag → Bool)} (h : (l.all fun f => f K) = true) (i : Nat) {f : PySem.W.Frag → Bool} (e : l[i]? = some f := by rfl) : f K = true := List.all_eq_true.mp h f (List.mem_of_getElem? e)
def exl : List (PySem.W.Frag → Bool) := [fun K => excB K (He.ga K "NoLetters"), fun K => excB K (He.ga K "NoPlace"), fun K => excB K (He.ga K "NoRoom"), fun K => excB K (He.ga K "NoThing"), fun K => decide (PySem.W.kitOne K (.ref (He.ga K "NoLetters")) (.ref (He.ga K "NoHand")) = some false), fun K => decide (PySem.W.kitOne K (.ref (He.ga K "NoLetters")) (.ref (He.ga K "NoLetters")) = some true), fun K => decide (PySem.W.kitOne K (.ref (He.ga K "NoLetters")) (.ref (He.ga K "NoLine")) = some false), fun K => decide (PySem.W.kitOne K (.ref (He.ga K "NoLetters")) (.ref (He.ga K "NoPlace")) = some false), fun K => decide (PySem.W.kitOne K (.ref (He.ga K "NoLetters")) (.ref (He.ga K "NoRoom")) = some false), fun K => decide (PySem.W.kitOne K (.ref (He.ga K "NoLetters")) (.ref (He.ga K "NoShelf")) = some false), fun K => decide (PySem.W.kitOne K (.ref (He.ga K "NoLetters")) (.ref (He.ga K "NoState")) = some false), fun K => decide (PySem.W.kitOne K (.ref (He.ga K "NoLetters")) (.ref (He.ga K "NoThing")) = some false), fun K => decide (PySem.W.kitOne K (.ref (He.ga K "NoPlace")) (.ref (He.ga K "NoHand")) = some false), fun K => decide (PySem.W.kitOne K (.ref (He.ga K "NoPlace")) (.ref (He.ga K "NoLetters")) = some false), fun K => decide (PySem.W.kitOne K (.ref (He.ga K "NoPlace")) (.ref (He.ga K "NoLine")) = some false), fun K => decide (PySem.W.kitOne K (.ref (He.ga K "NoPlace")) (.ref (He.ga K "NoPlace")) = some true), fun K => decide (PySem.W.kitOne K (.ref (He.ga K "NoPlace")) (.ref (He.ga K "NoRoom")) = some false), fun K => decide (PySem.W.kitOne K (.ref (He.ga K "NoPlace")) (.ref (He.ga K "NoShelf")) = some false), fun K => decide (PySem.W.kitOne K (.ref (He.ga K "NoPlace")) (.ref (He.ga K "NoState")) = some false), fun K => decide (PySem.W.kitOne K (.ref (He.ga K "NoPlace")) (.ref (He.ga K "NoThing")) = some false), fun K => decide (PySem.W.kitOne K (.ref (He.ga K "NoRoom")) (.ref (He.ga K "NoHand")) = some false), fun K => decide (PySem.W.kitOne K (.ref (He.ga K "NoRoom")) (.ref (He.ga K "NoLetters")) = some false), fun K => decide (PySem.W.kitOne K (.ref (He.ga K "NoRoom")) (.ref (He.ga K "NoLine")) = some false), fun K => decide (PySem.W.kitOne K (.ref (He.ga K "NoRoom")) (.ref (He.ga K "NoPlace")) = some false), fun K => decide (PySem.W.kitOne K (.ref (He.ga K "NoRoom")) (.ref (He.ga K "NoRoom")) = some true), fun K => decide (PySem.W.kitOne K (.ref (He.ga K "NoRoom")) (.ref (He.ga K "NoShelf")) = some false), fun K => decide (PySem.W.kitOne K (.ref (He.ga K "NoRoom")) (.ref (He.ga K "NoState")) = some false), fun K => decide (PySem.W.kitOne K (.ref (He.ga K "NoRoom")) (.ref (He.ga K "NoThing")) = some false), fun K => decide (PySem.W.kitOne K (.ref (He.ga K "NoThing")) (.ref (He.ga K "NoHand")) = some false), fun K => decide (PySem.W.kitOne K (.ref (He.ga K "NoThing")) (.ref (He.ga K "NoLetters")) = some false), fun K => decide (PySem.W.kitOne K (.ref (He.ga K "NoThing")) (.ref (He.ga K "NoLine")) = some false), fun K => decide (PySem.W.kitOne K (.ref (He.ga K "NoThing")) (.ref (He.ga K "NoPlace")) = some false), fun K => decide (PySem.W.kitOne K (.ref (He.ga K "NoThing")) (.ref (He.ga K "NoRoom")) = some false), fun K => decide (PySem.W.kitOne K (.ref (He.ga K "NoThing")) (.ref (He.ga K "NoShelf")) = some false), fun K => decide (PySem.W.kitOne K (.ref (He.ga K "NoThing")) (.ref (He.ga K "NoState")) = some false), fun K => decide (PySem.W.kitOne K (.ref (He.ga K "NoThing")) (.ref (He.ga K "NoThing")) = some true), fun K => decide (PySem.W.kitOne K (.ref (He.ga K "NoLetters")) (.type "ValueError") = some true), fun K => decide (PySem.W.kitOne K (.ref (He.ga K "NoPlace")) (.type "ValueError") = some true), fun K => decide (PySem.W.kitOne K (.ref (He.ga K "NoRoom")) (.type "ValueError") = some true), fun K => decide (PySem.W.kitOne K (.ref (He.ga K "NoThing")) (.type "ValueError") = some true)]
def exb (K : PySem.W.Frag) : Bool := exl.all fun f => f K
abbrev hk : PySem.W.Hook := hookE 4 fa fn exb
def ob (s : PySem.W.SharedT) : AlE := obsE 4 fa fn exb (HandSHeadRun.getT s)
theorem ob_eq (s : PySem.W.SharedT) : ob s = hk.obs s.abs := obsE_eq (HandSHeadRun.getT_eq s)
theorem run (w : World) : HandSHeadRun.RunEq R (PySem.W.view R.prog [41]) hk ob 30448 (("_wall" : Str) :: ("ShelfError" : Str) :: ("NoLetters" : Str) :: ("NoRoom" : Str) :: ("NoThing" : Str) :: ("NoPlace" : Str) :: ("NoHand" : Str) :: ("NoShelf" : Str) :: ("NoLine" : Str) :: ("NoState" : Str) :: ("LETTERS" : Str) :: ("ask_letters" : Str) :: ("whole_of" : Str) :: ("mark_of" : Str) :: ("ends_of" : Str) :: ("numbers_between" : Str) :: ("figures_of" : Str) :: ("many_below" : Str) :: ("room_at" : Str) :: ("nth_mark" : Str) :: ("least_long" : Str) :: ("mark_between" : Str) :: ("run_between" : Str) :: ("SIGNS" : Str) :: ("LONGEST_THING" : Str) :: ("MOST_THINGS" : Str) :: ("is_thing" : Str) :: ("Shelf" : Str) :: ("_law_draw" : Str) :: ("_law_of" : Str) :: ("_law_made" : Str) :: ("_law_done" : Str) :: ("_law_bad_thing" : Str) :: ("_law_far" : Str) :: []) w := by
  intro os
  kernel_rfl
theorem tx {w : World} {K : PySem.W.Frag} {h : Heap} {mg : Str → Option Value} (X : K.In h) (G : h.Ns mainGlobals mg) (c : He.SaysD fa fn K) (cx : exb K = true) : Tx K mg where
  n_ValueError := He.free_ok X G (c.fact 0 rfl)
  n_divmod := He.free_ok X G (c.fact 1 rfl)
  n_int := He.free_ok X G (c.fact 2 rfl)
  n_isinstance := He.free_ok X G (c.fact 3 rfl)
  n_len := He.free_ok X G (c.fact 4 rfl)
  n_list := He.free_ok X G (c.fact 5 rfl)
  n_range := He.free_ok X G (c.fact 6 rfl)
  n_str := He.free_ok X G (c.fact 7 rfl)
  g_LETTERS := He.str_ok X G (c.fact 8 rfl)
  g_LONGEST_THING := He.int_ok X G (c.fact 9 rfl)
  g_MOST_THINGS := He.int_ok X G (c.fact 10 rfl)
  g_SIGNS := He.str_ok X G (c.fact 11 rfl)
  x_NoLetters := (He.exc_ok (c.fact 13 rfl)).1
  k_NoLetters := (He.exc_ok (c.fact 13 rfl)).2.1
  b_NoLetters := (He.exc_ok (c.fact 13 rfl)).2.2.1
  t_NoLetters := (He.exc_ok (c.fact 13 rfl)).2.2.2
  x_NoPlace := (He.exc_ok (c.fact 14 rfl)).1
  k_NoPlace := (He.exc_ok (c.fact 14 rfl)).2.1
  b_NoPlace := (He.exc_ok (c.fact 14 rfl)).2.2.1
  t_NoPlace := (He.exc_ok (c.fact 14 rfl)).2.2.2
  x_NoRoom := (He.exc_ok (c.fact 15 rfl)).1
  k_NoRoom := (He.exc_ok (c.fact 15 rfl)).2.1
  b_NoRoom := (He.exc_ok (c.fact 15 rfl)).2.2.1
  t_NoRoom := (He.exc_ok (c.fact 15 rfl)).2.2.2
  x_NoThing := (He.exc_ok (c.fact 16 rfl)).1
  k_NoThing := (He.exc_ok (c.fact 16 rfl)).2.1
  b_NoThing := (He.exc_ok (c.fact 16 rfl)).2.2.1
  t_NoThing := (He.exc_ok (c.fact 16 rfl)).2.2.2
  g_NoHand := He.glo_ok X G (c.fact 21 rfl)
  g_NoLetters := He.glo_ok X G (c.fact 22 rfl)
  g_NoLine := He.glo_ok X G (c.fact 23 rfl)
  g_NoPlace := He.glo_ok X G (c.fact 24 rfl)
  g_NoRoom := He.glo_ok X G (c.fact 25 rfl)
  g_NoShelf := He.glo_ok X G (c.fact 26 rfl)
  g_NoState := He.glo_ok X G (c.fact 27 rfl)
  g_NoThing := He.glo_ok X G (c.fact 28 rfl)
  g_Shelf := He.glo_ok X G (c.fact 29 rfl)
  g_ShelfError := He.glo_ok X G (c.fact 30 rfl)
  kx := {c_Shelf := He.cls_ok (c.fact 12 rfl), e_NoLetters := excB_ok (all_at cx 0 rfl), e_NoPlace := excB_ok (all_at cx 1 rfl), e_NoRoom := excB_ok (all_at cx 2 rfl), e_NoThing := excB_ok (all_at cx 3 rfl), m_NoLetters_ShelfError := He.exm_ok (c.fact 17 rfl), m_NoPlace_ShelfError := He.exm_ok (c.fact 18 rfl), m_NoRoom_ShelfError := He.exm_ok (c.fact 19 rfl), m_NoThing_ShelfError := He.exm_ok (c.fact 20 rfl), i_NoLetters_NoHand := of_decide_eq_true (all_at cx 4 rfl), i_NoLetters_NoLetters := of_decide_eq_true (all_at cx 5 rfl), i_NoLetters_NoLine := of_decide_eq_true (all_at cx 6 rfl), i_NoLetters_NoPlace := of_decide_eq_true (all_at cx 7 rfl), i_NoLetters_NoRoom := of_decide_eq_true (all_at cx 8 rfl), i_NoLetters_NoShelf := of_decide_eq_true (all_at cx 9 rfl), i_NoLetters_NoState := of_decide_eq_true (all_at cx 10 rfl), i_NoLetters_NoThing := of_decide_eq_true (all_at cx 11 rfl), i_NoPlace_NoHand := of_decide_eq_true (all_at cx 12 rfl), i_NoPlace_NoLetters := of_decide_eq_true (all_at cx 13 rfl), i_NoPlace_NoLine := of_decide_eq_true (all_at cx 14 rfl), i_NoPlace_NoPlace := of_decide_eq_true (all_at cx 15 rfl), i_NoPlace_NoRoom := of_decide_eq_true (all_at cx 16 rfl), i_NoPlace_NoShelf := of_decide_eq_true (all_at cx 17 rfl), i_NoPlace_NoState := of_decide_eq_true (all_at cx 18 rfl), i_NoPlace_NoThing := of_decide_eq_true (all_at cx 19 rfl), i_NoRoom_NoHand := of_decide_eq_true (all_at cx 20 rfl), i_NoRoom_NoLetters := of_decide_eq_true (all_at cx 21 rfl), i_NoRoom_NoLine := of_decide_eq_true (all_at cx 22 rfl), i_NoRoom_NoPlace := of_decide_eq_true (all_at cx 23 rfl), i_NoRoom_NoRoom := of_decide_eq_true (all_at cx 24 rfl), i_NoRoom_NoShelf := of_decide_eq_true (all_at cx 25 rfl), i_NoRoom_NoState := of_decide_eq_true (all_at cx 26 rfl), i_NoRoom_NoThing := of_decide_eq_true (all_at cx 27 rfl), i_NoThing_NoHand := of_decide_eq_true (all_at cx 28 rfl), i_NoThing_NoLetters := of_decide_eq_true (all_at cx 29 rfl), i_NoThing_NoLine := of_decide_eq_true (all_at cx 30 rfl), i_NoThing_NoPlace := of_decide_eq_true (all_at cx 31 rfl), i_NoThing_NoRoom := of_decide_eq_true (all_at cx 32 rfl), i_NoThing_NoShelf := of_decide_eq_true (all_at cx 33 rfl), i_NoThing_NoState := of_decide_eq_true (all_at cx 34 rfl), i_NoThing_NoThing := of_decide_eq_true (all_at cx 35 rfl), i_NoLetters_ValueError := of_decide_eq_true (all_at cx 36 rfl), i_NoPlace_ValueError := of_decide_eq_true (all_at cx 37 rfl), i_NoRoom_ValueError := of_decide_eq_true (all_at cx 38 rfl), i_NoThing_ValueError := of_decide_eq_true (all_at cx 39 rfl), m_Shelf_ask_put := He.meth_ok (c.fact 31 rfl), m_Shelf_marks := He.meth_ok (c.fact 32 rfl), m_Shelf_marks_round := He.meth_ok (c.fact 33 rfl), m_Shelf_put := He.meth_ok (c.fact 34 rfl), m_Shelf_put_row := He.meth_ok (c.fact 35 rfl), m_Shelf_take := He.meth_ok (c.fact 36 rfl), m_Shelf_things := He.meth_ok (c.fact 37 rfl), mk_Shelf := He.mkr_ok (c.fact 38 rfl), a_Shelf_letters := He.noat_ok (c.fact 39 rfl), a_Shelf_row_marks := He.noat_ok (c.fact 40 rfl), a_Shelf_row_things := He.noat_ok (c.fact 41 rfl)}
theorem facts {P : Program} {w : World} {K : PySem.W.Frag} {h : Heap} {mg : Str → Option Value} {f : Addr} (X : K.In h) (G : h.Ns mainGlobals mg) (hfa : mg ("law" : Str) = some (.ref f)) (c : He.SaysD fa fn K) (cx : exb K = true) :
    ∃ fd : FuncData, (∀ (s : Shared) (v : Value), BindsTo s fd ⟨[v], []⟩ [("script", v)]) ∧ ∀ base : Heap, K.In base → base.Ns mainGlobals mg → FnOk P w K mg base (L2.CX P w) 8 f fd ["script"] (sp_law K) := by
  have T : Tx K mg := tx (w := w) X G c cx
  obtain ⟨fd_ask_letters, F_ask_letters⟩ := c.def_ 0 (d := d_ask_letters) rfl
  obtain ⟨fd_whole_of, F_whole_of⟩ := c.def_ 1 (d := d_whole_of) rfl
  obtain ⟨fd_mark_of, F_mark_of⟩ := c.def_ 2 (d := d_mark_of) rfl
  obtain ⟨fd_ends_of, F_ends_of⟩ := c.def_ 3 (d := d_ends_of) rfl
  obtain ⟨fd_numbers_between, F_numbers_between⟩ := c.def_ 4 (d := d_numbers_between) rfl
  obtain ⟨fd_figures_of, F_figures_of⟩ := c.def_ 5 (d := d_figures_of) rfl
  obtain ⟨fd_many_below, F_many_below⟩ := c.def_ 6 (d := d_many_below) rfl
  obtain ⟨fd_room_at, F_room_at⟩ := c.def_ 7 (d := d_room_at) rfl
  obtain ⟨fd_nth_mark, F_nth_mark⟩ := c.def_ 8 (d := d_nth_mark) rfl
  obtain ⟨fd_least_long, F_least_long⟩ := c.def_ 9 (d := d_least_long) rfl
  obtain ⟨fd_mark_between, F_mark_between⟩ := c.def_ 10 (d := d_mark_between) rfl
  obtain ⟨fd_run_between, F_run_between⟩ := c.def_ 11 (d := d_run_between) rfl
  obtain ⟨fd_is_thing, F_is_thing⟩ := c.def_ 12 (d := d_is_thing) rfl
  obtain ⟨fd_Shelf___init__, F_Shelf___init__⟩ := c.def_ 13 (d := d_Shelf___init__) rfl
  obtain ⟨fd_Shelf_ask_put, F_Shelf_ask_put⟩ := c.def_ 14 (d := d_Shelf_ask_put) rfl
  obtain ⟨fd_Shelf_marks_round, F_Shelf_marks_round⟩ := c.def_ 15 (d := d_Shelf_marks_round) rfl
  obtain ⟨fd_Shelf_put, F_Shelf_put⟩ := c.def_ 16 (d := d_Shelf_put) rfl
  obtain ⟨fd_Shelf_put_row, F_Shelf_put_row⟩ := c.def_ 17 (d := d_Shelf_put_row) rfl
  obtain ⟨fd_Shelf_take, F_Shelf_take⟩ := c.def_ 18 (d := d_Shelf_take) rfl
  obtain ⟨fd_Shelf_marks, F_Shelf_marks⟩ := c.def_ 19 (d := d_Shelf_marks) rfl
  obtain ⟨fd_Shelf_things, F_Shelf_things⟩ := c.def_ 20 (d := d_Shelf_things) rfl
  obtain ⟨fd_law_draw, F_law_draw⟩ := c.def_ 21 (d := d_law_draw) rfl
  obtain ⟨fd_law_of, F_law_of⟩ := c.def_ 22 (d := d_law_of) rfl
  obtain ⟨fd_law_made, F_law_made⟩ := c.def_ 23 (d := d_law_made) rfl
  obtain ⟨fd_law_done, F_law_done⟩ := c.def_ 24 (d := d_law_done) rfl
  obtain ⟨fd_law_bad_thing, F_law_bad_thing⟩ := c.def_ 25 (d := d_law_bad_thing) rfl
  obtain ⟨fd_law_far, F_law_far⟩ := c.def_ 26 (d := d_law_far) rfl
  obtain ⟨fd_law, F_law⟩ := c.def_ 27 (d := d_law) rfl
  have e := hfa.symm.trans (He.glo_ok X G (c.fact 61 (f := .glo "law") rfl))
  cases e
  have b := FunD.bindsA (ps := ["script"]) F_law fun _ _ _ _ _ _ us hl => match us, hl with | [_], _ => rfl
  refine ⟨fd_law, fun s v => b s [v] rfl, fun base _ _ => ?_⟩
  have G_ask_letters : FnG P w K mg base (L2.CX P w) "ask_letters" ["letters", "hands"] 1 (sp_ask_letters K) := ⟨⟨_, fd_ask_letters, He.glo_ok X G (c.fact 42 (f := .glo "ask_letters") rfl), F_ask_letters.kp, F_ask_letters.bindsN (fun _ _ _ _ _ _ us hl => match us, hl with | [_, _], _ => rfl), ok_ask_letters F_ask_letters T ⟩⟩
  have G_whole_of : FnG P w K mg base (L2.CX P w) "whole_of" ["letters", "mark", "long"] 1 (sp_whole_of K) := ⟨⟨_, fd_whole_of, He.glo_ok X G (c.fact 43 (f := .glo "whole_of") rfl), F_whole_of.kp, F_whole_of.bindsN (fun _ _ _ _ _ _ us hl => match us, hl with | [_, _, _], _ => rfl), ok_whole_of F_whole_of T ⟩⟩
  have G_mark_of : FnG P w K mg base (L2.CX P w) "mark_of" ["letters", "number", "long"] 1 (sp_mark_of K) := ⟨⟨_, fd_mark_of, He.glo_ok X G (c.fact 44 (f := .glo "mark_of") rfl), F_mark_of.kp, F_mark_of.bindsN (fun _ _ _ _ _ _ us hl => match us, hl with | [_, _, _], _ => rfl), ok_mark_of F_mark_of T ⟩⟩
  have G_ends_of : FnG P w K mg base (L2.CX P w) "ends_of" ["letters", "hands", "hand"] 1 (sp_ends_of K) := ⟨⟨_, fd_ends_of, He.glo_ok X G (c.fact 45 (f := .glo "ends_of") rfl), F_ends_of.kp, F_ends_of.bindsN (fun _ _ _ _ _ _ us hl => match us, hl with | [_, _, _], _ => rfl), ok_ends_of F_ends_of T ⟩⟩
  have G_numbers_between : FnG P w K mg base (L2.CX P w) "numbers_between" ["letters", "low", "high", "long"] 2 (sp_numbers_between K) := ⟨⟨_, fd_numbers_between, He.glo_ok X G (c.fact 46 (f := .glo "numbers_between") rfl), F_numbers_between.kp, F_numbers_between.bindsN (fun _ _ _ _ _ _ us hl => match us, hl with | [_, _, _, _], _ => rfl), ok_numbers_between F_numbers_between T G_whole_of⟩⟩
  have G_figures_of : FnG P w K mg base (L2.CX P w) "figures_of" ["letters", "hands", "hand"] 2 (sp_figures_of K) := ⟨⟨_, fd_figures_of, He.glo_ok X G (c.fact 47 (f := .glo "figures_of") rfl), F_figures_of.kp, F_figures_of.bindsN (fun _ _ _ _ _ _ us hl => match us, hl with | [_, _, _], _ => rfl), ok_figures_of F_figures_of T G_ends_of⟩⟩
  have G_many_below : FnG P w K mg base (L2.CX P w) "many_below" ["letters", "figures", "number"] 1 (sp_many_below K) := ⟨⟨_, fd_many_below, He.glo_ok X G (c.fact 48 (f := .glo "many_below") rfl), F_many_below.kp, F_many_below.bindsN (fun _ _ _ _ _ _ us hl => match us, hl with | [_, _, _], _ => rfl), ok_many_below F_many_below T ⟩⟩
  have G_room_at : FnG P w K mg base (L2.CX P w) "room_at" ["letters", "hands", "hand", "low", "high", "long"] 3 (sp_room_at K) := ⟨⟨_, fd_room_at, He.glo_ok X G (c.fact 49 (f := .glo "room_at") rfl), F_room_at.kp, F_room_at.bindsN (fun _ _ _ _ _ _ us hl => match us, hl with | [_, _, _, _, _, _], _ => rfl), ok_room_at F_room_at T G_numbers_between G_figures_of G_many_below⟩⟩
  have G_nth_mark : FnG P w K mg base (L2.CX P w) "nth_mark" ["letters", "hands", "hand", "low", "high", "long", "number"] 3 (sp_nth_mark K) := ⟨⟨_, fd_nth_mark, He.glo_ok X G (c.fact 50 (f := .glo "nth_mark") rfl), F_nth_mark.kp, F_nth_mark.bindsN (fun _ _ _ _ _ _ us hl => match us, hl with | [_, _, _, _, _, _, _], _ => rfl), ok_nth_mark F_nth_mark T G_numbers_between G_figures_of G_many_below G_mark_of⟩⟩
  have G_least_long : FnG P w K mg base (L2.CX P w) "least_long" ["letters", "hands", "hand", "low", "high", "many"] 4 (sp_least_long K) := ⟨⟨_, fd_least_long, He.glo_ok X G (c.fact 51 (f := .glo "least_long") rfl), F_least_long.kp, F_least_long.bindsN (fun _ _ _ _ _ _ us hl => match us, hl with | [_, _, _, _, _, _], _ => rfl), ok_least_long F_least_long T G_room_at⟩⟩
  have G_mark_between : FnG P w K mg base (L2.CX P w) "mark_between" ["letters", "hands", "hand", "low", "high"] 5 (sp_mark_between K) := ⟨⟨_, fd_mark_between, He.glo_ok X G (c.fact 52 (f := .glo "mark_between") rfl), F_mark_between.kp, F_mark_between.bindsN (fun _ _ _ _ _ _ us hl => match us, hl with | [_, _, _, _, _], _ => rfl), ok_mark_between F_mark_between T G_least_long G_room_at G_nth_mark⟩⟩
  have G_run_between : FnG P w K mg base (L2.CX P w) "run_between" ["letters", "hands", "hand", "low", "high", "many"] 5 (sp_run_between K) := ⟨⟨_, fd_run_between, He.glo_ok X G (c.fact 53 (f := .glo "run_between") rfl), F_run_between.kp, F_run_between.bindsN (fun _ _ _ _ _ _ us hl => match us, hl with | [_, _, _, _, _, _], _ => rfl), ok_run_between F_run_between T G_least_long G_room_at G_nth_mark⟩⟩
  have G_is_thing : FnG P w K mg base (L2.CX P w) "is_thing" ["text"] 1 (sp_is_thing K) := ⟨⟨_, fd_is_thing, He.glo_ok X G (c.fact 54 (f := .glo "is_thing") rfl), F_is_thing.kp, F_is_thing.bindsN (fun _ _ _ _ _ _ us hl => match us, hl with | [_], _ => rfl), ok_is_thing F_is_thing T ⟩⟩
  have G_Shelf___init__ : FnI P w K mg base (L2.CX P w) (He.ga K "Shelf") ["self", "letters"] 2 (sp_Shelf___init__ K) := ⟨⟨_, fd_Shelf___init__, T.kx.mk_Shelf, F_Shelf___init__.bindsN (fun _ _ _ _ _ _ us hl => match us, hl with | [_, _], _ => rfl), ok_Shelf___init__ F_Shelf___init__ T G_ask_letters⟩⟩
  have G_Shelf_ask_put : FnM P w K mg base (L2.CX P w) (He.ga K "Shelf") "ask_put" ["self", "place", "some"] 2 (sp_Shelf_ask_put K) := ⟨⟨_, fd_Shelf_ask_put, T.kx.m_Shelf_ask_put, F_Shelf_ask_put.bindsN (fun _ _ _ _ _ _ us hl => match us, hl with | [_, _, _], _ => rfl), ok_Shelf_ask_put F_Shelf_ask_put T G_is_thing⟩⟩
  have G_Shelf_marks_round : FnM P w K mg base (L2.CX P w) (He.ga K "Shelf") "marks_round" ["self", "place"] 1 (sp_Shelf_marks_round K) := ⟨⟨_, fd_Shelf_marks_round, T.kx.m_Shelf_marks_round, F_Shelf_marks_round.bindsN (fun _ _ _ _ _ _ us hl => match us, hl with | [_, _], _ => rfl), ok_Shelf_marks_round F_Shelf_marks_round T ⟩⟩
  have G_Shelf_put : FnM P w K mg base (L2.CX P w) (He.ga K "Shelf") "put" ["self", "place", "thing"] 6 (sp_Shelf_put K) := ⟨⟨_, fd_Shelf_put, T.kx.m_Shelf_put, F_Shelf_put.bindsN (fun _ _ _ _ _ _ us hl => match us, hl with | [_, _, _], _ => rfl), ok_Shelf_put F_Shelf_put T G_Shelf_ask_put G_Shelf_marks_round G_mark_between⟩⟩
  have G_Shelf_put_row : FnM P w K mg base (L2.CX P w) (He.ga K "Shelf") "put_row" ["self", "place", "some"] 6 (sp_Shelf_put_row K) := ⟨⟨_, fd_Shelf_put_row, T.kx.m_Shelf_put_row, F_Shelf_put_row.bindsN (fun _ _ _ _ _ _ us hl => match us, hl with | [_, _, _], _ => rfl), ok_Shelf_put_row F_Shelf_put_row T G_Shelf_ask_put G_Shelf_marks_round G_run_between⟩⟩
  have G_Shelf_take : FnM P w K mg base (L2.CX P w) (He.ga K "Shelf") "take" ["self", "place"] 1 (sp_Shelf_take K) := ⟨⟨_, fd_Shelf_take, T.kx.m_Shelf_take, F_Shelf_take.bindsN (fun _ _ _ _ _ _ us hl => match us, hl with | [_, _], _ => rfl), ok_Shelf_take F_Shelf_take T ⟩⟩
  have G_Shelf_marks : FnM P w K mg base (L2.CX P w) (He.ga K "Shelf") "marks" ["self"] 1 (sp_Shelf_marks K) := ⟨⟨_, fd_Shelf_marks, T.kx.m_Shelf_marks, F_Shelf_marks.bindsN (fun _ _ _ _ _ _ us hl => match us, hl with | [_], _ => rfl), ok_Shelf_marks F_Shelf_marks T ⟩⟩
  have G_Shelf_things : FnM P w K mg base (L2.CX P w) (He.ga K "Shelf") "things" ["self"] 1 (sp_Shelf_things K) := ⟨⟨_, fd_Shelf_things, T.kx.m_Shelf_things, F_Shelf_things.bindsN (fun _ _ _ _ _ _ us hl => match us, hl with | [_], _ => rfl), ok_Shelf_things F_Shelf_things T ⟩⟩
  have G_law_draw : FnG P w K mg base (L2.CX P w) "_law_draw" ["script", "k", "many"] 1 (sp_law_draw K) := ⟨⟨_, fd_law_draw, He.glo_ok X G (c.fact 55 (f := .glo "_law_draw") rfl), F_law_draw.kp, F_law_draw.bindsN (fun _ _ _ _ _ _ us hl => match us, hl with | [_, _, _], _ => rfl), ok_law_draw F_law_draw T ⟩⟩
  have Q_law_of : FnGQ P w K mg base (L2.CX P w) "_law_of" ["e"] 1 (sp_law_of K) := ⟨⟨_, fd_law_of, He.glo_ok X G (c.fact 56 (f := .glo "_law_of") rfl), F_law_of.kp, F_law_of.bindsN (fun _ _ _ _ _ _ us hl => match us, hl with | [_], _ => rfl), okq_law_of F_law_of T⟩⟩
  have G_law_made : FnG P w K mg base (L2.CX P w) "_law_made" ["letters"] 4 (sp_law_made K) := ⟨⟨_, fd_law_made, He.glo_ok X G (c.fact 57 (f := .glo "_law_made") rfl), F_law_made.kp, F_law_made.bindsN (fun _ _ _ _ _ _ us hl => match us, hl with | [_], _ => rfl), ok_law_made F_law_made T G_Shelf___init__ Q_law_of⟩⟩
  have G_law_done : FnG P w K mg base (L2.CX P w) "_law_done" ["shelf", "way", "place", "some"] 7 (sp_law_done K) := ⟨⟨_, fd_law_done, He.glo_ok X G (c.fact 58 (f := .glo "_law_done") rfl), F_law_done.kp, F_law_done.bindsN (fun _ _ _ _ _ _ us hl => match us, hl with | [_, _, _, _], _ => rfl), ok_law_done F_law_done T G_Shelf_put G_Shelf_put_row G_Shelf_take Q_law_of⟩⟩
  have G_law_bad_thing : FnG P w K mg base (L2.CX P w) "_law_bad_thing" ["script", "k"] 2 (sp_law_bad_thing K) := ⟨⟨_, fd_law_bad_thing, He.glo_ok X G (c.fact 59 (f := .glo "_law_bad_thing") rfl), F_law_bad_thing.kp, F_law_bad_thing.bindsN (fun _ _ _ _ _ _ us hl => match us, hl with | [_, _], _ => rfl), ok_law_bad_thing F_law_bad_thing T G_law_draw⟩⟩
  have G_law_far : FnG P w K mg base (L2.CX P w) "_law_far" ["script", "k", "least", "most"] 2 (sp_law_far K) := ⟨⟨_, fd_law_far, He.glo_ok X G (c.fact 60 (f := .glo "_law_far") rfl), F_law_far.kp, F_law_far.bindsN (fun _ _ _ _ _ _ us hl => match us, hl with | [_, _, _, _], _ => rfl), ok_law_far F_law_far T G_law_draw⟩⟩
  exact ok_law F_law T G_law_far G_law_made G_law_draw G_law_done G_Shelf_things G_Shelf_marks G_law_bad_thing G_Shelf___init__
end Sm
open PySem PySem.W PySem.Calls PyProof.Rows
set_option maxRecDepth 100000 in
set_option maxHeartbeats 0 in
theorem PySem.Challenge.cw_shelfmark_k33_shelves_refused_holds : PySem.Challenge.rw_shelfmark_k33_shelves_refused.Holds := by
  w_on; o_law
  refine HandSHeadRun.head_any (r := OpenLaw.row PySem.Challenge.rw_shelfmark_k33_shelves_refused) (q := view (OpenLaw.row PySem.Challenge.rw_shelfmark_k33_shelves_refused).prog [41]) (H := Sm.hk) (ob := Sm.ob) (M := 30448) (loose := (("_wall" : Str) :: ("ShelfError" : Str) :: ("NoLetters" : Str) :: ("NoRoom" : Str) :: ("NoThing" : Str) :: ("NoPlace" : Str) :: ("NoHand" : Str) :: ("NoShelf" : Str) :: ("NoLine" : Str) :: ("NoState" : Str) :: ("LETTERS" : Str) :: ("ask_letters" : Str) :: ("whole_of" : Str) :: ("mark_of" : Str) :: ("ends_of" : Str) :: ("numbers_between" : Str) :: ("figures_of" : Str) :: ("many_below" : Str) :: ("room_at" : Str) :: ("nth_mark" : Str) :: ("least_long" : Str) :: ("mark_between" : Str) :: ("run_between" : Str) :: ("SIGNS" : Str) :: ("LONGEST_THING" : Str) :: ("MOST_THINGS" : Str) :: ("is_thing" : Str) :: ("Shelf" : Str) :: ("_law_draw" : Str) :: ("_law_of" : Str) :: ("_law_made" : Str) :: ("_law_done" : Str) :: ("_law_bad_thing" : Str) :: ("_law_far" : Str) :: [])) (d := HandSHeadRun.topDef (OpenLaw.row PySem.Challenge.rw_shelfmark_k33_shelves_refused).prog 41) (kwd := []) Sm.ob_eq
    (by kernel_rfl) (fun s => by kernel_rfl) Sm.run (by kernel_rfl) (by kernel_rfl) (by kernel_rfl) (by rfl) (by first | assumption | decide +kernel) (by decide +kernel) ⟨rfl, rfl, rfl, rfl, rfl, by decide +kernel⟩ ?hw ?hc
  case hw => w_witness2
  case hc =>
    refine Sm.walk_ofW (l := PySem.Challenge.rw_shelfmark_k33_shelves_refused) (n := 63) (k := 8) (x := "script") (CX := fun w => L2.CX (PySem.Challenge.rw_shelfmark_k33_shelves_refused).prog w) rfl (by decide) (by kernel_rfl) ⟨rfl, by decide, by decide⟩ ?F (fun _ _ _ _ _ z => Sm.cx_none z)
    case F =>
      intro w mg fa h Y G hmg0
      obtain ⟨K, KX, c, cx⟩ := Y
      have hmg : mg ("law" : PySem.Str) = some (.ref fa) := by
        have e : (HandSHeadRun.topDef (OpenLaw.row PySem.Challenge.rw_shelfmark_k33_shelves_refused).prog 41).name = ("law" : PySem.Str) := by kernel_rfl
        rw [← e]
        exact hmg0
      obtain ⟨fd, hb, hF⟩ := Sm.facts (P := (PySem.Challenge.rw_shelfmark_k33_shelves_refused).prog) (w := w) KX G hmg c cx
      exact ⟨K, fd, Sm.sp_law K, KX, hb, fun H a ns hl hO hS => Sm.law_in hO hS hl, hF⟩
