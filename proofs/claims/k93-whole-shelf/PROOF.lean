import PyProof.Rows.All
import Wide.All
import OpenK.AllK
import Wide.FinOn
import HandS.ForMost
import HandS.ForExc
import HandS.Wide
import HandS.StrMore
import HandS.SortInts
import HandS.CallSlots
import HandS.Defaults
import HandS.HeadHook1
import HandS.Walk
import HandS.Codes
import HandS.IsInst
import HandS.ExcIs
import HandS.Flow
import HandS.SortKw
import HandS.More
import HandS.SetFor
import HandS.WideBits
import HandS.Head0
import HandS.Head1
import HandS.Head2
import HandS.HeadEnd
import HandS.HeadHook2
import PySem.Challenge.RW_shelfmark_k93_whole_shelf
set_option Elab.async false
set_option linter.all false
set_option maxRecDepth 100000
set_option maxHeartbeats 8000000
/-! SmBase: forgetting new objects (Trim), calls by promises (FnG), steps. -/
namespace Sm
open PySem PySem.Spec PyProof.Rows L2

/-! ### forgetting what is new -/
def okO (H : Hp) (a : Addr) : HO → Prop
  | .dT _ => False
  | .ins _ dx _ => H dx = some (.own a)
  | .frz _ u => okO H a u
  | _ => True
/-- each tracked instance's own dict is tracked, no dict with tuple keys -/
def Clo (H : Hp) : Prop := ∀ a o, H a = some o → okO H a o
structure Trim (H H1 H2 : Hp) : Prop where
  sub : ∀ a o, H2 a = some o → H1 a = some o
  tup : ∀ a xs, H a = some (.tup xs) → H2 a = some (.tup xs)
  frz : ∀ a o u, H a = some (.frz o u) → H2 a = some (.frz o u)
  tbl : ∀ a ps, H a = some (.tbl ps) → ∃ more, H2 a = some (.tbl (ps ++ more))
  clo : Clo H2
def Ex (H H' : Hp) : Prop := ∀ a o, H a = some o → H' a = some o
theorem Ex.refl (H : Hp) : Ex H H := fun _ _ h => h
theorem Ex.trans {H H1 H2 : Hp} (a : Ex H H1) (b : Ex H1 H2) : Ex H H2 := fun x o h => b x o (a x o h)
theorem Ex.new {H H' : Hp} {p : Addr} {o : HO} (e : Ex H H') (h : H p = none) : Ex H (upd H' p o) := fun a u ha => by
  rw [upd_ne (ne_of_none ha h)]
  exact e a u ha
theorem Ex.back {H H' : Hp} {p : Addr} (e : Ex H H') (h : H' p = none) : H p = none := by
  cases q : H p with
  | none => rfl
  | some o =>
    rw [e p o q] at h
    cases h
theorem Trim.back {H H' : Hp} (e : Ex H H') (c : Clo H) : Trim H H' H :=
  ⟨e, fun _ _ h => h, fun _ _ _ h => h, fun _ ps h => ⟨#[], by rw [h, Array.append_empty]⟩, c⟩
/-- one new object stays -/
theorem Trim.keep {H H' : Hp} {p : Addr} {o : HO} (e : Ex H H') (hp : H p = none) (h : H' p = some o) (c : Clo H) (ho : okO (upd H p o) p o) : Trim H H' (upd H p o) := by
  refine ⟨fun a u q => ?_, fun a xs q => ?_, fun a ob u q => ?_, fun a ps q => ⟨#[], ?_⟩, fun a u q => ?_⟩
  · by_cases ha : a = p
    · rw [ha, upd_same] at q; cases q; rw [ha]; exact h
    · rw [upd_ne ha] at q; exact e a u q
  · rw [upd_ne (ne_of_none q hp)]; exact q
  · rw [upd_ne (ne_of_none q hp)]; exact q
  · rw [upd_ne (ne_of_none q hp), q, Array.append_empty]
  · by_cases ha : a = p
    · rw [ha, upd_same] at q; cases q; rw [ha]; exact ho
    · rw [upd_ne ha] at q
      have z := c a u q
      clear q ha
      induction u with
      | dT _ => exact z
      | ins C dx fs =>
        have z' : H dx = some (.own a) := z
        show upd H p o dx = some (.own a)
        rw [upd_ne (ne_of_none z' hp)]; exact z'
      | frz ob v ih => exact ih z
      | _ => trivial
theorem okO_objOk {P : Program} {w : World} {H H1 : Hp} {h : Heap} {a : Addr} : ∀ {o : HO}, okO H a o → ObjOk P w H1 h a o → ObjOk P w H h a o := by
  intro o
  induction o with
  | ins C dx fs =>
    intro z x
    obtain ⟨_, x2, x3, x4, x5⟩ := x
    exact ⟨z, x2, x3, x4, x5⟩
  | dT _ => intro z; exact False.elim z
  | frz ob u ih =>
    intro z x
    obtain ⟨e, q⟩ := x
    exact ⟨e, ih z q⟩
  | _ => intro _ x; exact x
theorem hok_trim {P : Program} {w : World} {H H1 H2 : Hp} {h : Heap} (t : Trim H H1 H2) (x : HOk P w H1 h) : HOk P w H2 h := fun a o e => okO_objOk (t.clo a o e) (x a o (t.sub a o e))
theorem Trim.gone {H H1 H2 : Hp} (t : Trim H H1 H2) {a : Addr} (h : H1 a = none) : H2 a = none := by
  cases q : H2 a with
  | none => rfl
  | some o =>
    rw [t.sub a o q] at h
    cases h
section
variable {X : Cx} {pins : List (Addr × Obj)} {σ σ0 : L2.St} {H H1 H2 : Hp} {s s0 : Shared}
theorem inv_trim (I0 : Inv X pins σ0 H s0) (I : Inv X pins σ H1 s) (t : Trim H H1 H2) : Inv X pins σ H2 s where
  ok := I.ok
  os := I.os
  bare := I.bare
  base := ⟨fun b o e n hb hx => I.base.keep b o e n hb hx, fun b o e n hb hx => I.base.slot b o e n hb hx, fun b o e n hx => t.gone (I.base.free b o e n hx), I.base.there,
    fun b xs e => t.tup b xs (I0.base.tups b xs e), fun b o u e => t.frz b o u (I0.base.frzs b o u e), fun b ps e => by
      obtain ⟨m1, e1⟩ := I0.base.tbls b ps e
      obtain ⟨m2, e2⟩ := t.tbl b _ e1
      exact ⟨m1 ++ m2, by rw [e2, Array.append_assoc]⟩⟩
  loc := I.loc
  cell := I.cell
  free := t.gone I.free
  freeC := fun x c e => t.gone (I.freeC x c e)
  pin := fun p hp => by
    obtain ⟨a, b, c⟩ := I.pin p hp
    exact ⟨a, t.gone b, c⟩
  hok := hok_trim t I.hok
  len := I.len
/-- a statement behind which new objects may be forgotten -/
def tTrim (t : TS) : TS := fun D σ H => t ⟨fun σ1 H1 => ∃ H2, Trim H H1 H2 ∧ D.nx σ1 H2, fun v H1 => ∃ H2, Trim H H1 H2 ∧ D.rt v H2, fun σ1 H1 => ∃ H2, Trim H H1 H2 ∧ D.bk σ1 H2, fun σ1 H1 => ∃ H2, Trim H H1 H2 ∧ D.ct σ1 H2⟩ σ H
theorem ps_trim {st : Stmt} {t : TS} (h : PS X st t) : PS X st (tTrim t) := ⟨fun pins s σ H D I q => by
  refine thn (h.run pins s σ H _ I q) fun f s' z => ?_
  cases f with
  | next =>
    obtain ⟨σ', H', I', H2, tr, d⟩ := z
    exact ⟨σ', H2, inv_trim I I' tr, d⟩
  | brk =>
    obtain ⟨σ', H', I', H2, tr, d⟩ := z
    exact ⟨σ', H2, inv_trim I I' tr, d⟩
  | cont =>
    obtain ⟨σ', H', I', H2, tr, d⟩ := z
    exact ⟨σ', H2, inv_trim I I' tr, d⟩
  | ret u =>
    obtain ⟨v, σ', H', I', r, H2, tr, d⟩ := z
    exact ⟨v, σ', H2, inv_trim I I' tr, r, d⟩⟩
def tTrimE (t : TE) : TE := fun σ H Q => t σ H fun v H1 => ∃ H2, Trim H H1 H2 ∧ Q v H2
theorem pe_trim {e : Expr} {t : TE} (h : PE X e t) : PE X e (tTrimE t) := ⟨fun pins s σ H Q I q => by
  refine thn (h.run pins s σ H _ I q) fun f s' z => ?_
  obtain ⟨v, H', I', r, H2, tr, d⟩ := z
  exact ⟨v, H2, inv_trim I I' tr, r, d⟩⟩
end

/-- what a state's tuples, locked things stay in -/
structure Rst (H0 H : Hp) : Prop where
  ex : ∀ a o, H0 a = some o → H a = some o
  tup : ∀ a xs, H a = some (.tup xs) → H0 a = some (.tup xs)
  frz : ∀ a o u, H a = some (.frz o u) → H0 a = some (.frz o u)
  tbl : ∀ a ps, H a = some (.tbl ps) → H0 a = some (.tbl ps)
def softO : HO → Bool
  | .tup _ => false
  | .frz _ _ => false
  | .tbl _ => false
  | _ => true
theorem Rst.refl (H : Hp) : Rst H H := ⟨fun _ _ h => h, fun _ _ h => h, fun _ _ _ h => h, fun _ _ h => h⟩
theorem Rst.new {H0 H : Hp} {p : Addr} {o : HO} (r : Rst H0 H) (h : H0 p = none) (s : softO o = true) : Rst H0 (upd H p o) := by
  refine ⟨fun a u q => ?_, fun a xs q => ?_, fun a ob u q => ?_, fun a ps q => ?_⟩
  · rw [upd_ne (ne_of_none q h)]; exact r.ex a u q
  · by_cases ha : a = p
    · rw [ha, upd_same] at q; cases q; cases s
    · rw [upd_ne ha] at q; exact r.tup a xs q
  · by_cases ha : a = p
    · rw [ha, upd_same] at q; cases q; cases s
    · rw [upd_ne ha] at q; exact r.frz a ob u q
  · by_cases ha : a = p
    · rw [ha, upd_same] at q; cases q; cases s
    · rw [upd_ne ha] at q; exact r.tbl a ps q
theorem Trim.to {H0 H H1 H2 : Hp} (r : Rst H0 H) (e : Ex H0 H2) (s : Ex H2 H1) (c : Clo H2) : Trim H H1 H2 :=
  ⟨s, fun a xs h => e a _ (r.tup a xs h), fun a o u h => e a _ (r.frz a o u h), fun a ps h => ⟨#[], by rw [e a _ (r.tbl a ps h), Array.append_empty]⟩, c⟩
theorem Trim.refl {H : Hp} (c : Clo H) : Trim H H H := Trim.to (Rst.refl H) (Ex.refl H) (Ex.refl H) c
/-- nothing that is tracked is a hard one -/
theorem clo_upd {H : Hp} {p : Addr} {o : HO} (c : Clo H) (hp : H p = none) (ho : okO (upd H p o) p o) : Clo (upd H p o) := (Trim.keep (H' := upd H p o) (Ex.new (Ex.refl H) hp) hp upd_same c ho).clo
/-- a thing at p that owns nothing is replaced -/
def plainO : HO → Bool
  | .lst _ => true
  | .tup _ => true
  | .dK _ => true
  | .set _ _ => true
  | .xd _ => true
  | .rng _ _ => true
  | .ext _ => true
  | _ => false
theorem okO_plain {H : Hp} {p : Addr} {o : HO} (h : plainO o = true) : okO H p o := by
  cases o with
  | dT _ => cases h
  | ins _ _ _ => cases h
  | frz _ _ => cases h
  | _ => trivial
theorem clo_new {H : Hp} {p : Addr} {o : HO} (c : Clo H) (hp : H p = none) (ho : plainO o = true) : Clo (upd H p o) := clo_upd c hp (okO_plain ho)
theorem okO_upd {H : Hp} {p a : Addr} {o : HO} (np : ∀ x, H p ≠ some (.own x)) : ∀ {u : HO}, okO H a u → okO (upd H p o) a u := by
  intro u
  induction u with
  | dT _ => intro z; exact z
  | ins C dx fs =>
    intro z
    have z' : H dx = some (.own a) := z
    show upd H p o dx = some (.own a)
    rw [upd_ne (fun e => np a (by rw [← e]; exact z'))]
    exact z'
  | frz ob v ih => intro z; exact ih z
  | _ => intro _; trivial
theorem clo_set {H : Hp} {p : Addr} {o : HO} (c : Clo H) (np : ∀ x, H p ≠ some (.own x)) (ho : plainO o = true) : Clo (upd H p o) := fun a u q => by
  by_cases ha : a = p
  · rw [ha, upd_same] at q; cases q; rw [ha]; exact okO_plain ho
  · rw [upd_ne ha] at q
    exact okO_upd np (c a u q)
theorem Ex.both {H H' : Hp} {p : Addr} {o : HO} (e : Ex H H') : Ex (upd H p o) (upd H' p o) := fun a u h => by
  by_cases ha : a = p
  · rw [ha, upd_same] at h ⊢; exact h
  · rw [upd_ne ha] at h ⊢; exact e a u h
theorem ne_fresh {H : Hp} {a b : Addr} (h : H a ≠ none) (h' : H b = none) : a ≠ b := fun e => h (by rw [e]; exact h')
theorem tr_some {H : Hp} {a : Addr} {o : HO} (h : H a = some o) : H a ≠ none := by rw [h]; exact fun z => nomatch z
theorem tr_same {H : Hp} {a : Addr} {o : HO} : upd H a o a ≠ none := tr_some upd_same
theorem tr_upd {H : Hp} {a b : Addr} {o : HO} (h : H b ≠ none) : upd H a o b ≠ none := by
  by_cases e : b = a
  · rw [e]; exact tr_same
  · rw [upd_ne e]; exact h
/-- all but the last new thing forgotten -/
theorem Trim.last {H0 H H' : Hp} {p : Addr} {o : HO} (r : Rst H0 H) (e : Ex H0 H') (hp : H0 p = none) (c : Clo H0) (ho : plainO o = true) : Trim H (upd H' p o) (upd H0 p o) :=
  Trim.to r (Ex.new (Ex.refl _) hp) (Ex.both e) (clo_new c hp ho)
theorem Trim.base {H0 H H' : Hp} (r : Rst H0 H) (e : Ex H0 H') (c : Clo H0) : Trim H H' H0 := Trim.to r (Ex.refl _) e c
theorem upd_self {H : Hp} {p : Addr} {o : HO} (h : H p = some o) : upd H p o = H := by
  funext b
  by_cases e : b = p
  · rw [e, upd_same, h]
  · rw [upd_ne e]
/-- a list that was laid ahead and has grown stays -/
theorem Trim.grown {H H' : Hp} {p : Addr} {xs ys : List V} (hp : H p = none) (e : Ex H H') (h : H' p = some (.lst ys)) (c : Clo H) : Trim (upd H p (.lst xs)) H' (upd H p (.lst ys)) := by
  have k := Trim.keep (H' := H') e hp h c (okO_plain rfl)
  refine ⟨k.sub, fun a zs q => ?_, fun a ob u q => ?_, fun a ps q => ⟨#[], ?_⟩, k.clo⟩
  · by_cases ha : a = p
    · rw [ha, upd_same] at q; cases q
    · rw [upd_ne ha] at q ⊢; exact q
  · by_cases ha : a = p
    · rw [ha, upd_same] at q; cases q
    · rw [upd_ne ha] at q ⊢; exact q
  · by_cases ha : a = p
    · rw [ha, upd_same] at q; cases q
    · rw [upd_ne ha] at q ⊢; rw [q, Array.append_empty]
/-- what a list's own change, a new object leave -/
abbrev Kp (H H' : Hp) : Prop := Trim H H' H'
theorem Kp.refl {H : Hp} (c : Clo H) : Kp H H := Trim.refl c
theorem Kp.trans {H H1 H2 : Hp} (a : Kp H H1) (b : Kp H1 H2) : Kp H H2 := by
  refine ⟨fun _ _ h => h, fun x xs h => b.tup x xs (a.tup x xs h), fun x o u h => b.frz x o u (a.frz x o u h), fun x ps h => ?_, b.clo⟩
  obtain ⟨m1, e1⟩ := a.tbl x ps h
  obtain ⟨m2, e2⟩ := b.tbl x _ e1
  exact ⟨m1 ++ m2, by rw [e2, Array.append_assoc]⟩
theorem Kp.set {H : Hp} {p : Addr} {xs : List V} {o : HO} (c : Clo H) (hp : H p = some (.lst xs)) (ho : plainO o = true) : Kp H (upd H p o) := by
  refine ⟨fun _ _ h => h, fun a ys h => ?_, fun a ob u h => ?_, fun a ps h => ⟨#[], ?_⟩, clo_set c (fun x z => by rw [hp] at z; cases z) ho⟩
  · rw [upd_ne (fun e => by rw [e, hp] at h; cases h)]; exact h
  · rw [upd_ne (fun e => by rw [e, hp] at h; cases h)]; exact h
  · rw [upd_ne (fun e => by rw [e, hp] at h; cases h), h, Array.append_empty]
theorem Kp.new {H : Hp} {p : Addr} {o : HO} (c : Clo H) (hp : H p = none) (ho : plainO o = true) : Kp H (upd H p o) :=
  Trim.to (Rst.refl H) (Ex.new (Ex.refl H) hp) (Ex.refl _) (clo_new c hp ho)
theorem Kp.ex {H H' : Hp} (e : Ex H H') (c : Clo H') : Kp H H' := Trim.to (Rst.refl H) e (Ex.refl _) c
theorem clo_only {H : Hp} (h : Only H) : Clo H := fun a o e => by
  rcases h a with z | ⟨ob, xs, z⟩
  · rw [z] at e; cases e
  · rw [z] at e; cases e; trivial

/-! ### own defs by name -/
structure FnG (P : Program) (w : World) (K : PySem.W.Frag) (mg : Str → Option Value) (base : Heap) (CX : CXT) (x : Str) (ps : List Str) (k : Nat) (sp : Sp) : Prop where
  ex : ∃ f fd, mg x = some (.ref f) ∧ PySem.W.keepIn K (.ref f) = true ∧ Binds K fd ps [] ∧ FnOk P w K mg base CX k f fd ps sp
section
variable {X : Cx} {CX : CXT} {j k : Nat} {ps : List Str} {sp : Sp} {x : Str} {p pos : Pos} {e : Expr} {es : List Expr} {t : TA} {E : XK}
theorem pe_G (G : FnG X.prog X.w X.K X.mg X.base CX x ps k sp) (hr : Room j X.A) (hjk : k ≤ j) (hg : Gl X x) (hx : Passes CX X E) (ha : PA X (e :: es) t)
    (hdb : (x == ("__debug__" : Str)) = false := by decide) (he : starEach (e :: es) X.env = (false, eval e X.env) :: starEach es X.env := by rfl) (hpl : (backTo pos (starEach es X.env)).any (·.1) = false := by rfl) :
    PE X (.Call (.Name x p) (e :: es) [] pos) (tCall sp [] E t) := by
  obtain ⟨f, fd, hm, hk, hb, F⟩ := G.ex
  exact pe_call F (hr.mono hjk) hg hm hk hb .nil hx ha hdb he hpl
theorem pe_G0 (G : FnG X.prog X.w X.K X.mg X.base CX x ps k sp) (hr : Room j X.A) (hjk : k ≤ j) (hg : Gl X x) (hx : Passes CX X E) (hdb : (x == ("__debug__" : Str)) = false := by decide) :
    PE X (.Call (.Name x p) [] [] pos) (tCall sp [] E tNil) := by
  obtain ⟨f, fd, hm, hk, hb, F⟩ := G.ex
  exact pe_call0 F (hr.mono hjk) hg hm hk hb .nil hx hdb
end

/-! ### blocks, tests that forget -/
section
variable {X : Cx}
theorem pss_trim {st : List Stmt} {t : TS} (h : PSs X st t) : PSs X st (tTrim t) := ⟨fun pins s σ H D I q => by
  refine thn (h.run pins s σ H _ I q) fun f s' z => ?_
  cases f with
  | next =>
    obtain ⟨σ', H', I', H2, tr, d⟩ := z
    exact ⟨σ', H2, inv_trim I I' tr, d⟩
  | brk =>
    obtain ⟨σ', H', I', H2, tr, d⟩ := z
    exact ⟨σ', H2, inv_trim I I' tr, d⟩
  | cont =>
    obtain ⟨σ', H', I', H2, tr, d⟩ := z
    exact ⟨σ', H2, inv_trim I I' tr, d⟩
  | ret u =>
    obtain ⟨v, σ', H', I', r, H2, tr, d⟩ := z
    exact ⟨v, σ', H2, inv_trim I I' tr, r, d⟩⟩
def tTrimT (t : TT) : TT := fun σ H Q => t σ H fun b H1 => ∃ H2, Trim H H1 H2 ∧ Q b H2
theorem pt_trim {e : Expr} {t : TT} (h : PT X e t) : PT X e (tTrimT t) := ⟨fun pins s σ H Q I q => by
  refine thn (h.run pins s σ H _ I q) fun b s' z => ?_
  obtain ⟨H', I', H2, tr, d⟩ := z
  exact ⟨H2, inv_trim I I' tr, d⟩⟩
theorem pe_GS {k j : Nat} {ps : List Str} {sp : Sp} {x : Str} {p pos : Pos} {e : Expr} {es : List Expr} {t : TA} {E : L2.St → XK} (G : FnG X.prog X.w X.K X.mg X.base (L2.CX X.prog X.w) x ps k sp) (hr : Room j X.A) (hjk : k ≤ j) (hg : Gl X x) (hx : ∀ σ, PassesAt (L2.CX X.prog X.w) X σ (E σ)) (ha : PA X (e :: es) t)
    (hdb : (x == ("__debug__" : Str)) = false := by decide) (he : starEach (e :: es) X.env = (false, eval e X.env) :: starEach es X.env := by rfl) (hpl : (backTo pos (starEach es X.env)).any (·.1) = false := by rfl) :
    PE X (.Call (.Name x p) (e :: es) [] pos) (tCallSD sp [] E t) := by
  obtain ⟨f, fd, hm, hk, hb, F⟩ := G.ex
  exact pe_callSD F (hr.mono hjk) hg hm hk hb .nil hx ha hdb he hpl
end
/-- a meeting of ways: Mid holds behind the first statement -/
def tMeet (t u : TS) : TS := fun D σ H => ∃ Mid : L2.St → Hp → Prop, t { D with nx := Mid } σ H ∧ ∀ σ1 H1, Mid σ1 H1 → u D σ1 H1
theorem pss_meet {X : Cx} {st : Stmt} {rest : List Stmt} {t u : TS} (h1 : PS X st t) (h2 : PSs X rest u) : PSs X (st :: rest) (tMeet t u) := ⟨fun pins s σ H D I h => by
  obtain ⟨Mid, a, b⟩ := h
  refine wpAny_execs_cons (thn (h1.run pins s σ H _ I a) fun f s1 hf => ?_)
  cases f with
  | next =>
    obtain ⟨σ1, H1, I1, q⟩ := hf
    exact h2.run pins s1 σ1 H1 D I1 (b σ1 H1 q)
  | brk => exact hf
  | cont => exact hf
  | ret v => exact hf⟩
/-! ### readings by name -/
abbrev rInsert : V → List V → Hp → VK → Prop := fun x vs H Q => ∃ (l : Addr) (xs : List V) (i : Int) (y : V), x = .ref l ∧ vs = [.int i, y] ∧ H l = some (.lst xs) ∧ xs.length < sizeLine ∧ 0 ≤ i ∧ i < 2 ^ 63 ∧ Q .non (upd H l (.lst (xs.take i.toNat ++ [y] ++ xs.drop i.toNat)))
abbrev rStrI : List V → Hp → VK → Prop := fun xs H Q => ∃ i : Int, xs = [.int i] ∧ i.natAbs.log2 < 1920 ∧ Q (.str (toString i)) H
abbrev rAddI : R2 := rI0 fun i j => .int (i + j)
abbrev rSubI : R2 := rI0 fun i j => .int (i - j)
abbrev rMulW : R2 := rI CMulW fun i j => .int (i * j)
abbrev rDivW : R2 := rI CDivW fun i j => .int (i / j)
abbrev rModI : R2 := rI (fun _ j => 0 < j) fun i j => .int (i % j)
abbrev rPowI : R2 := rI CPow fun i j => .int (i ^ j.toNat)
abbrev rShrI : R2 := rI (fun _ j => 0 ≤ j) fun i j => .int (i / 2 ^ j.toNat)
abbrev rLtI : R2 := rI0 fun i j => .bl (decide (i < j))
abbrev rLeI : R2 := rI0 fun i j => .bl (decide (i ≤ j))
abbrev rGtI : R2 := rI0 fun i j => .bl (decide (j < i))
abbrev rGeI : R2 := rI0 fun i j => .bl (decide (j ≤ i))
abbrev rLtS : R2 := fun x y H Q => ∃ i j, x = .str i ∧ y = .str j ∧ Q (.bl (decide (i.cps.toList < j.cps.toList))) H
abbrev rLeS : R2 := fun x y H Q => ∃ i j, x = .str i ∧ y = .str j ∧ Q (.bl (!decide (j.cps.toList < i.cps.toList))) H
abbrev rGtS : R2 := fun x y H Q => ∃ i j, x = .str i ∧ y = .str j ∧ Q (.bl (decide (j.cps.toList < i.cps.toList))) H
abbrev rGeS : R2 := fun x y H Q => ∃ i j, x = .str i ∧ y = .str j ∧ Q (.bl (!decide (i.cps.toList < j.cps.toList))) H
abbrev rAddS1 : R2 := fun x y H Q => ∃ i j, x = .str i ∧ y = .str j ∧ i.length + j.length ≤ sizeLine ∧ Q (.str (i ++ j)) H
abbrev rInC : R2 := fun x y H Q => ∃ (c : Nat) (z : Str), x = .str ⟨#[c]⟩ ∧ y = .str z ∧ Q (.bl (decide (c ∈ z.cps.toList))) H
abbrev rNotInC : R2 := fun x y H Q => ∃ (c : Nat) (z : Str), x = .str ⟨#[c]⟩ ∧ y = .str z ∧ Q (.bl (!decide (c ∈ z.cps.toList))) H
abbrev rNotN : R2 := fun x y H Q => y = .non ∧ Q (.bl (!decide (x = .non))) H
abbrev rIsN : R2 := fun x y H Q => y = .non ∧ Q (.bl (decide (x = .non))) H
abbrev rNegI : V → Hp → VK → Prop := rU fun i => .int (-i)
abbrev rLenQ (K : PySem.W.Frag) : List V → Hp → VK → Prop := fun xs H Q => ∃ p ys, xs = [.ref p] ∧ (SqL K H p ys ∨ SqT K H p ys) ∧ Q (.int ys.length) H
abbrev rLenS1 : List V → Hp → VK → Prop := fun xs H Q => ∃ z, xs = [.str z] ∧ z.length ≤ sizeLine ∧ Q (.int z.length) H
abbrev rListQ (K : PySem.W.Frag) : List V → Hp → VK → Prop := fun xs H Q => ∃ p ys, xs = [.ref p] ∧ (SqL K H p ys ∨ SqT K H p ys) ∧ ∀ l, H l = none → Q (.ref l) (upd H l (.lst ys))
abbrev rDivmod : List V → Hp → VK → Prop := fun xs H Q => ∃ i j, xs = [.int i, .int j] ∧ CDiv i j ∧ ∀ p, H p = none → Q (.ref p) (upd H p (.tup [.int (i / j), .int (i % j)]))
abbrev rMin2 : List V → Hp → VK → Prop := fun xs H Q => ∃ i j, xs = [.int i, .int j] ∧ Q (.int (if j < i then j else i)) H
abbrev rMax2 : List V → Hp → VK → Prop := fun xs H Q => ∃ i j, xs = [.int i, .int j] ∧ Q (.int (if j > i then j else i)) H
abbrev rInt1 : List V → Hp → VK → Prop := fun xs H Q => (∃ i, xs = [.int i] ∧ Q (.int i) H) ∨ ∃ k, xs = [.bl k] ∧ Q (.int (if k then 1 else 0)) H
abbrev rJoin (K : PySem.W.Frag) : V → List V → Hp → VK → Prop := fun x xs H Q => ∃ a p, ∃ ys : List Str, x = .str a ∧ xs = [.ref p] ∧ (SqL K H p (ys.map V.str) ∨ SqT K H p (ys.map V.str)) ∧ (ys.map (·.length)).sum + ys.length * a.length ≤ 16777216 ∧ Q (.str (Txt.join a ys)) H
abbrev rSlX : V → Option Int → Option Int → Hp → VK → Prop := fun x lo hi H Q => ∃ z, x = .str z ∧ z.length ≤ sizeLine ∧ Q (.str (Txt.slice z lo hi)) H
abbrev rRstrip : V → List V → Hp → VK → Prop := fun x xs H Q => ∃ a b, x = .str a ∧ xs = [.str b] ∧ a.length ≤ sizeLine ∧ Q (.str (Txt.rstripChars a b)) H
abbrev tTru (K : PySem.W.Frag) (ta : TE) : TT := fun σ H Q => ta σ H fun x H' => ∃ k, TruV K x H' k ∧ Q k H'
def tTry (K : PySem.W.Frag) (c : Value) (ts : Addr → Value → Option Addr → TS) (Wout : WX) (tb : WX → TS) : TS := fun D σ H => tb (wOnly K c ts Wout D) D σ H
def tTryAs (K : PySem.W.Frag) (c : Value) (i : Nat) (ts : Addr → Value → Option Addr → TS) (Wout : WX) (tb : WX → TS) : TS := fun D σ H => tb (wAs K c i ts Wout D) D σ H
def tRaiseO (K : PySem.W.Frag) (x : Str) (W : WX) : TS := fun _ σ H => W (.ref (He.ga K x)) none σ H
section
variable {X : Cx} {x n : Str} {c : Value} {i : Nat} {body suite : List Stmt} {b₀ : Stmt} {np pos pos' : Pos} {tb : WX → TS} {ts : Addr → Value → Option Addr → TS} {Wout : WX}
theorem ps_try1 (hs : X.stack = X.env :: X.outer) (hf : X.env.frame = some X.env.locals) (hc : Names X x c) (tk : Takes X Wout)
    (hb : ∀ (W : WX) (pn : List (Addr × Obj)) (xe : Value → Shared → Prop), Takes (X.tr pn xe) W → PassesOwn (model X.prog X.w) X.A X.env xe → PSs (X.tr pn xe) body (tb W))
    (hsu : ∀ (a : Addr) (oe : Obj) (cls : Value) (d : Option Addr) (pn : List (Addr × Obj)), Zc cls d oe → (∃ vs, oe.data = .fields vs) → PSs (X.suite a ((a, oe) :: pn)) (b₀ :: suite) (ts a cls d)) :
    PS X (.Try body [.ExceptHandler (some (.Name x np)) none (b₀ :: suite) pos'] [] [] pos) (tTry X.K c ts Wout tb) := ps_try_only hs hf hc tk hb hsu
theorem ps_try1As (hs : X.stack = X.env :: X.outer) (hf : X.env.frame = some X.env.locals) (hN : X.N.Nodup) (hi : X.N[i]? = some n) (hln : X.env.kindOf n = some .local) (hc : Names X x c) (tk : Takes X Wout)
    (hb : ∀ (W : WX) (pn : List (Addr × Obj)) (xe : Value → Shared → Prop), Takes (X.tr pn xe) W → PassesOwn (model X.prog X.w) X.A X.env xe → PSs (X.tr pn xe) body (tb W))
    (hsu : ∀ (a : Addr) (oe : Obj) (cls : Value) (d : Option Addr) (pn : List (Addr × Obj)), Zc cls d oe → (∃ vs, oe.data = .fields vs) → PSs (X.suite a ((a, oe) :: pn)) (b₀ :: suite) (ts a cls d)) :
    PS X (.Try body [.ExceptHandler (some (.Name x np)) (some n) (b₀ :: suite) pos'] [] [] pos) (tTryAs X.K c i ts Wout tb) := ps_try_as hs hf hN hi hln hc tk hb hsu
end
/-- a statement that needs a fact of what stands -/
def tWhen (c : Prop) (t : TS) : TS := fun D σ H => c ∧ t D σ H
theorem pss_when {X : Cx} {st : List Stmt} {c : Prop} {t : TS} (h : c → PSs X st t) : PSs X st (tWhen c t) := ⟨fun pins s σ H D I q => (h q.1).run pins s σ H D I q.2⟩
/-! ### own rules -/
def chars (z : Str) : List Str := z.cps.toList.map fun c => ⟨#[c]⟩
abbrev rListS : List V → Hp → VK → Prop := fun xs H Q => ∃ z, xs = [.str z] ∧ z.length ≤ sizeLine ∧ ∀ l, H l = none → Q (.ref l) (upd H l (.lst ((chars z).map V.str)))
section
variable {X : Cx}
theorem Room.units65 {k : Nat} {A : Around} (r : Room k A) : A.units + 65 < cLine := by have := r.un; omega
/-- s.index(c), found -/
def rIndexS : L2.St → V → List V → Hp → VK → Prop := fun _ x xs H Q => ∃ (a b : Str) (k : Nat), x = .str a ∧ xs = [.str b] ∧ Txt.index0 a b = some k ∧ Q (.int (k : Nat)) H
theorem mt_indexS (hc : X.calm = true) : MtS X "str.index" rIndexS := fun pins s σ H x xs v us Q I rx rs h => by
  obtain ⟨a, b, k, e1, e2, e3, q⟩ := h
  exact mt_indexX hc takes0 pins s σ H x xs v us Q I rx rs ⟨a, b, e1, e2, fun k' e => by rw [e3] at e; cases e; exact q, fun e => by rw [e3] at e; cases e⟩
theorem paired_ix {α β : Type} {F : α → β → Prop} : ∀ {xs : List α} {ys : List β}, xs.length = ys.length → (∀ (i : Nat) (x : α) (y : β), xs[i]? = some x → ys[i]? = some y → F x y) → Paired F xs ys
  | [], [], _, _ => .nil
  | [], _ :: _, h, _ => by cases h
  | _ :: _, [], h, _ => by cases h
  | x :: xs, y :: ys, h, k => .cons (k 0 x y rfl rfl) (paired_ix (Nat.succ.inj h) fun i a b ha hb => k (i + 1) a b (by simpa using ha) (by simpa using hb))
theorem call_listS (hc : X.calm = true) : CallR X (.type "list") rListS := by
  intro pins s σ H xs us Q I r h
  obtain ⟨z, rfl, hz, q⟩ := h
  obtain ⟨u, rfl, t, rfl⟩ := vals1 r
  refine PySem.call_list_str (I.ok.hd hc) z t (fun h' tk acc c' k e it => ?_) (hn := hz)
  obtain ⟨it1, it2⟩ := it
  refine ⟨.ref s.heap.objs.size, upd H s.heap.objs.size (.lst ((chars z).map V.str)), I.laid (t' := tk) k (Nat.le_refl _) ⟨?_, acc.toList, c', ?_, e⟩, rfl, q _ (I.hok.fresh (Nat.le_refl _))⟩
  · rw [List.length_map]
    show (List.map _ _).length ≤ _
    rw [List.length_map, Array.length_toList]
    exact hz
  · refine paired_ix ?_ fun i x y hx hy => ?_
    · rw [List.length_map]
      show (List.map _ _).length = _
      rw [List.length_map, Array.length_toList, Array.length_toList, it1]
    · rw [Array.getElem?_toList] at hy
      obtain ⟨c, u, hc', rfl⟩ := it2 i y hy
      rw [List.getElem?_map] at hx
      have hx2 : (chars z)[i]? = some ⟨#[c]⟩ := by
        show (List.map _ _)[i]? = _
        rw [List.getElem?_map, Array.getElem?_toList, hc']
        rfl
      rw [hx2] at hx
      cases hx
      exact ⟨u, rfl⟩
end
/-! ### sorted, texts, any number of them -/
def sv : Value → List Nat
  | .str z _ => z.cps.toList
  | _ => []
def svS : Value → Str
  | .str z _ => z
  | _ => ⟨#[]⟩
def ltSv (v u : Value) : Bool := decide (sv v < sv u)
theorem swo_str : SrtO.Swo ltSv := by
  refine ⟨fun x y h => ?_, fun x y z h1 h2 => ?_⟩
  · have a := of_decide_eq_true (p := sv x < sv y) h
    exact decide_eq_false (p := sv y < sv x) (List.lt_asymm a)
  · have a := of_decide_eq_false (p := sv y < sv x) h1
    have b := of_decide_eq_false (p := sv z < sv y) h2
    exact decide_eq_false (p := sv z < sv x) (List.not_lt.mpr (List.le_trans (List.not_lt.mp a) (List.not_lt.mp b)))
theorem strs_mem : ∀ {vs : List Value} {ns : List Str}, StrsAre vs ns → ∀ v ∈ vs, ∃ i t, v = Value.str i t
  | _, _, .nil, v, h => absurd h (by simp)
  | _, _, .cons n t r, v, h => by
    rcases List.mem_cons.mp h with e | h
    · exact ⟨n, t, e⟩
    · exact strs_mem r v h
theorem strs_sv : ∀ {vs : List Value}, (∀ v ∈ vs, ∃ i t, v = Value.str i t) → StrsAre vs (vs.map svS)
  | [], _ => .nil
  | v :: vs, h => by
    obtain ⟨i, t, e⟩ := h v List.mem_cons_self
    subst e
    exact .cons i t (strs_sv fun u hu => h u (List.mem_cons_of_mem _ hu))
theorem sv_strs : ∀ {vs : List Value} {ns : List Str}, StrsAre vs ns → vs.map svS = ns
  | _, _, .nil => rfl
  | _, _, .cons n t r => congrArg (n :: ·) (sv_strs r)
section
variable {prog : Program} {w : World} {A : Around} {s : Shared}
theorem str_cmp {vs : List Value} {ns : List Str} (hI : StrsAre vs ns) : SrtO.Cmp prog w A s oneType' (fun p => p.1 ∈ vs) (SrtO.lt2 ltSv) := by
  intro p q hm hm'
  obtain ⟨a, t, e⟩ := strs_mem hI _ hm
  obtain ⟨b, u, e'⟩ := strs_mem hI _ hm'
  show wpAny (model prog w) A (keyLt' oneType' p.1 q.1) (fun r s' => s' = s ∧ r = ltSv p.1 q.1) (fun _ _ => False) s
  rw [e, e', keyLt'_oneType]
  exact oneLt_str ⟨rfl, rfl⟩
theorem strs_sortable {a : Addr} {vs : List Value} {ns : List Str} (hI : StrsAre vs ns) (h2 : 2 ≤ vs.length) : SrtO.SortableO prog w A s a vs ltSv := by
  intro h' _
  refine ⟨oneType', fun Q E hq => ?_, str_cmp hI⟩
  match vs, hI, h2 with
  | v1 :: v2 :: rest, hI, _ =>
    rw [keyKind_strs hI]
    exact wpAny_pure hq
  | [], _, h => exact absurd h (by decide)
  | [v], _, h => exact absurd h (by simp)
theorem strs_out {vs out : List Value} {ns : List Str} (hI : StrsAre vs ns) (hs : SrtO.Srtd ltSv out) (hb : SrtO.Stb ltSv out vs) : StrsAre out (out.map svS) ∧ (out.map svS).Perm ns ∧ (out.map svS).Pairwise fun a b => a.cps.toList ≤ b.cps.toList := by
  have hm := fun v hv => strs_mem hI v (hb.perm.mem_iff.mp hv)
  refine ⟨strs_sv hm, ?_, ?_⟩
  · have q := hb.perm.map svS
    rw [sv_strs hI] at q
    exact q
  · refine List.pairwise_map.mpr (List.Pairwise.imp_of_mem (fun {x y} hx hy h => ?_) hs)
    obtain ⟨a, t, rfl⟩ := hm x hx
    obtain ⟨b, u, rfl⟩ := hm y hy
    exact List.not_lt.mp (of_decide_eq_false (p := sv (.str b u) < sv (.str a t)) h)
end
def rSortedSO (K : PySem.W.Frag) : List V → Hp → VK → Prop := fun vs H Q => ∃ (a : Addr) (ns : List Str), vs = [V.ref a] ∧ SqL K H a (ns.map V.str) ∧
  ∀ (ns' : List Str) (p : Addr), ns'.Perm ns → (ns'.Pairwise fun a b => a.cps.toList ≤ b.cps.toList) → H p = none → Q (.ref p) (upd H p (.lst (ns'.map V.str)))
theorem cr_sortedSO {X : Cx} : CallR X (.builtin "sorted") (rSortedSO X.K) := by
  intro pins s σ H vs us Q I r h
  obtain ⟨a, ns, rfl, hs, q⟩ := h
  obtain ⟨its, rv, hl, hz⟩ := I.list hs
  rw [Vals.ref1 r]
  have hi := rv.strs
  refine SrtO.sorted_ord swo_str hl.isList (by rw [← rv.length]; exact hz) (fun h2 h₁ a' _ _ => strs_sortable hi h2) fun out h1 h2 => ?_
  obtain ⟨k1, k2, k3⟩ := strs_out hi h1 h2
  obtain ⟨ep, he'⟩ := PyProof.Rows.sortedAll_at s.heap its out.toArray
  have hlen : ((out.map svS).map V.str).length ≤ sizeLine := by
    rw [List.length_map, k2.length_eq]
    rw [List.length_map] at hz
    exact hz
  exact ⟨.ref _, upd H (s.heap.objs.size + 1) (.lst ((out.map svS).map V.str)), I.laid (t' := s.toks) (fun _ _ => PyProof.Rows.sortedAll_old) (Nat.le_succ _) ⟨hlen, out, ep, vals_of_strs k1, he'⟩, rfl, q _ _ k2 k3 (I.hok.fresh (Nat.le_succ _))⟩
/-! ### loops and comprehensions over what is walked -/
theorem walk_listF {K : PySem.W.Frag} {a : Addr} {xs : List V} : Walk (Itl K a) xs.length (fun H => SqL K H a xs) (YFn fun i => xs.getD i .non) :=
  walk_list.mono (fun _ h => h) fun i H x H' hi _ y => ⟨y.1, by show x = xs.getD i .non; rw [List.getD_eq_getElem?_getD, y.2]; rfl⟩
theorem walk_tupF {K : PySem.W.Frag} {a : Addr} {xs : List V} : Walk (Itt K a) xs.length (fun H => SqT K H a xs) (YFn fun i => xs.getD i .non) :=
  walk_tup.mono (fun _ h => h) fun i H x H' hi _ y => ⟨y.1, by show x = xs.getD i .non; rw [List.getD_eq_getElem?_getD, y.2]; rfl⟩
theorem walk_strF {z : Str} : Walk (Its z) z.cps.size (fun _ => True) (YFn fun i => .str ⟨#[z.cps.toList.getD i 0]⟩) :=
  walk_str.mono (fun _ h => h) fun i H x H' hi _ y => ⟨y.1, by
    obtain ⟨_, c, h1, h2⟩ := y
    show x = .str ⟨#[z.cps.toList.getD i 0]⟩
    rw [h2, List.getD_eq_getElem?_getD, Array.getElem?_toList, h1]; rfl⟩
theorem walk_range1 {n : Nat} : Walk (Itr 0 n) n (fun _ => True) (YFn fun i => .int (i : Int)) :=
  walk_range.mono (fun _ h => h) fun i H x H' _ _ y => ⟨y.1, by
    have e : x = .int (0 + (i : Int)) := y.2
    rw [e, Int.zero_add]⟩
theorem walk_rangeF {lo : Int} {n : Nat} : Walk (Itr lo n) n (fun _ => True) (YFn fun i => .int (lo + (i : Int))) :=
  walk_range.mono (fun _ h => h) fun i H x H' _ _ y => ⟨y.1, y.2⟩
/-- a comprehension whose turns leave nothing but the list -/
theorem lc_fn {J : It} {n : Nat} {G : Hp → Prop} {f : Nat → V} (w : Walk J n G (YFn f)) {g : TG} {tt : TT} {te : TE} {vs : List Nat} {σ : L2.St} {H1 : Hp} {D : Addr} {Qd : Hp → Prop} (b : Nat → Bool) (v : Nat → V) (hn : n ≤ 1000000)
    (hG : ∀ acc, G (upd H1 D (.lst acc)))
    (turn : ∀ i acc, i < n → acc.length ≤ i → ∀ N : Hp → Prop, (b i = true → N (upd H1 D (.lst (acc ++ [v i])))) → (b i = false → N (upd H1 D (.lst acc))) →
      g (f i) (wipe σ vs) (upd H1 D (.lst acc)) fun σ2 H2 => wipe σ2 vs = wipe σ vs ∧ tt σ2 H2 fun c H3 =>
        if c = true then te σ2 H3 fun y H4 => ∃ acc, H4 D = some (.lst acc) ∧ acc.length < sizeLine ∧ N (upd H4 D (.lst (acc ++ [y]))) else N H3)
    (hq : Qd (upd H1 D (.lst (((List.range n).filter b).map v)))) :
    ∃ W : Nat → Nat → Hp → Prop, (∃ m, W 0 m (upd H1 D (.lst []))) ∧ ∀ i m H, W i m H →
      (J.stop i H ∧ Qd H) ∨ (J.go i H ∧ ∃ Nx : Hp → Prop, (∀ H', Nx H' → ∃ m', m' < m ∧ W (i + 1) m' H') ∧ ∀ x H', J.yld i H x H' → g x (wipe σ vs) H' fun σ2 H2 => wipe σ2 vs = wipe σ vs ∧ tt σ2 H2 fun b H3 =>
        if b = true then te σ2 H3 fun y H4 => ∃ acc, H4 D = some (.lst acc) ∧ acc.length < sizeLine ∧ Nx (upd H4 D (.lst (acc ++ [y]))) else Nx H3) := by
  refine lc_it w (fun i H => H = upd H1 D (.lst (((List.range i).filter b).map v))) rfl (fun i H _ h => by rw [h]; exact hG _) ?_ (fun H h => by rw [h]; exact hq)
  rintro i x H H' hi rfl ⟨rfl, rfl⟩
  refine turn i _ hi ?_ (fun H' => H' = upd H1 D (.lst (((List.range (i + 1)).filter b).map v))) (fun hb => ?_) fun hb => ?_
  · rw [List.length_map]
    exact Nat.le_trans (List.length_filter_le _ _) (by rw [List.length_range]; exact Nat.le_refl _)
  · rw [List.range_succ, List.filter_append, List.map_append, List.filter_cons, if_pos hb]; rfl
  · rw [List.range_succ, List.filter_append, List.map_append, List.filter_cons, if_neg (by rw [hb]; decide)]
    show _ = upd H1 D (.lst (_ ++ []))
    rw [List.append_nil]
theorem filt_all {α : Type} (l : List α) : l.filter (fun _ => true) = l := List.filter_eq_self.mpr fun _ _ => rfl
/-- the turn's end -/
theorem lc_end {H1 : Hp} {D : Addr} {acc : List V} {y : V} {n : Nat} {N : Hp → Prop} (hn : acc.length ≤ n) (hz : n < 1000000) (h : N (upd H1 D (.lst (acc ++ [y])))) :
    ∃ acc', (upd H1 D (.lst acc)) D = some (.lst acc') ∧ acc'.length < sizeLine ∧ N (upd (upd H1 D (.lst acc)) D (.lst (acc' ++ [y]))) :=
  ⟨acc, upd_same, by rw [sizeLine_eq]; omega, by rw [upd_upd]; exact h⟩
theorem range_map {α : Type} (xs : List α) (d : α) : (List.range xs.length).map (fun i => xs.getD i d) = xs := by
  apply List.ext_getElem?
  intro i
  rw [List.getElem?_map]
  by_cases h : i < xs.length
  · rw [List.getElem?_range h, List.getElem?_eq_getElem h]
    show some (xs.getD i d) = _
    rw [List.getD_eq_getElem?_getD, List.getElem?_eq_getElem h]; rfl
  · rw [List.getElem?_eq_none (by rw [List.length_range]; omega), List.getElem?_eq_none (by omega)]; rfl
theorem range_filter_map {α β : Type} (xs : List α) (d : α) (b : α → Bool) (v : α → β) : ((List.range xs.length).filter fun i => b (xs.getD i d)).map (fun i => v (xs.getD i d)) = (xs.filter b).map v := by
  have e : ((List.range xs.length).filter fun i => b (xs.getD i d)).map (fun i => v (xs.getD i d)) = (((List.range xs.length).map fun i => xs.getD i d).filter b).map v := by
    rw [List.filter_map, List.map_map]; rfl
  rw [e, range_map]
section
variable {J : It} {n : Nat} {G : Hp → Prop} {f : Nat → V} {g : TG} {tb : TS} {D : Ends} {σ : L2.St} {H : Hp}
theorem for_fn (w : Walk J n G (YFn f)) (Pv : Nat → L2.St → Hp → Prop) (h0 : Pv 0 σ H) (hG : ∀ i σ' H', i ≤ n → Pv i σ' H' → G H')
    (hs : ∀ i σ' H', i < n → Pv i σ' H' → g (f i) σ' H' fun σ2 H2 => tb { D with nx := Pv (i + 1), ct := Pv (i + 1), bk := D.nx } σ2 H2) (hd : ∀ σ' H', Pv n σ' H' → D.nx σ' H') :
    ∃ W : Nat → Nat → L2.St → Hp → Prop, (∃ m, W 0 m σ H) ∧ ∀ i m σ H, W i m σ H →
      (J.stop i H ∧ D.nx σ H) ∨ (J.go i H ∧ ∃ N : L2.St → Hp → Prop, (∀ σ' H', N σ' H' → ∃ m', m' < m ∧ W (i + 1) m' σ' H') ∧ ∀ x H', J.yld i H x H' → g x σ H' fun σ2 H2 => tb { D with nx := N, ct := N, bk := D.nx } σ2 H2) :=
  for_it w Pv h0 hG (fun i x σ' H' H'' hi p y => by
    obtain ⟨e1, e2⟩ := y
    subst e1 e2
    exact hs i σ' _ hi p) hd
/-- a loop that leaves the heap as it was -/
theorem for_fix (w : Walk J n G (YFn f)) (Pv : Nat → L2.St → Prop) (hG : G H) (h0 : Pv 0 σ)
    (hs : ∀ i σ', i < n → Pv i σ' → g (f i) σ' H fun σ2 H2 => tb { D with nx := fun σ3 H3 => H3 = H ∧ Pv (i + 1) σ3, ct := fun σ3 H3 => H3 = H ∧ Pv (i + 1) σ3, bk := D.nx } σ2 H2) (hd : ∀ σ', Pv n σ' → D.nx σ' H) :
    ∃ W : Nat → Nat → L2.St → Hp → Prop, (∃ m, W 0 m σ H) ∧ ∀ i m σ H, W i m σ H →
      (J.stop i H ∧ D.nx σ H) ∨ (J.go i H ∧ ∃ N : L2.St → Hp → Prop, (∀ σ' H', N σ' H' → ∃ m', m' < m ∧ W (i + 1) m' σ' H') ∧ ∀ x H', J.yld i H x H' → g x σ H' fun σ2 H2 => tb { D with nx := N, ct := N, bk := D.nx } σ2 H2) :=
  for_fn w (fun i σ' H' => H' = H ∧ Pv i σ') ⟨rfl, h0⟩ (fun _ _ _ _ p => p.1 ▸ hG) (fun i σ' H' hi p => by
    obtain ⟨e, p⟩ := p
    subst e
    exact hs i σ' hi p) fun σ' H' p => by
    obtain ⟨e, p⟩ := p
    subst e
    exact hd σ' p
end
/-- a loop over a list, each item with P -/
theorem for_list {K : PySem.W.Frag} {a : Addr} {xs : List V} {g : TG} {tb : TS} {D : Ends} {σ : L2.St} {H : Hp} (P : V → Prop) (Pv : L2.St → Prop) (hS : SqL K H a xs) (hP : ∀ x ∈ xs, P x) (h0 : Pv σ)
    (hs : ∀ x σ', P x → Pv σ' → g x σ' H fun σ2 H2 => tb { D with nx := fun σ3 H3 => H3 = H ∧ Pv σ3, ct := fun σ3 H3 => H3 = H ∧ Pv σ3, bk := D.nx } σ2 H2) (hd : ∀ σ', Pv σ' → D.nx σ' H) :
    ∃ W : Nat → Nat → L2.St → Hp → Prop, (∃ m, W 0 m σ H) ∧ ∀ i m σ H, W i m σ H →
      ((Itl K a).stop i H ∧ D.nx σ H) ∨ ((Itl K a).go i H ∧ ∃ N : L2.St → Hp → Prop, (∀ σ' H', N σ' H' → ∃ m', m' < m ∧ W (i + 1) m' σ' H') ∧ ∀ x H', (Itl K a).yld i H x H' → g x σ H' fun σ2 H2 => tb { D with nx := N, ct := N, bk := D.nx } σ2 H2) :=
  for_fix walk_listF (fun _ => Pv) hS h0 (fun i σ' hi p => hs _ σ' (by
    show P (xs.getD i .non)
    rw [List.getD_eq_getElem?_getD, List.getElem?_eq_getElem hi]
    exact hP _ (List.getElem_mem hi)) p) hd
theorem meet_fix {t u : TS} {D : Ends} {σ : L2.St} {H : Hp} (P : L2.St → Prop) (h1 : t { D with nx := fun σ1 H1 => H1 = H ∧ P σ1 } σ H) (h2 : ∀ σ1, P σ1 → u D σ1 H) : tMeet t u D σ H :=
  ⟨fun σ1 H1 => H1 = H ∧ P σ1, h1, fun σ1 H1 p => by
    obtain ⟨e, p⟩ := p
    subst e
    exact h2 σ1 p⟩
/-- a while: P by a measure, the heap by it -/
theorem while_fn {c : TT} {tb : TS} {D : Ends} {σ : L2.St} {H : Hp} (P : Nat → L2.St → Hp → Prop) (m : Nat) (h0 : P m σ H)
    (hs : ∀ m σ' H', P m σ' H' → c σ' H' fun b H1 => if b = true then tb { D with nx := fun σ2 H2 => ∃ m', m' < m ∧ P m' σ2 H2, ct := fun σ2 H2 => ∃ m', m' < m ∧ P m' σ2 H2, bk := D.nx } σ' H1 else D.nx σ' H1)
    (mono : ∀ σ' H' (Q Q' : Bool → Hp → Prop), (∀ b H1, Q b H1 → Q' b H1) → c σ' H' Q → c σ' H' Q') : tWhile c tb D σ H := by
  refine ⟨P, ⟨m, h0⟩, fun m σ' H' p => mono σ' H' _ _ (fun b H1 q => ?_) (hs m σ' H' p)⟩
  cases b with
  | false => simpa using q
  | true =>
    have q' : tb { D with nx := fun σ2 H2 => ∃ m', m' < m ∧ P m' σ2 H2, ct := fun σ2 H2 => ∃ m', m' < m ∧ P m' σ2 H2, bk := D.nx } σ' H1 := by simpa using q
    show if true = true then _ else _
    rw [if_pos rfl]
    exact ⟨_, fun _ _ n => n, q'⟩
/-- fresh things apart -/
theorem fresh_ne {H : Hp} {p q : Addr} {o : HO} (h : upd H q o p = none) : p ≠ q := fun e => by rw [e, upd_same] at h; cases h
theorem fresh_of {H : Hp} {p q : Addr} {o : HO} (h : upd H q o p = none) : H p = none := by
  have ne := fresh_ne h
  rw [upd_ne ne] at h; exact h
theorem sqL_new {K : PySem.W.Frag} {H : Hp} {a p : Addr} {o : HO} {xs : List V} (h : SqL K H a xs) (hp : H p = none) : SqL K (upd H p o) a xs := by
  rcases h with h | h
  · rcases h with h | ⟨ob, h⟩
    · exact .inl (.inl (by rw [upd_ne (ne_of_none h hp)]; exact h))
    · exact .inl (.inr ⟨ob, by rw [upd_ne (ne_of_none h hp)]; exact h⟩)
  · exact .inr h
theorem sqL_at {K : PySem.W.Frag} {H : Hp} {p : Addr} {xs : List V} : SqL K (upd H p (.lst xs)) p xs := .inl (.inl upd_same)
theorem sqT_at {K : PySem.W.Frag} {H : Hp} {p : Addr} {xs : List V} : SqT K (upd H p (.tup xs)) p xs := .inl (.inl upd_same)
/-- a text so many times -/
def MulFit (z : Str) (n : Int) : Prop := z.length ≤ 100 ∧ -100000 ≤ n ∧ n ≤ 100000
abbrev rMulS : R2 := fun x y H Q => ∃ z n, x = .str z ∧ y = .int n ∧ MulFit z n ∧ Q (.str (Txt.mul z n)) H
theorem op_mul_str {X : Cx} : OpR X (binaryOp .Mult) rMulS := by
  intro pins s σ H x y u v Q I rx ry h
  obtain ⟨z, n, rfl, rfl, ⟨h1, h2, h3⟩, q⟩ := h
  obtain ⟨t, rfl⟩ := rx
  obtain ⟨t', rfl⟩ := ry
  have e1 : ¬ n < -(2 ^ 63 : Int) := by omega
  have e2 : ¬ n ≥ 2 ^ 63 := by omega
  refine PySem.SB.mul (x := z) (n := n) ⟨by rw [decide_eq_false e1, decide_eq_false e2]; rfl, fun h4 _ => ?_, fun h4 _ => ?_⟩ (fun t' k => ⟨.str (Txt.mul z n), H, I.tok _, ⟨_, rfl⟩, q⟩)
  · have h5 : (100 : Int) ≤ (2 ^ 63 - 1) / n := (Int.le_ediv_iff_mul_le (by omega)).mpr (by omega)
    omega
  · have h6 : z.length * n.toNat ≤ 100 * 100000 := Nat.mul_le_mul h1 (by omega)
    show decide (z.length * n.toNat > 2 ^ 24) = false
    exact decide_eq_false (by omega)
theorem rIsi_of {K : PySem.W.Frag} {x : V} {a b : String} {r : Bool} {H : Hp} {Q : VK} (h : TyX K H x (.type a)) (hb : kitB a b = some r) (q : Q (.bl r) H) : rIsi K [x, .ty b] H Q := ⟨_, _, _, _, _, rfl, .ty _, h, kit_ty hb, q⟩
section
variable {K : PySem.W.Frag} {H : Hp} {Q : VK}
theorem isi_bl_bool {b : Bool} (q : Q (.bl true) H) : rIsi K [.bl b, .ty "bool"] H Q := rIsi_of (.base (.bl _)) (by decide +kernel) q
theorem isi_int_int {i : Int} (q : Q (.bl true) H) : rIsi K [.int i, .ty "int"] H Q := rIsi_of (.base (.int _)) (by decide +kernel) q
theorem isi_int_bool {i : Int} (q : Q (.bl false) H) : rIsi K [.int i, .ty "bool"] H Q := rIsi_of (.base (.int _)) (by decide +kernel) q
theorem isi_str_str {z : Str} (q : Q (.bl true) H) : rIsi K [.str z, .ty "str"] H Q := rIsi_of (.base (.str _)) (by decide +kernel) q
theorem isi_lst {p : Addr} {xs : List V} (h : H p = some (.lst xs)) (q : Q (.bl true) H) : rIsi K [.ref p, .ty "list"] H Q := rIsi_of (.base (.lst h)) (by decide +kernel) q
end
theorem isi1 {K : PySem.W.Frag} {σ : L2.St} {x : V} {b : String} {H : Hp} {Q : VK} (h : rIsi K [x, .ty b] H Q) : tCons (tC (V.ty b)) tNil σ H (fun xs H2 => rIsi K (x :: xs) H2 Q) := h
/-! ### min, max of two texts -/
def val2 (a b : Str) (i : Nat) : Str := if i = 0 then a else b
theorem val2_at {a b : Str} {t u : Tok} {i : Nat} {v : Value} (h : (#[Value.str a t, Value.str b u] : Array Value)[i]? = some v) : ∃ k, v = .str (val2 a b i) k := by
  match i, h with
  | 0, h => exact ⟨t, (Option.some.inj h).symm⟩
  | 1, h => exact ⟨u, (Option.some.inj h).symm⟩
  | i + 2, h => simp at h
theorem cmp_strs_lt {prog : Program} {w : World} {A : Around} {P : Nat → Value → Prop} (val : Nat → Str) (hval : ∀ i v, P i v → ∃ t, v = .str (val i) t) :
    CmpOf prog w A .Lt P fun i j => decide ((val i).cps.toList < (val j).cps.toList) := by
  intro i j vi vj s Q E hi hj hQ
  obtain ⟨t, rfl⟩ := hval i vi hi
  obtain ⟨u, rfl⟩ := hval j vj hj
  exact PySem.P.lt_str hQ
theorem cmp_strs_gt {prog : Program} {w : World} {A : Around} {P : Nat → Value → Prop} (val : Nat → Str) (hval : ∀ i v, P i v → ∃ t, v = .str (val i) t) :
    CmpOf prog w A .Gt P fun i j => decide ((val j).cps.toList < (val i).cps.toList) := by
  intro i j vi vj s Q E hi hj hQ
  obtain ⟨t, rfl⟩ := hval i vi hi
  obtain ⟨u, rfl⟩ := hval j vj hj
  exact PySem.P.gt_str hQ
theorem min_two_strs {prog : Program} {w : World} {A : Around} {E : Value → Shared → Prop} {s : Shared} {a b : Str} {t u : Tok} {Q : Value → Shared → Prop} (hh : A.handled = none)
    (h : ∀ h' tk, (∀ c o, s.heap.get? c = some o → h'.get? c = some o) → Q (if b.cps.toList < a.cps.toList then .str b u else .str a t) { s with heap := h', toks := tk }) :
    wpAny (model prog w) A (call (.builtin "min") [.str a t, .str b u]) Q E s := by
  have hT : (s.heap.push { cls := .type "tuple", data := .seq #[.str a t, .str b u] }).IsTuple s.heap.objs.size #[.str a t, .str b u] := ⟨_, Heap.get?_push_size _ rfl, rfl, 0, by simp⟩
  refine call_min_two (wpAny_pyIter_tuple hT ?_)
  have hsz : (s.heap.push { cls := .type "tuple", data := .seq #[.str a t, .str b u] }).objs.size = s.heap.objs.size + 1 := Heap.size_push ..
  refine ⟨_, [_, s.heap.objs.size], [_], _, _, _, _, rfl, Walks.tuple (A := A.in1) hh _ s.heap.objs.size (by rw [hsz]; exact Nat.ne_of_lt (Nat.lt_succ_self _)) #[.str a t, .str b u],
    ⟨⟨_, Heap.get?_push_size _ rfl, rfl, rfl⟩, hT.push _⟩, fun c hc => ?_, by simp, cmp_strs_lt (val2 a b) (fun i v hv => val2_at hv), fun v h' tk hP hk => ?_⟩
  · show c < ((s.heap.push _).push _).objs.size
    rw [Heap.size_push, hsz]
    rcases List.mem_cons.mp hc with rfl | hc
    · rw [hsz]; exact Nat.lt_succ_self _
    · rcases List.mem_cons.mp hc with rfl | hc
      · exact Nat.lt_succ_of_lt (Nat.lt_succ_self _)
      · cases hc
  · have hold : ∀ c o, s.heap.get? c = some o → h'.get? c = some o := fun c o e => by
      refine hk c o (fun hm => ?_) (Heap.get?_push_of_some _ (Heap.get?_push_of_some _ e))
      rcases List.mem_cons.mp hm with e1 | hm
      · have := Heap.lt_size e; rw [e1, hsz] at this; exact Nat.lt_irrefl _ (Nat.lt_of_succ_lt this)
      · cases hm
    have := h h' tk hold
    have hv : v = if b.cps.toList < a.cps.toList then Value.str b u else Value.str a t := by
      have hP' : (#[Value.str a t, Value.str b u] : Array Value)[argBest (fun i j => decide ((val2 a b i).cps.toList < (val2 a b j).cps.toList)) 1]? = some v := hP
      by_cases hba : b.cps.toList < a.cps.toList
      · have e : argBest (fun i j => decide ((val2 a b i).cps.toList < (val2 a b j).cps.toList)) 1 = 1 := by simp [argBest, val2, hba]
        rw [e] at hP'
        rw [if_pos hba]
        exact (Option.some.inj hP').symm
      · have e : argBest (fun i j => decide ((val2 a b i).cps.toList < (val2 a b j).cps.toList)) 1 = 0 := by simp [argBest, val2, hba]
        rw [e] at hP'
        rw [if_neg hba]
        exact (Option.some.inj hP').symm
    rw [hv]; exact this
theorem max_two_strs {prog : Program} {w : World} {A : Around} {E : Value → Shared → Prop} {s : Shared} {a b : Str} {t u : Tok} {Q : Value → Shared → Prop} (hh : A.handled = none)
    (h : ∀ h' tk, (∀ c o, s.heap.get? c = some o → h'.get? c = some o) → Q (if a.cps.toList < b.cps.toList then .str b u else .str a t) { s with heap := h', toks := tk }) :
    wpAny (model prog w) A (call (.builtin "max") [.str a t, .str b u]) Q E s := by
  have hT : (s.heap.push { cls := .type "tuple", data := .seq #[.str a t, .str b u] }).IsTuple s.heap.objs.size #[.str a t, .str b u] := ⟨_, Heap.get?_push_size _ rfl, rfl, 0, by simp⟩
  refine call_max_two (wpAny_pyIter_tuple hT ?_)
  have hsz : (s.heap.push { cls := .type "tuple", data := .seq #[.str a t, .str b u] }).objs.size = s.heap.objs.size + 1 := Heap.size_push ..
  refine ⟨_, [_, s.heap.objs.size], [_], _, _, _, _, rfl, Walks.tuple (A := A.in1) hh _ s.heap.objs.size (by rw [hsz]; exact Nat.ne_of_lt (Nat.lt_succ_self _)) #[.str a t, .str b u],
    ⟨⟨_, Heap.get?_push_size _ rfl, rfl, rfl⟩, hT.push _⟩, fun c hc => ?_, by simp, cmp_strs_gt (val2 a b) (fun i v hv => val2_at hv), fun v h' tk hP hk => ?_⟩
  · show c < ((s.heap.push _).push _).objs.size
    rw [Heap.size_push, hsz]
    rcases List.mem_cons.mp hc with rfl | hc
    · rw [hsz]; exact Nat.lt_succ_self _
    · rcases List.mem_cons.mp hc with rfl | hc
      · exact Nat.lt_succ_of_lt (Nat.lt_succ_self _)
      · cases hc
  · have hold : ∀ c o, s.heap.get? c = some o → h'.get? c = some o := fun c o e => by
      refine hk c o (fun hm => ?_) (Heap.get?_push_of_some _ (Heap.get?_push_of_some _ e))
      rcases List.mem_cons.mp hm with e1 | hm
      · have := Heap.lt_size e; rw [e1, hsz] at this; exact Nat.lt_irrefl _ (Nat.lt_of_succ_lt this)
      · cases hm
    have := h h' tk hold
    have hv : v = if a.cps.toList < b.cps.toList then Value.str b u else Value.str a t := by
      have hP' : (#[Value.str a t, Value.str b u] : Array Value)[argBest (fun i j => decide ((val2 a b j).cps.toList < (val2 a b i).cps.toList)) 1]? = some v := hP
      by_cases hba : a.cps.toList < b.cps.toList
      · have e : argBest (fun i j => decide ((val2 a b j).cps.toList < (val2 a b i).cps.toList)) 1 = 1 := by simp [argBest, val2, hba]
        rw [e] at hP'
        rw [if_pos hba]
        exact (Option.some.inj hP').symm
      · have e : argBest (fun i j => decide ((val2 a b j).cps.toList < (val2 a b i).cps.toList)) 1 = 0 := by simp [argBest, val2, hba]
        rw [e] at hP'
        rw [if_neg hba]
        exact (Option.some.inj hP').symm
    rw [hv]; exact this
abbrev rMin2S : List V → Hp → VK → Prop := fun xs H Q => ∃ i j, xs = [.str i, .str j] ∧ Q (.str (if j.cps.toList < i.cps.toList then j else i)) H
abbrev rMax2S : List V → Hp → VK → Prop := fun xs H Q => ∃ i j, xs = [.str i, .str j] ∧ Q (.str (if i.cps.toList < j.cps.toList then j else i)) H
section
variable {X : Cx}
theorem call_min2S (hc : X.calm = true) : CallR X (.builtin "min") rMin2S := by
  intro pins s σ H xs us Q I r h
  obtain ⟨i, j, rfl, q⟩ := h
  obtain ⟨u, w', rfl, ⟨t, rfl⟩, ⟨t', rfl⟩⟩ := vals2 r
  refine min_two_strs (I.ok.hd hc) fun h' tk k => ⟨_, H, I.kept k, ?_, q⟩
  by_cases hj : j.cps.toList < i.cps.toList
  · rw [if_pos hj, if_pos hj]; exact ⟨_, rfl⟩
  · rw [if_neg hj, if_neg hj]; exact ⟨_, rfl⟩
theorem call_max2S (hc : X.calm = true) : CallR X (.builtin "max") rMax2S := by
  intro pins s σ H xs us Q I r h
  obtain ⟨i, j, rfl, q⟩ := h
  obtain ⟨u, w', rfl, ⟨t, rfl⟩, ⟨t', rfl⟩⟩ := vals2 r
  refine max_two_strs (I.ok.hd hc) fun h' tk k => ⟨_, H, I.kept k, ?_, q⟩
  by_cases hj : i.cps.toList < j.cps.toList
  · rw [if_pos hj, if_pos hj]; exact ⟨_, rfl⟩
  · rw [if_neg hj, if_neg hj]; exact ⟨_, rfl⟩
end
theorem range_mapF {α β : Type} (xs : List α) (d : α) (v : α → β) : (List.range xs.length).map (fun i => v (xs.getD i d)) = xs.map v := by
  have e := range_filter_map xs d (fun _ => true) v
  rw [List.filter_eq_self.mpr fun _ _ => rfl, List.filter_eq_self.mpr fun _ _ => rfl] at e
  exact e
/-! ### list(range(i, j, c)) -/
def rngL (i c : Int) (n : Nat) : List V := (List.range n).map fun (k : Nat) => .int (i + (k : Int) * c)
def tListR3 (ta : TA) : TE := fun σ H Q => ta σ H fun vs H1 => ∃ (i j c : Int) (n : Nat), vs = [.int i, .int j, .int c] ∧ RgC i j c n ∧ n ≤ 1000000 ∧ ∀ p, H1 p = none → Q (.ref p) (upd H1 p (.lst (rngL i c n)))
theorem pe_listRange3 {X : Cx} {a b c : Expr} {ta : TA} {p1 p2 q1 q2 : Pos} (hc : X.calm = true) (hgl : Gl X "list") (hml : X.mg "list" = none) (hg : Gl X "range") (hm : X.mg "range" = none) (ha : PA X [a, b, c] ta)
    (hs : starEach [a, b, c] X.env = (false, eval a X.env) :: starEach [b, c] X.env := by rfl) (hpl : (backTo q2 (starEach [b, c] X.env)).any (·.1) = false := by rfl)
    (he : starEach [.Call (.Name "range" p2) [a, b, c] [] q2] X.env = (false, eval (.Call (.Name "range" p2) [a, b, c] [] q2) X.env) :: starEach [] X.env := by rfl) :
    PE X (.Call (.Name "list" p1) [.Call (.Name "range" p2) [a, b, c] [] q2] [] q1) (tListR3 ta) := by
  refine ⟨fun pins s σ H Q I h => ?_⟩
  refine wpAny_Call_Name_kw (ld_blt I hgl hml (u := .type "list") (by rfl) ?_ (by decide) (by decide))
  refine PyProof.Rows.callWith_type1 ?_ he (by rfl)
  rw [he]
  show wpAny _ _ (spliced ((false, eval (.Call (.Name "range" p2) [a, b, c] [] q2) X.env) :: backTo q1 (starEach [] X.env))) _ _ s
  refine Calls.spliced_cons ?_
  refine wpAny_Call_Name_kw (ld_blt I hg hm (u := .type "range") (by rfl) ?_ (by decide) (by decide))
  refine PyProof.Rows.callWith_type1 (thn (ha.run q2 pins s σ H _ I h) fun us s1 ⟨vs, H1, I1, r1, q⟩ => ?_) hs hpl
  obtain ⟨i, j, k, n, e, ⟨c0, c1, c2, c3⟩, hn, q⟩ := q
  subst e
  cases r1 with
  | cons r rr =>
    cases rr with
    | cons r' rr =>
      cases rr with
      | cons r'' rr =>
        cases rr
        obtain ⟨t, rfl⟩ := r
        obtain ⟨t', rfl⟩ := r'
        obtain ⟨t'', rfl⟩ := r''
        refine call_range_3 c0 ?_ (.inl (PyProof.noPylong_small c1))
        refine Calls.spliced_nil ?_
        have I2 : Inv X pins σ H1 { s1 with heap := s1.heap.push { cls := .type "range", data := .fields #[.int i t, .int j t', .int k t''] } } := I1.kept (t' := s1.toks) fun b o e => Heap.get?_push_of_some _ e
        refine PySem.call_list_range (I2.ok.hd hc) (IsRange.new ..) c2 c3 (by omega) fun h' tk acc c' kk e it => ?_
        obtain ⟨it1, it2⟩ := it
        have hl : (rngL i k n).length = n := by
          unfold rngL
          rw [List.length_map, List.length_range]
        refine ⟨.ref _, upd H1 _ (.lst (rngL i k n)), I2.laid (t' := tk) kk (Nat.le_refl _) ⟨?_, acc.toList, c', ?_, e⟩, rfl, q _ (I2.hok.fresh (Nat.le_refl _))⟩
        · rw [hl, sizeLine_eq]; omega
        · refine paired_ix ?_ fun m x y hx hy => ?_
          · rw [hl, Array.length_toList, it1]
          · rw [Array.getElem?_toList] at hy
            obtain ⟨tt, rfl⟩ := it2 m y hy
            unfold rngL at hx
            rw [List.getElem?_map] at hx
            cases hm2 : (List.range n)[m]? with
            | none => rw [hm2] at hx; cases hx
            | some w =>
              rw [hm2] at hx
              have := List.getElem?_range (n := n) (i := m)
              have hw : w = m := by
                have hlt : m < n := by
                  rcases Nat.lt_or_ge m n with z | z
                  · exact z
                  · rw [List.getElem?_eq_none (by rw [List.length_range]; exact z)] at hm2; cases hm2
                rw [List.getElem?_range hlt] at hm2
                exact (Option.some.inj hm2).symm
              subst hw
              cases hx
              exact ⟨tt, rfl⟩
theorem gTupN2 {K : PySem.W.Frag} {a : Addr} {v w : V} {i j : Nat} {σ : L2.St} {H : Hp} {Q : L2.St → Hp → Prop} (h : SqT K H a [v, w]) (q : Q ((σ.set i (some v)).set j (some w)) H) : gTup K 2 (gCons (gName i) (gCons (gName j) gNil)) (.ref a) σ H Q :=
  ⟨a, _, rfl, h, rfl, v, _, rfl, w, _, rfl, rfl, q⟩
theorem gTupN3 {K : PySem.W.Frag} {a : Addr} {v w x : V} {i j k : Nat} {σ : L2.St} {H : Hp} {Q : L2.St → Hp → Prop} (h : SqT K H a [v, w, x]) (q : Q (((σ.set i (some v)).set j (some w)).set k (some x)) H) : gTup K 3 (gCons (gName i) (gCons (gName j) (gCons (gName k) gNil))) (.ref a) σ H Q :=
  ⟨a, _, rfl, h, rfl, v, _, rfl, w, _, rfl, x, _, rfl, rfl, q⟩
theorem tyV_list {K : PySem.W.Frag} {H : Hp} {p : Addr} {xs : List V} (h : H p = some (.lst xs)) : tyV K "list" (.ref p) H := .inl ⟨rfl, xs, .inl (.inl h)⟩
theorem app_to {H : Hp} {p : Addr} {xs : List V} {y : V} {Q : VK} (h : H p = some (.lst xs)) (hz : xs.length < sizeLine) (q : Q .non (upd H p (.lst (xs ++ [y])))) : rAppend (.ref p) [y] H Q := ⟨p, xs, y, rfl, rfl, h, hz, q⟩
theorem app_new {H : Hp} {p : Addr} {xs : List V} {y : V} {Q : VK} (hz : xs.length < sizeLine) (q : Q .non (upd H p (.lst (xs ++ [y])))) : rAppend (.ref p) [y] (upd H p (.lst xs)) Q := ⟨p, xs, y, rfl, rfl, upd_same, hz, by rw [upd_upd]; exact q⟩
theorem rev_new {H : Hp} {p : Addr} {xs : List V} {Q : VK} (q : Q .non (upd H p (.lst xs.reverse))) : rReverse (.ref p) [] (upd H p (.lst xs)) Q := ⟨p, xs, rfl, rfl, upd_same, by rw [upd_upd]; exact q⟩
/-- the end of a law: what it raises may hang on the world -/
theorem walk_ofW {l : PySem.W.OpenLaw} {n k : Nat} {q : Program} {loose : List Str} {XP : (Str → Option Value) → Heap → Prop} {YP : World → Heap → Prop} {d : DefRec} {CX : World → CXT} {x : Str} (h1 : l.most = some n) (h2 : n ≤ sizeLine) (h3 : d.params.defaults = [])
    (h4 : Room k callerA)
    (F : ∀ (w : World) (mg : Str → Option Value) (fa : Addr) (h : Heap), YP w h → h.Ns mainGlobals mg → mg d.name = some (.ref fa) → ∃ (K : PySem.W.Frag) (fd : FuncData) (sp : Sp), K.In h ∧ (∀ (s : Shared) (u : Value), BindsTo s fd ⟨[u], []⟩ [(x, u)]) ∧
      (∀ (H : Hp) (a : Addr) (ns : List Int), ns.length ≤ n → Only H → SqL K H a (ns.map V.int) → sp [.ref a] H (fun v _ => v = .bl true) fun _ _ _ => False) ∧ ∀ base : Heap, K.In base → base.Ns mainGlobals mg → FnOk l.prog w K mg base (CX w) k fa fd [x] sp)
    (h5 : ∀ (w : World) (H : Hp) (s : Shared) (e : Value) (s1 : Shared), CX w [] H s (fun _ _ _ => False) e s1 → False) : PySem.W.WalkO q loose XP YP l.row.toRowW d [] (fun f vs => PySem.call f vs) := by
  refine Att.attach_call h1 h3 ?_
  intro w s0 s1 mg mb fa o pm cd doc a vs ns G Y _ _ _ hm hob hin hln hg
  obtain ⟨K, fd, sp, kx, b1, b2, b3⟩ := F w mg fa _ Y G.T.g hm
  exact law_call kx G.T.g G.T.b G.T.builtins G.T.nolimit hg hob hin (Nat.le_trans hln h2) h4 b3 b1 (fun H y z => b2 H a ns hln y z) (fun H e s2 => h5 w H s1 e s2)
theorem cx_none {P : Program} {w : World} {l : List Env} {H : Hp} {s : Shared} {e : Value} {s1 : Shared} (h : L2.CX P w l H s (fun _ _ _ => False) e s1) : False := by
  obtain ⟨_, _, _, _, _, _, _, _, _, _, _, _, z⟩ := h
  exact z
/-! ### own classes: methods, makers -/
structure FnM (P : Program) (w : World) (K : PySem.W.Frag) (mg : Str → Option Value) (base : Heap) (CX : CXT) (C : Addr) (m : Str) (ps : List Str) (k : Nat) (sp : Sp) : Prop where
  ex : ∃ f fd, Meth K C m f ∧ Binds K fd ps [] ∧ FnOk P w K mg base CX k f fd ps sp
structure FnI (P : Program) (w : World) (K : PySem.W.Frag) (mg : Str → Option Value) (base : Heap) (CX : CXT) (C : Addr) (ps : List Str) (k : Nat) (sp : Sp) : Prop where
  ex : ∃ f fd, Mk K C f ∧ Binds K fd ps [] ∧ FnOk P w K mg base CX k f fd ps sp
/-- o.m(..) where what is raised is wished for at the caller's slots -/
def tMethSD (C : Addr) (m : Str) (sp : Sp) (E : L2.St → XK) (ta : TE) (t : TA) : TE := fun σ H Q => ta σ H fun x H1 => ∃ a dx fs, x = .ref a ∧ H1 a = some (.ins C dx fs) ∧ fs.lookup m = none ∧ t σ H1 fun vs H2 => sp (x :: (vs ++ [])) H2 Q (E σ)
def tMakeSD (C : Addr) (sp : Sp) (E : L2.St → XK) (t : TA) : TE := fun σ H Q => t σ H fun vs H1 => ∀ x dx, H1 x = none → H1 dx = none → dx ≠ x →
  sp (.ref x :: (vs ++ [])) (upd (upd H1 dx (.own x)) x (.ins C dx [])) (fun v H2 => v = .non ∧ Q (.ref x) H2) (E σ)
section
variable {X : Cx} {CX : CXT} {j k : Nat} {C : Addr} {ps : List Str} {sp : Sp} {x m : Str} {p pos apos : Pos} {e o : Expr} {es : List Expr} {ta : TE} {t : TA} {E : XK} {pl : Sem Bool}
theorem pe_Gm (G : FnM X.prog X.w X.K X.mg X.base CX C m ps k sp) (hr : Room j X.A) (hjk : k ≤ j) (he : PE X o ta) (c : Cls X.K C) (hx : Passes CX X E) (ha : PA X (e :: es) t)
    (hst : starEach (e :: es) X.env = (false, eval e X.env) :: starEach es X.env := by rfl) (hpl : (backTo pos (starEach es X.env)).any (·.1) = false := by rfl)
    (ht : eval (.Call (.Attribute o m apos) (e :: es) [] pos) X.env = (do
      let ov ← eval o X.env
      standAt apos.atName
      let (f, first) ← holding [ov] (getMethod ov m pl)
      callWith pos f first (backTo pos (starEach (e :: es) X.env)) (backToKw pos (keywordEach [] X.env))) := by rfl) :
    PE X (.Call (.Attribute o m apos) (e :: es) [] pos) (tMeth C m sp [] E ta t) := by
  obtain ⟨f, fd, hm, hb, F⟩ := G.ex
  exact pe_meth he c hm F (hr.mono hjk) hb .nil hx ha hst hpl ht
theorem pe_Gm0 (G : FnM X.prog X.w X.K X.mg X.base CX C m ps k sp) (hr : Room j X.A) (hjk : k ≤ j) (he : PE X o ta) (c : Cls X.K C) (hx : Passes CX X E)
    (ht : eval (.Call (.Attribute o m apos) [] [] pos) X.env = (do
      let ov ← eval o X.env
      standAt apos.atName
      let (f, first) ← holding [ov] (getMethod ov m pl)
      callWith pos f first (backTo pos (starEach [] X.env)) (backToKw pos (keywordEach [] X.env))) := by rfl) :
    PE X (.Call (.Attribute o m apos) [] [] pos) (tMeth C m sp [] E ta tNil) := by
  obtain ⟨f, fd, hm, hb, F⟩ := G.ex
  exact pe_meth0 he c hm F (hr.mono hjk) hb .nil hx ht
theorem pe_GM (G : FnI X.prog X.w X.K X.mg X.base CX C ps k sp) (hr : Room j X.A) (hjk : k + 1 ≤ j) (hg : Gl X x) (hm : X.mg x = some (.ref C)) (hx : Passes CX X E) (ha : PA X (e :: es) t)
    (hdb : (x == ("__debug__" : Str)) = false := by decide) (he : starEach (e :: es) X.env = (false, eval e X.env) :: starEach es X.env := by rfl) (hpl : (backTo pos (starEach es X.env)).any (·.1) = false := by rfl) :
    PE X (.Call (.Name x p) (e :: es) [] pos) (tMake C sp [] E t) := by
  obtain ⟨f, fd, M, hb, F⟩ := G.ex
  exact pe_make M F (hr.mono hjk) hg hm hb .nil hx ha hdb he hpl
end
section
variable {X : Cx} {j k : Nat} {C : Addr} {ps : List Str} {sp : Sp} {x m : Str} {p pos apos : Pos} {e o : Expr} {es : List Expr} {ta : TE} {t : TA} {E : L2.St → XK} {pl : Sem Bool}
theorem pe_GmS (G : FnM X.prog X.w X.K X.mg X.base (L2.CX X.prog X.w) C m ps k sp) (hr : Room j X.A) (hjk : k ≤ j) (he : PE X o ta) (c : Cls X.K C) (hx : ∀ σ, PassesAt (L2.CX X.prog X.w) X σ (E σ)) (ha : PA X (e :: es) t)
    (hst : starEach (e :: es) X.env = (false, eval e X.env) :: starEach es X.env := by rfl) (hpl : (backTo pos (starEach es X.env)).any (·.1) = false := by rfl)
    (ht : eval (.Call (.Attribute o m apos) (e :: es) [] pos) X.env = (do
      let ov ← eval o X.env
      standAt apos.atName
      let (f, first) ← holding [ov] (getMethod ov m pl)
      callWith pos f first (backTo pos (starEach (e :: es) X.env)) (backToKw pos (keywordEach [] X.env))) := by rfl) :
    PE X (.Call (.Attribute o m apos) (e :: es) [] pos) (tMethSD C m sp E ta t) := by
  obtain ⟨f, fd, hm, hb, F⟩ := G.ex
  refine ⟨fun pins s σ H Q I h => ?_⟩
  refine PySem.W.methodCall_KW (pl := pl) (thn (he.run pins s σ H _ I h) fun u s1 z => ?_) ht
  obtain ⟨y, H1, I1, rx, a, dx, fs, ex, ea, l, q⟩ := z
  subst ex
  obtain rfl : u = Value.ref a := rx
  refine getmeth_ok I1 ea c hm l ?_
  refine PySem.W.callWith_K (first := [.ref a]) (h₀ := X.base) I1.ok.mod.kin hm.kp (thn (ha.run pos pins s1 σ H1 _ I1 q) fun us s2 z => ?_) hst hpl
  obtain ⟨vs, H2, I2, r, q2⟩ := z
  exact ⟨I2.kIn, run_fnSD (us := .ref a :: us) (vs := .ref a :: vs) F (hr.mono hjk) hb .nil (hx σ) I2 (.cons rfl r) q2⟩
theorem pe_GmS0 (G : FnM X.prog X.w X.K X.mg X.base (L2.CX X.prog X.w) C m ps k sp) (hr : Room j X.A) (hjk : k ≤ j) (he : PE X o ta) (c : Cls X.K C) (hx : ∀ σ, PassesAt (L2.CX X.prog X.w) X σ (E σ))
    (ht : eval (.Call (.Attribute o m apos) [] [] pos) X.env = (do
      let ov ← eval o X.env
      standAt apos.atName
      let (f, first) ← holding [ov] (getMethod ov m pl)
      callWith pos f first (backTo pos (starEach [] X.env)) (backToKw pos (keywordEach [] X.env))) := by rfl) :
    PE X (.Call (.Attribute o m apos) [] [] pos) (tMethSD C m sp E ta tNil) := by
  obtain ⟨f, fd, hm, hb, F⟩ := G.ex
  refine ⟨fun pins s σ H Q I h => ?_⟩
  refine PySem.W.methodCall_KW (pl := pl) (thn (he.run pins s σ H _ I h) fun u s1 z => ?_) ht
  obtain ⟨y, H1, I1, rx, a, dx, fs, ex, ea, l, q⟩ := z
  subst ex
  obtain rfl : u = Value.ref a := rx
  refine getmeth_ok I1 ea c hm l ?_
  exact PySem.W.callWith_K0 (first := [.ref a]) I1.kIn hm.kp (run_fnSD (us := [.ref a]) (vs := [.ref a]) F (hr.mono hjk) hb .nil (hx σ) I1 (.cons rfl .nil) q)
theorem pe_GMS (G : FnI X.prog X.w X.K X.mg X.base (L2.CX X.prog X.w) C ps k sp) (hr : Room j X.A) (hjk : k + 1 ≤ j) (hg : Gl X x) (hm : X.mg x = some (.ref C)) (hx : ∀ σ, PassesAt (L2.CX X.prog X.w) X σ (E σ)) (ha : PA X (e :: es) t)
    (hdb : (x == ("__debug__" : Str)) = false := by decide) (he : starEach (e :: es) X.env = (false, eval e X.env) :: starEach es X.env := by rfl) (hpl : (backTo pos (starEach es X.env)).any (·.1) = false := by rfl) :
    PE X (.Call (.Name x p) (e :: es) [] pos) (tMakeSD C sp E t) := by
  obtain ⟨f, fd, M, hb, F⟩ := G.ex
  refine ⟨fun pins s σ H Q I h => ?_⟩
  refine wpAny_Call_Name_kw (ld_glob I hg hm ?_ hdb)
  refine PySem.W.callWith_K (h₀ := X.base) I.ok.mod.kin M.kp (thn (ha.run pos pins s σ H _ I h) fun us s1 z => ?_) he hpl
  obtain ⟨vs, H1, I1, r, q⟩ := z
  refine ⟨I1.kIn, ?_⟩
  have hq := q (s1.heap.objs.size + 1) s1.heap.objs.size (I1.hok.fresh (Nat.le_succ _)) (I1.hok.fresh (Nat.le_refl _)) (Nat.ne_of_lt (Nat.lt_succ_self _))
  have I2 := Inv.made (C := C) I1
  have r2 : Vals (V.ref (s1.heap.objs.size + 1) :: (vs ++ [])) (Value.ref (s1.heap.objs.size + 1) :: (us ++ [])) := .cons rfl (r.append .nil)
  have hl : (Value.ref (s1.heap.objs.size + 1) :: us ++ []).length = ps.length := by
    have e := r2.length
    rw [F.len _ _ _ _ hq] at e
    exact e.symm
  have hbb := hb _ (Value.ref (s1.heap.objs.size + 1) :: us) I2.kIn hl
  rw [List.cons_append] at hbb
  refine wpAny_call (make_map (f := f) I1.kIn M.makes M.init (beq_iff_eq.mp M.fn) (codeAny_mono (F.run _ X.stack _ _ ⟨Value.ref (s1.heap.objs.size + 1) :: us, []⟩ (Value.ref (s1.heap.objs.size + 1) :: (us ++ [])) _ _ (E σ) ((hr.mono hjk).make C us [])
    (I2.env0.make C us []) hbb r2 hq) fun r s' hq' => ?_))
  cases r with
  | error e => exact hx σ pins _ _ e s' I2 hq'
  | ok fl =>
    cases fl with
    | ret u =>
      obtain ⟨v, H', I3, rv, ev, q3⟩ := I2.after hq'
      subst ev
      exact ⟨rv, ⟨V.ref (s1.heap.objs.size + 1), H', I3, rfl, q3⟩⟩
    | next => exact False.elim hq'
    | brk => exact False.elim hq'
    | cont => exact False.elim hq'
end
/-! ### max(list, default=d) -/
section
variable {prog : Program} {w : World} {A : Around} {R : Result → Shared → Prop} {I : Addr} {fp wr : List Addr} {n : Nat} {P : Nat → Value → Prop} {St : Nat → Heap → Prop} {kw : List (Str × Value)}
theorem mx_loop (W : Walks prog w A.in1 I fp wr n P St) (bt : Nat → Nat → Bool) (hcmp : CmpOf prog w A.in1 .Gt P bt) (S : Addr) (hSf : S ∉ fp) :
    ∀ (k j : Nat) (s : Shared) (vb : Value) (c : Nat), n - (j + 1) = k → j + 1 ≤ n → St (j + 1) s.heap → P (argBest bt j) vb →
    s.heap.get? S = some { cls := .type "list", dict := none, data := .seq #[vb, vb] c, slots := #[] } →
    (∀ v h' tk, P (argBest bt (n - 1)) v → (∀ b o, b ∉ wr → b ≠ S → s.heap.get? b = some o → h'.get? b = some o) → R (.ok (.ret v)) { s with heap := h', toks := tk }) →
    codeAny (model prog w) A (.builtin "max.loop" ⟨[.ref I, .none, .ref S], kw⟩) R s := by
  have hSw : S ∉ wr := fun h => hSf (W.sub _ h)
  have hname : (toString "max" ++ toString ".loop" : String) = "max.loop" := by decide
  intro k
  induction k with
  | zero =>
    intro j s vb c hk hj hst hPb hS hR
    have hin : j + 1 = n := by omega
    refine codeAny_builtin F.entry_max_loop ?_
    rw [Around.under_plainId F.plain_max_loop _]
    show wpAny _ A.in1 (seqItems? (.ref S) >>= _) _ _ s
    refine wpAny_bind (wpAny_seqItems hS rfl ?_)
    show wpAny _ A.in1 (tryCatch (pyNext (.ref I)) _ >>= _) _ _ s
    refine wpAny_bind (wpAny_tryCatch (W.done s _ _ (hin ▸ hst) fun h' tk hk' => ?_))
    have hS' := hk' S _ hSw hS
    show wpAny _ A.in1 (updateSeq S (fun _ => #[]) >>= _) _ _ _
    refine wpAny_bind ?_
    refine wpAny_updateSeq hS' rfl (wpAny_bind (wpAny_letGo (wpAny_pure ?_)))
    exact hR vb _ tk (by rw [← hin]; exact hPb) fun b o hbw hbS e => (Heap.get?_update_other _ _ (Ne.symm hbS)).trans (hk' b o hbw e)
  | succ k ih =>
    intro j s vb c hk hj hst hPb hS hR
    have hlt : j + 1 < n := by omega
    refine codeAny_builtin F.entry_max_loop ?_
    rw [Around.under_plainId F.plain_max_loop _]
    show wpAny _ A.in1 (seqItems? (.ref S) >>= _) _ _ s
    refine wpAny_bind (wpAny_seqItems hS rfl ?_)
    show wpAny _ A.in1 (tryCatch (pyNext (.ref I)) _ >>= _) _ _ s
    refine wpAny_bind (wpAny_tryCatch (W.item (j + 1) s _ _ hlt hst fun v h' tk hP hst' hk' => ?_))
    have hS' := hk' S _ hSw hS
    show wpAny _ A.in1 (tryCatch (holding [v, v] (richCompare .Gt v vb >>= _)) _ >>= _) _ _ _
    refine wpAny_bind (wpAny_tryCatch (wpAny_holding (wpAny_bind (hcmp (j + 1) (argBest bt j) v vb _ _ _ hP hPb ?_))))
    refine wpAny_bind (wpAny_holding (wpAny_truthy_bool ?_))
    refine wpAny_bind (wpAny_letGo (wpAny_pure ?_))
    cases hb : bt (j + 1) (argBest bt j) with
    | true =>
      simp only [if_true]
      refine wpAny_bind ?_
      refine wpAny_updateSeq hS' rfl (wpAny_bind (wpAny_letGo ?_))
      rw [hname]
      refine wpAny_pure ⟨plainId_quiet F.plain_max_loop _, ih (j + 1) _ v _ (by omega) hlt (W.frame _ _ _ hst' fun b hbf o e => ?_) (by simp only [argBest, hb, if_true]; exact hP) (Heap.get?_update_self _ hS' rfl) fun v' h'' tk'' hP' hk'' => ?_⟩
      · exact (Heap.get?_update_other _ _ (fun h : S = b => hSf (by rw [h]; exact hbf))).trans e
      · exact hR v' h'' tk'' hP' fun b o hbw hbS e => hk'' b o hbw hbS ((Heap.get?_update_other _ _ (Ne.symm hbS)).trans (hk' b o hbw e))
    | false =>
      simp only [Bool.false_eq_true, if_false]
      refine wpAny_bind (wpAny_letGo ?_)
      rw [hname]
      refine wpAny_pure ⟨plainId_quiet F.plain_max_loop _, ih (j + 1) _ vb c (by omega) hlt hst' (by simp only [argBest, hb, Bool.false_eq_true, if_false]; exact hPb) hS' fun v' h'' tk'' hP' hk'' => ?_⟩
      exact hR v' h'' tk'' hP' fun b o hbw hbS e => hk'' b o hbw hbS (hk' b o hbw e)
theorem mx_first (W : Walks prog w A.in1 I fp wr n P St) (bt : Nat → Nat → Bool) (hcmp : CmpOf prog w A.in1 .Gt P bt) (S : Addr) (hSf : S ∉ fp) (hn : 0 < n) {s : Shared} {c : Nat} (hst : St 0 s.heap)
    (hS : s.heap.get? S = some { cls := .type "list", dict := none, data := .seq #[] c, slots := #[] })
    (hR : ∀ v h' tk, P (argBest bt (n - 1)) v → (∀ b o, b ∉ wr → b ≠ S → s.heap.get? b = some o → h'.get? b = some o) → R (.ok (.ret v)) { s with heap := h', toks := tk }) :
    codeAny (model prog w) A (.builtin "max.loop" ⟨[.ref I, .none, .ref S], kw⟩) R s := by
  have hSw : S ∉ wr := fun h => hSf (W.sub _ h)
  have hname : (toString "max" ++ toString ".loop" : String) = "max.loop" := by decide
  refine codeAny_builtin F.entry_max_loop ?_
  rw [Around.under_plainId F.plain_max_loop _]
  show wpAny _ A.in1 (seqItems? (.ref S) >>= _) _ _ s
  refine wpAny_bind (wpAny_seqItems hS rfl ?_)
  show wpAny _ A.in1 (tryCatch (pyNext (.ref I)) _ >>= _) _ _ s
  refine wpAny_bind (wpAny_tryCatch (W.item 0 s _ _ hn hst fun v h' tk hP hst' hk' => ?_))
  have hS' := hk' S _ hSw hS
  show wpAny _ A.in1 (updateSeq S (fun _ => #[v, v]) >>= _) _ _ _
  refine wpAny_bind ?_
  refine wpAny_updateSeq hS' rfl ?_
  rw [hname]
  refine wpAny_pure ⟨plainId_quiet F.plain_max_loop _, mx_loop W bt hcmp S hSf _ 0 _ v _ rfl hn (W.frame _ _ _ hst' fun b hbf o e => ?_) hP (Heap.get?_update_self _ hS' rfl) fun v' h'' tk'' hP' hk'' => ?_⟩
  · exact (Heap.get?_update_other _ _ (fun h : S = b => hSf (by rw [h]; exact hbf))).trans e
  · exact hR v' h'' tk'' hP' fun b o hbw hbS e => hk'' b o hbw hbS ((Heap.get?_update_other _ _ (Ne.symm hbS)).trans (hk' b o hbw e))
/-- nothing to walk: the default -/
theorem mx_none {d : Value} {kn : Str} (W : Walks prog w A.in1 I fp wr 0 P St) (S : Addr) (hSf : S ∉ fp) {s : Shared} {c : Nat} (hst : St 0 s.heap)
    (hS : s.heap.get? S = some { cls := .type "list", dict := none, data := .seq #[] c, slots := #[] })
    (hR : ∀ h' tk, (∀ b o, b ∉ wr → s.heap.get? b = some o → h'.get? b = some o) → R (.ok (.ret d)) { s with heap := h', toks := tk }) :
    codeAny (model prog w) A (.builtin "max.loop" ⟨[.ref I, .none, .ref S], [(kn, d)]⟩) R s := by
  have hSw : S ∉ wr := fun h => hSf (W.sub _ h)
  refine codeAny_builtin F.entry_max_loop ?_
  rw [Around.under_plainId F.plain_max_loop _]
  show wpAny _ A.in1 (seqItems? (.ref S) >>= _) _ _ s
  refine wpAny_bind (wpAny_seqItems hS rfl ?_)
  show wpAny _ A.in1 (tryCatch (pyNext (.ref I)) _ >>= _) _ _ s
  refine wpAny_bind (wpAny_tryCatch (W.done s _ _ hst fun h' tk hk' => ?_))
  exact wpAny_bind (wpAny_rule (wpAny_pure (hR h' tk hk')))
end
section
variable {prog : Program} {w : World} {A : Around} {E : Value → Shared → Prop} {s : Shared}
theorem call_tree_kw {id : String} {b : Builtin} {args : List Value} {kw : List (Str × Value)} {Q : Value → Shared → Prop} (hk : builtinKind id = none) (hp : plainId id = true)
    (hb : entryFor table id = some b) (ha : argsOk id ⟨args, kw⟩)
    (hfin : wpAny (model prog w) A.in1 (b ⟨args, kw⟩) (fun fin s' => match fin with
      | .done f => (match (Except.ok f : Result) with | .ok (.ret v) => Q v s' | .ok _ => False | .error e => E e s')
      | .again c' => c'.quiet = true ∧ codeAny (model prog w) A c' (fun r s' => match r with | .ok (.ret v) => Q v s' | .ok _ => False | .error e => E e s') s') E s) : wpAny (model prog w) A (call (.builtin id) args kw) Q E s := by
  refine wpAny_call (codeAny_call_builtin hp hb ?_)
  simp only [checkBuiltinCall, hk]
  cases hsig : Manifest.signature? id with
  | none => exact wpAny_pure hfin
  | some sig =>
    have ha' : Bind.checkArgs id sig ⟨args, kw⟩ = pure () := by simpa only [argsOk, hsig] using ha
    simp only [ha']
    exact wpAny_pure hfin
theorem mx_args (a d : Value) : argsOk "max" ⟨[a], [(Str.ofString "default", d)]⟩ := by unfold argsOk; kernel_rfl
theorem mx_call {x d : Value} {Q : Value → Shared → Prop}
    (h : wpAny (model prog w) A.in1 (pyIter x) (fun it s₂ => ∃ I fp wr n P St bt, it = .ref I ∧ Walks prog w A.in1 I fp wr n P St ∧ St 0 s₂.heap ∧ (∀ b ∈ fp, b < s₂.heap.objs.size) ∧ CmpOf prog w A.in1 .Gt P bt ∧
      (0 < n → ∀ v h' tk, P (argBest bt (n - 1)) v → (∀ b o, b ∉ wr → s₂.heap.get? b = some o → h'.get? b = some o) → Q v { s₂ with heap := h', toks := tk }) ∧
      (n = 0 → ∀ h' tk, (∀ b o, b ∉ wr → s₂.heap.get? b = some o → h'.get? b = some o) → Q d { s₂ with heap := h', toks := tk })) E s) :
    wpAny (model prog w) A (call (.builtin "max") [x] [(Str.ofString "default", d)]) Q E s := by
  have hname : (toString "max" ++ toString ".loop" : String) = "max.loop" := by decide
  refine call_tree_kw F.kind_max F.plain_max F.entry_max (mx_args _ _) ?_
  show wpAny _ A.in1 (Builtin.Builtins.bindParams "max" ["key", "default"] 0 ⟨[], [(Str.ofString "default", d)]⟩ >>= _) _ _ s
  refine wpAny_bind (wpAny_of_eq (show Builtin.Builtins.bindParams "max" ["key", "default"] 0 ⟨[], [(Str.ofString "default", d)]⟩ = pure [none, some d] from by kernel_rfl) ?_)
  refine wpAny_bind (wpAny_pure ?_)
  refine wpAny_bind (wpAny_mono h (fun it s₂ h₂ => ?_) fun _ _ e => e)
  obtain ⟨I, fp, wr, n, P, St, bt, rfl, W, hst, hfp, hcmp, hQ, hZ⟩ := h₂
  refine wpAny_bind (wpAny_newObj_type ?_)
  have hSf : s₂.heap.objs.size ∉ fp := fun hm => Nat.lt_irrefl _ (hfp _ hm)
  rw [hname]
  cases n with
  | zero =>
    refine wpAny_pure ⟨plainId_quiet F.plain_max_loop _, mx_none W s₂.heap.objs.size hSf (W.frame _ _ _ hst fun b _ o e => Heap.get?_push_of_some _ e) (Heap.get?_push_size _ rfl) fun h' tk hk => ?_⟩
    exact hZ rfl h' tk fun b o hbw e => hk b o hbw (Heap.get?_push_of_some _ e)
  | succ n =>
    refine wpAny_pure ⟨plainId_quiet F.plain_max_loop _, mx_first W bt hcmp s₂.heap.objs.size hSf (Nat.succ_pos _) (W.frame _ _ _ hst fun b _ o e => Heap.get?_push_of_some _ e) (Heap.get?_push_size _ rfl) fun v h' tk hP hk => ?_⟩
    exact hQ (Nat.succ_pos _) v h' tk hP fun b o hbw e => hk b o hbw (Nat.ne_of_lt (Heap.lt_size e)) (Heap.get?_push_of_some _ e)
end
/-- the greatest of some whole numbers, d where there is none -/
def MaxOf (d : Int) (ns : List Int) (m : Int) : Prop := (ns = [] ∧ m = d) ∨ (m ∈ ns ∧ ∀ y, y ∈ ns → y ≤ m)
abbrev rMaxDef (K : PySem.W.Frag) : List V → List V → Hp → VK → Prop := fun vs zs H Q => ∃ (a : Addr) (ns : List Int) (d : Int), vs = [V.ref a] ∧ zs = [V.int d] ∧ SqL K H a (ns.map V.int) ∧ ∀ m, MaxOf d ns m → Q (.int m) H
theorem call_maxDef {X : Cx} (hc : X.calm = true) : CallRK X (.builtin "max") [Str.ofString "default"] (rMaxDef X.K) := by
  intro pins s σ H vs zs us ws Q I r rz h
  obtain ⟨a, ns, d, rfl, rfl, hs, q⟩ := h
  obtain ⟨its, rv, hl, _⟩ := I.list hs
  rw [Vals.ref1 r]
  obtain ⟨u, rfl, t, rfl⟩ := vals1 rz
  have hi := rv.ints
  have hli := hl.isList
  obtain ⟨xs, e⟩ := hi.allInts.items
  have hn : numsOf (intItems xs).toList = ns := by rw [← e]; exact hi.numsOf
  rw [nums_intItems] at hn
  subst hn
  rw [e] at hli
  refine mx_call (iter_intList hli fun s₂ e2 st hfp hlI => ?_)
  subst e2
  refine ⟨_, _, _, _, _, _, _, rfl, Walks.list (A := X.A.in1) (I.ok.hd hc) _ a hlI (intItems xs), st, hfp, CmpOf.ints_gt (numAt xs) (fun _ _ => intItems_at), fun hpos v h' tk hP hk => ?_, fun h0 h' tk hk => ?_⟩
  · have hsz : 0 < xs.size := by simpa [intItems] using hpos
    have hP' : (intItems xs)[argBest (fun i j => decide (numAt xs i > numAt xs j)) (xs.size - 1)]? = some v := by simpa [intItems] using hP
    obtain ⟨t2, rfl⟩ := intItems_at hP'
    obtain ⟨h1, h2⟩ := argBest_gt (numAt xs) (xs.size - 1)
    refine ⟨.int _, H, I.kept (old_kept hk), ⟨_, rfl⟩, q _ (.inr ⟨?_, fun y hy => ?_⟩)⟩
    · rw [numAt_eq]; exact PySem.getD_mem (by rw [List.length_map, Array.length_toList]; omega)
    · obtain ⟨j, hj, rfl⟩ := mem_getD hy
      rw [List.length_map, Array.length_toList] at hj
      rw [← numAt_eq]; exact h2 j (by omega)
  · have hsz : xs.size = 0 := by simpa [intItems] using h0
    refine ⟨.int _, H, I.kept (old_kept hk), ⟨_, rfl⟩, q _ (.inl ⟨?_, rfl⟩)⟩
    rw [List.map_eq_nil_iff]
    exact List.eq_nil_of_length_eq_zero (by rw [Array.length_toList]; exact hsz)
abbrev rShl1 : R2 := fun x y H Q => ∃ k : Nat, x = .int 1 ∧ y = .int (k : Int) ∧ k ≤ 134217727 ∧ Q (.int (2 ^ k)) H
/-! ### how often a text stands in a list -/
def eqsV (k : Str) : Value → Bool
  | .str z _ => z.cps.toList == k.cps.toList
  | _ => false
def rCntS (K : PySem.W.Frag) : V → List V → Hp → VK → Prop := fun x xs H Q => ∃ (p : Addr) (ns : List Str) (k : Str), x = .ref p ∧ xs = [.str k] ∧ SqL K H p (ns.map V.str) ∧ Q (.int ((ns.countP fun z => z.cps.toList == k.cps.toList : Nat) : Int)) H
theorem eqsV_count {k : Str} : ∀ {vs : List Value} {ns : List Str}, StrsAre vs ns → vs.countP (eqsV k) = ns.countP fun z => z.cps.toList == k.cps.toList
  | _, _, .nil => rfl
  | _, _, .cons n t r => by
    rw [List.countP_cons, List.countP_cons, eqsV_count r]
    rfl
theorem mt_lcountS {X : Cx} : MtR X "list.count" (rCntS X.K) := by
  intro pins s σ H x xs v us Q I rx rxs h
  obtain ⟨p, ns, k, rfl, rfl, hs, q⟩ := h
  cases rx
  obtain ⟨u, rfl, ru⟩ := rxs.one
  obtain ⟨t, rfl⟩ := ru
  obtain ⟨its, rv, ⟨⟨cls, dd, data, sl⟩, n, ho, hc, hdn, hd⟩, hlen⟩ := I.list hs
  simp only at hc hd
  subst hc hd
  have hi := rv.strs
  refine call_meets PySem.F.slot_list_count ⟨_, ho, rfl⟩ PySem.F.entry_list_count (PySem.F.args_list_count_2 _ _)
    (SeqAt.list_countAt p its.toArray n dd sl (.str k t) (eqsV k)) ⟨ho, fun y hy => ?_, ?_⟩
  · obtain ⟨z, u, e⟩ := strs_mem hi y (by simpa using hy)
    rw [e]
    exact (SeqRoads2.EqGives.str z k u t).at _ _
  have ec : its.toArray.toList.countP (eqsV k) = ns.countP fun z => z.cps.toList == k.cps.toList := eqsV_count hi
  refine ⟨.int ((ns.countP fun z => z.cps.toList == k.cps.toList : Nat) : Int), H, I.tok _, ⟨s.toks, ?_⟩, q⟩
  show Value.int ((its.toArray.toList.countP (eqsV k) : Nat) : Int) s.toks = Value.int ((ns.countP fun z => z.cps.toList == k.cps.toList : Nat) : Int) s.toks
  rw [ec]
/-! ### the least, the greatest of a list of texts -/
theorem strs_atD : ∀ {us : List Value} {xs : List Str}, StrsAre us xs → ∀ (i : Nat) (v : Value), us[i]? = some v → ∃ t, v = .str (xs.getD i Str.empty) t
  | _, _, .nil, i, v, h => by simp at h
  | _, _, .cons n t hr, 0, v, h => by simp at h; exact ⟨t, by rw [← h] <;> rfl⟩
  | _, _, .cons n t hr, i + 1, v, h => by
    simp only [List.getElem?_cons_succ] at h
    obtain ⟨t', e⟩ := strs_atD hr i v h
    exact ⟨t', by rw [e] <;> rfl⟩
theorem cmpS_gt {prog : Program} {w : World} {A : Around} {P : Nat → Value → Prop} (val : Nat → Str) (hval : ∀ i v, P i v → ∃ t, v = .str (val i) t) :
    CmpOf prog w A .Gt P (fun i j => decide ((val j).cps.toList < (val i).cps.toList)) := fun i j vi vj s Q E hi hj h => by
  obtain ⟨t, rfl⟩ := hval i vi hi
  obtain ⟨u, rfl⟩ := hval j vj hj
  exact richCompare_gives (op := .Gt) (typeIs_str s _ t) (typeIs_str s _ u) PySem.F.slot_str_gt PySem.F.entry_str_gt (PySem.F.args_str_gt_2 _ _) (gives_str_gt _ _ t u) (fun x => nomatch x) h
theorem cmpS_lt {prog : Program} {w : World} {A : Around} {P : Nat → Value → Prop} (val : Nat → Str) (hval : ∀ i v, P i v → ∃ t, v = .str (val i) t) :
    CmpOf prog w A .Lt P (fun i j => decide ((val i).cps.toList < (val j).cps.toList)) := fun i j vi vj s Q E hi hj h => by
  obtain ⟨t, rfl⟩ := hval i vi hi
  obtain ⟨u, rfl⟩ := hval j vj hj
  exact richCompare_gives (op := .Lt) (typeIs_str s _ t) (typeIs_str s _ u) PySem.F.slot_str_lt PySem.F.entry_str_lt (PySem.F.args_str_lt_2 _ _) (gives_str_lt _ _ t u) (fun x => nomatch x) h
theorem bestL_gt (key : Nat → List Nat) : ∀ k, argBest (fun i j => decide (key j < key i)) k ≤ k ∧ ∀ j, j ≤ k → key j ≤ key (argBest (fun i j => decide (key j < key i)) k)
  | 0 => ⟨Nat.le_refl _, fun j hj => by obtain rfl : j = 0 := by omega
                                        exact List.le_refl _⟩
  | k + 1 => by
    obtain ⟨h1, h2⟩ := bestL_gt key k
    simp only [argBest]
    by_cases hc : key (argBest (fun i j => decide (key j < key i)) k) < key (k + 1)
    · rw [if_pos (decide_eq_true hc)]
      refine ⟨Nat.le_refl _, fun j hj => ?_⟩
      rcases Nat.lt_or_ge k j with h | h
      · obtain rfl : j = k + 1 := by omega
        exact List.le_refl _
      · exact List.le_trans (h2 j h) (List.le_of_lt hc)
    · rw [if_neg (by simpa using hc)]
      refine ⟨by omega, fun j hj => ?_⟩
      rcases Nat.lt_or_ge k j with h | h
      · obtain rfl : j = k + 1 := by omega
        exact List.not_lt.mp hc
      · exact h2 j h
theorem bestL_lt (key : Nat → List Nat) : ∀ k, argBest (fun i j => decide (key i < key j)) k ≤ k ∧ ∀ j, j ≤ k → key (argBest (fun i j => decide (key i < key j)) k) ≤ key j
  | 0 => ⟨Nat.le_refl _, fun j hj => by obtain rfl : j = 0 := by omega
                                        exact List.le_refl _⟩
  | k + 1 => by
    obtain ⟨h1, h2⟩ := bestL_lt key k
    simp only [argBest]
    by_cases hc : key (k + 1) < key (argBest (fun i j => decide (key i < key j)) k)
    · rw [if_pos (decide_eq_true hc)]
      refine ⟨Nat.le_refl _, fun j hj => ?_⟩
      rcases Nat.lt_or_ge k j with h | h
      · obtain rfl : j = k + 1 := by omega
        exact List.le_refl _
      · exact List.le_trans (List.le_of_lt hc) (h2 j h)
    · rw [if_neg (by simpa using hc)]
      refine ⟨by omega, fun j hj => ?_⟩
      rcases Nat.lt_or_ge k j with h | h
      · obtain rfl : j = k + 1 := by omega
        exact List.not_lt.mp hc
      · exact h2 j h
theorem iter_anyList {prog : Program} {w : World} {A : Around} {E : Value → Shared → Prop} {s : Shared} {l : Addr} {xs : Array Value} {Q : Value → Shared → Prop} (hl : s.heap.IsList l xs)
    (h : ∀ s₂ : Shared, s₂ = { s with heap := s.heap.push { cls := .type "list_iterator", data := .fields #[.ref l, .int 0 0] } } →
      (s₂.heap.IsListIter s.heap.objs.size l 0 ∧ s₂.heap.IsList l xs) → (∀ b ∈ [s.heap.objs.size, l], b < s₂.heap.objs.size) → l ≠ s.heap.objs.size → Q (.ref s.heap.objs.size) s₂) :
    wpAny (model prog w) A (pyIter (.ref l)) Q E s := by
  have hlt : l < s.heap.objs.size := by obtain ⟨_, e, _⟩ := hl; exact Heap.lt_size e
  refine wpAny_pyIter_list hl (h _ rfl ⟨⟨_, Heap.get?_push_size _ rfl, rfl, rfl⟩, hl.push _⟩ (fun b hb => ?_) (Nat.ne_of_lt hlt))
  show b < (s.heap.push _).objs.size
  rw [Heap.size_push]
  rcases List.mem_cons.mp hb with rfl | hb
  · exact Nat.lt_succ_self _
  · rcases List.mem_cons.mp hb with rfl | hb
    · exact Nat.lt_succ_of_lt hlt
    · cases hb
def rMaxS (K : PySem.W.Frag) : List V → Hp → VK → Prop := fun vs H Q => ∃ (a : Addr) (ns : List Str), vs = [V.ref a] ∧ SqL K H a (ns.map V.str) ∧ 0 < ns.length ∧ ∀ m, m ∈ ns → (∀ y, y ∈ ns → y.cps.toList ≤ m.cps.toList) → Q (.str m) H
def rMinS (K : PySem.W.Frag) : List V → Hp → VK → Prop := fun vs H Q => ∃ (a : Addr) (ns : List Str), vs = [V.ref a] ∧ SqL K H a (ns.map V.str) ∧ 0 < ns.length ∧ ∀ m, m ∈ ns → (∀ y, y ∈ ns → m.cps.toList ≤ y.cps.toList) → Q (.str m) H
theorem cr_maxS {X : Cx} (hc : X.calm = true) : CallR X (.builtin "max") (rMaxS X.K) := by
  intro pins s σ H vs us Q I r h
  obtain ⟨a, ns, rfl, hs, hne, q⟩ := h
  obtain ⟨its, rv, hl, _⟩ := I.list hs
  rw [Vals.ref1 r]
  have hi := rv.strs
  have hli := hl.isList
  have hsz : its.length = ns.length := hi.len_eq
  refine call_max_walk (iter_anyList hli fun s₂ e2 st hfp hlI => ?_)
  subst e2
  refine ⟨_, _, _, _, _, _, _, rfl, Walks.list (A := X.A.in1) (I.ok.hd hc) _ a hlI its.toArray, st, hfp, by rw [List.size_toArray, hsz]; exact hne, cmpS_gt (fun i => ns.getD i Str.empty) (fun i v h => strs_atD hi i v (by simpa using h)), fun v h' tk hP hk => ?_⟩
  obtain ⟨t2, rfl⟩ := strs_atD hi _ v (by rw [List.getElem?_toArray] at hP; exact hP)
  obtain ⟨h1, h2⟩ := bestL_gt (fun i => (ns.getD i Str.empty).cps.toList) (its.toArray.size - 1)
  rw [List.size_toArray, hsz] at h1 h2
  refine ⟨.str _, H, I.kept (old_kept hk), ⟨_, rfl⟩, q _ ?_ fun y hy => ?_⟩
  · rw [List.size_toArray, hsz, List.getD_eq_getElem?_getD, List.getElem?_eq_getElem (by omega)]
    exact List.getElem_mem _
  · obtain ⟨j, hj, rfl⟩ := List.mem_iff_getElem.mp hy
    have e : ns[j] = ns.getD j Str.empty := by rw [List.getD_eq_getElem?_getD, List.getElem?_eq_getElem hj]; rfl
    rw [List.size_toArray, hsz, e]; exact h2 j (by omega)
theorem cr_minS {X : Cx} (hc : X.calm = true) : CallR X (.builtin "min") (rMinS X.K) := by
  intro pins s σ H vs us Q I r h
  obtain ⟨a, ns, rfl, hs, hne, q⟩ := h
  obtain ⟨its, rv, hl, _⟩ := I.list hs
  rw [Vals.ref1 r]
  have hi := rv.strs
  have hli := hl.isList
  have hsz : its.length = ns.length := hi.len_eq
  refine call_min_walk (iter_anyList hli fun s₂ e2 st hfp hlI => ?_)
  subst e2
  refine ⟨_, _, _, _, _, _, _, rfl, Walks.list (A := X.A.in1) (I.ok.hd hc) _ a hlI its.toArray, st, hfp, by rw [List.size_toArray, hsz]; exact hne, cmpS_lt (fun i => ns.getD i Str.empty) (fun i v h => strs_atD hi i v (by simpa using h)), fun v h' tk hP hk => ?_⟩
  obtain ⟨t2, rfl⟩ := strs_atD hi _ v (by rw [List.getElem?_toArray] at hP; exact hP)
  obtain ⟨h1, h2⟩ := bestL_lt (fun i => (ns.getD i Str.empty).cps.toList) (its.toArray.size - 1)
  rw [List.size_toArray, hsz] at h1 h2
  refine ⟨.str _, H, I.kept (old_kept hk), ⟨_, rfl⟩, q _ ?_ fun y hy => ?_⟩
  · rw [List.size_toArray, hsz, List.getD_eq_getElem?_getD, List.getElem?_eq_getElem (by omega)]
    exact List.getElem_mem _
  · obtain ⟨j, hj, rfl⟩ := List.mem_iff_getElem.mp hy
    have e : ns[j] = ns.getD j Str.empty := by rw [List.getD_eq_getElem?_getD, List.getElem?_eq_getElem hj]; rfl
    rw [List.size_toArray, hsz, e]; exact h2 j (by omega)
/-! ### isinstance(e, (A, B, ..)), e the exception that the suite holds -/
def rIsET (K : PySem.W.Frag) (D a : Addr) : List V → Hp → VK → Prop := fun xs H Q => ∃ (tp : Addr) (cs : List V) (ws : List Value) (b : Bool), xs = [.ref a, .ref tp] ∧ H tp = some (.tup cs) ∧ Paired ClsV cs ws ∧ PySem.W.kitAny K (.ref D) ws = some b ∧ Q (.bl b) H
theorem call_isET {X : Cx} {a D : Addr} {oe : Obj} {pn : List (Addr × Obj)} (C : ExcC X.K D) (hz : Zc (.ref D) none oe) (hf : ∃ vs, oe.data = .fields vs) : CallR (X.suite a ((a, oe) :: pn)) (.builtin "isinstance") (rIsET X.K D a) := by
  intro pins s σ H xs us Q I r h
  obtain ⟨tp, cs, ws, b, rfl, hT, k, e, q⟩ := h
  obtain ⟨u1, u2, rfl, r1, r2⟩ := vals2 r
  cases (show u2 = Value.ref tp from r2)
  cases (show u1 = Value.ref a from r1)
  obtain ⟨hget, _⟩ := I.pin (a, oe) (List.mem_append.mpr (.inl List.mem_cons_self))
  obtain ⟨vs, hv⟩ := hf
  have J : PySem.W.InstAt s.heap a oe D none := by
    obtain ⟨oc, od, oda, osl⟩ := oe
    obtain ⟨h1, h2⟩ := hz
    dsimp only at h1 h2 hv
    subst h1 h2 hv
    exact ⟨hget, rfl, rfl, trivial⟩
  obtain ⟨_, its, rv, o, h1, h2, n, h3⟩ := (show ObjOk _ _ H s.heap tp (.tup cs) from I.hok tp _ hT)
  have e3 := ClsV.all k rv
  subst e3
  obtain ⟨oc, od, dt, sl⟩ := o
  simp only at h2 h3
  subst h2 h3
  exact PySem.W.kia_tup (PySem.W.handS_kitx_exc C.hg C.hk C.hs C.hd C.ha C.hn C.ht C.hm) I.kIn J h1 e (fun z => nomatch z) fun tk => ⟨.bl b, H, I.tok tk, rfl, q⟩
end Sm
/-! SmMath: plain mathematics of marks. -/
namespace Sm
open PySem PySem.Spec PyProof.Rows L2
theorem mulW {i j : Int} (a b : Nat) (h1 : i.natAbs < 2 ^ a) (h2 : j.natAbs < 2 ^ b) (ha : 0 < a := by decide) (hb : 0 < b := by decide) (h : a + b ≤ 1000000 := by decide) : CMulW i j := wide_mul h1 h2 ha hb h
theorem mulW64 {i j : Int} (h1 : -(2 ^ 64) < i ∧ i < 2 ^ 64) (h2 : -(2 ^ 64) < j ∧ j < 2 ^ 64) : CMulW i j := mulW 64 64 (by omega) (by omega)
theorem divW64 {i j : Int} (h1 : 0 < j) (h2 : j < 2 ^ 64) : CDivW i j := wide_div (b := 64) h1 (by omega) (by decide) (by decide)
/-! ### ifs -/
theorem iteD {p A B : Prop} [Decidable p] (h1 : p → A) (h2 : ¬ p → B) : if decide p = true then A else B := by
  by_cases h : p
  · rw [decide_eq_true h]; exact iteT (h1 h)
  · rw [decide_eq_false h]; exact iteF (h2 h)
theorem iteDN {p A B : Prop} [Decidable p] (h1 : ¬ p → A) (h2 : p → B) : if (!decide p) = true then A else B := by
  by_cases h : p
  · rw [decide_eq_true h]; exact iteF (h2 h)
  · rw [decide_eq_false h]; exact iteT (h1 h)
theorem iteEI {x y : Int} {A B : Prop} (h1 : x = y → A) (h2 : ¬ x = y → B) : if decide (V.int x = V.int y) = true then A else B :=
  iteD (fun h => h1 (V.int.inj h)) fun h => h2 fun e => h (by rw [e])
theorem iteNI {x y : Int} {A B : Prop} (h1 : ¬ x = y → A) (h2 : x = y → B) : if (!decide (V.int x = V.int y)) = true then A else B :=
  iteDN (fun h => h1 fun e => h (by rw [e])) fun h => h2 (V.int.inj h)
theorem iteES {x y : Str} {A B : Prop} (h1 : x = y → A) (h2 : ¬ x = y → B) : if decide (V.str x = V.str y) = true then A else B :=
  iteD (fun h => h1 (V.str.inj h)) fun h => h2 fun e => h (by rw [e])
theorem iteNS' {x y : Str} {A B : Prop} (h1 : ¬ x = y → A) (h2 : x = y → B) : if (!decide (V.str x = V.str y)) = true then A else B :=
  iteDN (fun h => h1 fun e => h (by rw [e])) fun h => h2 (V.str.inj h)
theorem sz : sizeLine = 16777216 := sizeLine_eq
/-! ### letters, texts -/
open SX
/-- a text of letters by their numbers -/
def txt (ds : List Nat) : Str := S (ds.map (97 + ·))
abbrev LET : Str := "abcdefghijklmnopqrstuvwxyz"
theorem let_S : LET = txt (List.range 26) := by decide +kernel
theorem txt_len (ds : List Nat) : (txt ds).length = ds.length := by unfold txt; rw [S_len, List.length_map]
theorem txt_inj {a b : List Nat} (h : txt a = txt b) : a = b := by
  have e := S_inj h
  exact List.map_inj_right (fun x y h => by omega) |>.mp e
theorem txt_cat (a b : List Nat) : txt a ++ txt b = txt (a ++ b) := by unfold txt; rw [S_cat, List.map_append]
theorem txt_tl (ds : List Nat) : (txt ds).cps.toList = ds.map (97 + ·) := rfl
theorem txt_nil : txt [] = ("" : Str) := by decide +kernel
theorem let_len : ("abcdefghijklmnopqrstuvwxyz" : Str).length = 26 := by decide +kernel
theorem S_nil : ("" : Str) = S [] := by decide +kernel
theorem S_a : ("a" : Str) = S [97] := by decide +kernel
theorem let_atN {i : Nat} (h : i < 26) : LET.cps.toList[i]? = some (97 + i) := by
  rw [let_S, txt_tl, List.getElem?_map, List.getElem?_range h]; rfl
theorem let_at {j : Int} (h0 : 0 ≤ j) (h : j < 26) : atI LET.cps.toList j = some (97 + j.toNat) := by
  obtain ⟨n, rfl⟩ := Int.eq_ofNat_of_zero_le h0
  exact atI_nat (let_atN (by omega))
theorem join_txt (ds : List Nat) : Txt.join ("" : Str) (ds.map fun d => txt [d]) = txt ds := by
  have e : (ds.map fun d => txt [d]) = ((ds.map fun d => [97 + d]).map S) := by rw [List.map_map]; rfl
  rw [e, show ("" : Str) = S [] by decide +kernel, join_S]
  refine congrArg S ?_
  clear e
  induction ds with
  | nil => rfl
  | cons a r ih =>
    cases r with
    | nil => rfl
    | cons b r =>
      show [97 + a] ++ ([] ++ TL.joinL [] ((b :: r).map fun d => [97 + d])) = _
      rw [ih]; rfl
theorem slice_mid {a : List Nat} {i j : Nat} (h1 : i ≤ j) (h2 : j ≤ a.length) : Txt.slice (S a) (some (i : Int)) (some (j : Int)) = S ((a.drop i).take (j - i)) := by
  have e := beq_iff_eq.mp (PyProof.Rows.slice_closesL (x := S a) (i := (i : Int)) (j := (j : Int)) (by omega) (by omega) (by rw [S_len]; omega))
  refine e.trans ?_
  show S (List.take _ (List.drop _ a)) = _
  rw [Int.toNat_natCast, show ((j : Int) - i).toNat = j - i by omega]
theorem slice_txt {ds : List Nat} {i j : Nat} (h1 : i ≤ j) (h2 : j ≤ ds.length) : Txt.slice (txt ds) (some (i : Int)) (some (j : Int)) = txt ((ds.drop i).take (j - i)) := by
  unfold txt
  rw [slice_mid h1 (by rw [List.length_map]; exact h2), ← List.map_drop, ← List.map_take]
/-! ### order of texts, sorted ones -/
theorem str_ext {x y : Str} (h : x.cps.toList = y.cps.toList) : x = y := by
  obtain ⟨a⟩ := x; obtain ⟨b⟩ := y
  have h' : a.toList = b.toList := h
  rw [Array.toList_inj.mp h']
theorem rising_pw : ∀ {l : List Str} {p : Str}, risingS p l = true → (p :: l).Pairwise fun a b => a.cps.toList ≤ b.cps.toList
  | [], p, _ => List.pairwise_singleton _ _
  | x :: r, p, h => by
    have h' : (!ltCps x.cps.toList p.cps.toList && risingS x r) = true := h
    rw [Bool.and_eq_true, ltCps_eq, Bool.not_eq_true', decide_eq_false_iff_not] at h'
    have ih := rising_pw h'.2
    refine List.pairwise_cons.mpr ⟨fun b hb => ?_, ih⟩
    have px : p.cps.toList ≤ x.cps.toList := h'.1
    rcases List.mem_cons.mp hb with rfl | hb
    · exact px
    · exact List.le_trans px ((List.pairwise_cons.mp ih).1 b hb)
theorem sorted_pw : ∀ {l : List Str}, sortedS l = true → l.Pairwise fun a b => a.cps.toList ≤ b.cps.toList
  | [], _ => List.Pairwise.nil
  | _ :: _, h => rising_pw h
theorem sorted_eq {xs ys : List Str} (hp : ys.Perm xs) (hs : sortedS ys = true) (hx : xs.Pairwise fun a b => a.cps.toList ≤ b.cps.toList) : ys = xs :=
  List.Perm.eq_of_pairwise (le := fun a b => a.cps.toList ≤ b.cps.toList) (fun a b _ _ h1 h2 => str_ext (List.le_antisymm h1 h2)) (sorted_pw hs) hx hp
theorem sorted_eqP {xs ys : List Str} (hp : ys.Perm xs) (hs : ys.Pairwise fun a b => a.cps.toList ≤ b.cps.toList) (hx : xs.Pairwise fun a b => a.cps.toList ≤ b.cps.toList) : ys = xs :=
  List.Perm.eq_of_pairwise (le := fun a b => a.cps.toList ≤ b.cps.toList) (fun a b _ _ h1 h2 => str_ext (List.le_antisymm h1 h2)) hs hx hp
/-! ### two lists of texts compared -/
theorem dpAll_strs {K : PySem.W.Frag} {H : Hp} : ∀ ys : List Str, DpAll K H (ys.map V.str) (ys.map PyData.str)
  | [] => .nil
  | y :: r => .cons (.str y) (dpAll_strs r)
structure Sh (n : Nat) (d : PyData) : Prop where
  lay : d.canLay0 = true
  dep : d.depth ≤ n
theorem Sh.shaped {n : Nat} {d : PyData} (h : Sh n d) (hn : n ≤ 64 := by decide) : SeqAt.shaped d = true := by
  show (d.canLay0 && decide (d.depth ≤ 64)) = true
  rw [h.lay, decide_eq_true (Nat.le_trans h.dep hn)]; rfl
theorem Sh.int {n : Nat} (i : Int) : Sh n (.int i) := ⟨by simp [PyData.canLay0], by simp [PyData.depth]⟩
theorem Sh.bl {n : Nat} (i : Bool) : Sh n (.bool i) := ⟨by simp [PyData.canLay0], by simp [PyData.depth]⟩
theorem Sh.non {n : Nat} : Sh n .none := ⟨by simp [PyData.canLay0], by simp [PyData.depth]⟩
theorem Sh.str {n : Nat} {x : Str} (h : PyData.strOk x = true) : Sh n (.str x) := ⟨by simpa [PyData.canLay0] using h, by simp [PyData.depth]⟩
theorem sh_all {n : Nat} : ∀ {ds : List PyData}, (∀ d ∈ ds, Sh n d) → PyData.canLayAll0 ds = true ∧ PyData.depthAll ds ≤ n
  | [], _ => ⟨by simp [PyData.canLayAll0], by simp [PyData.depthAll]⟩
  | d :: ds, h => by
    obtain ⟨a, b⟩ := sh_all fun x hx => h x (List.mem_cons_of_mem _ hx)
    have c := h d List.mem_cons_self
    exact ⟨by simp [PyData.canLayAll0, a, c.lay], by simp only [PyData.depthAll]; exact Nat.max_le.mpr ⟨c.dep, b⟩⟩
theorem Sh.list {n : Nat} {ds : List PyData} (h : ∀ d ∈ ds, Sh n d) : Sh (n + 1) (.list ds) := by
  obtain ⟨a, b⟩ := sh_all h
  exact ⟨by simpa [PyData.canLay0] using a, by simp only [PyData.depth]; omega⟩
theorem Sh.tup {n : Nat} {ds : List PyData} (h : ∀ d ∈ ds, Sh n d) : Sh (n + 1) (.tuple ds) := by
  obtain ⟨a, b⟩ := sh_all h
  exact ⟨by simpa [PyData.canLay0] using a, by simp only [PyData.depth]; omega⟩
theorem strOk_S {l : List Nat} (h : ∀ c ∈ l, c < 0x110000) : PyData.strOk (S l) = true := by
  show (S l).cps.all (· < 0x110000) = true
  rw [← Array.all_toList]
  exact List.all_eq_true.mpr fun c hc => decide_eq_true (h c hc)
theorem strOk_txt {ds : List Nat} (h : ∀ d ∈ ds, d < 1000) : PyData.strOk (txt ds) = true := strOk_S fun c hc => by
  obtain ⟨d, hd, rfl⟩ := List.mem_map.mp hc
  have := h d hd
  omega
theorem sh_strs {ys : List Str} (h : ∀ y ∈ ys, PyData.strOk y = true) : Sh 1 (.list (ys.map PyData.str)) := Sh.list fun d hd => by
  obtain ⟨y, hy, rfl⟩ := List.mem_map.mp hd
  exact Sh.str (h y hy)
theorem eqvAll_strs : ∀ xs ys : List Str, PyData.eqvAll (xs.map .str) (ys.map .str) = decide (xs = ys)
  | [], [] => by simp [PyData.eqvAll]
  | x :: xs, y :: ys => by
    rw [List.map_cons, List.map_cons, PyData.eqvAll, PyData.eqv, eqvAll_strs xs ys]
    by_cases h : x = y
    · subst h; simp
    · simp [h]
  | [], y :: ys => by simp [PyData.eqvAll]
  | x :: xs, [] => by simp [PyData.eqvAll]
theorem eqv_strs (xs ys : List Str) : PyData.eqv (.list (xs.map .str)) (.list (ys.map .str)) = decide (xs = ys) := by rw [PyData.eqv, eqvAll_strs]
/-! ### an item by its place -/
theorem pick {xs : List V} {e : Int} (P : V → Prop) (h0 : 0 ≤ e) (h1 : e < xs.length) (hP : ∀ x ∈ xs, P x) : ∃ x, atI xs e = some x ∧ P x := by
  obtain ⟨n, rfl⟩ := Int.eq_ofNat_of_zero_le h0
  have hn : n < xs.length := by omega
  exact ⟨xs[n], atI_nat (List.getElem?_eq_getElem hn), hP _ (List.getElem_mem hn)⟩
theorem all1 {α : Type} {P : α → Prop} {x : α} {r : List α} (h : P x) (t : ∀ y ∈ r, P y) : ∀ y ∈ x :: r, P y := fun y hy => by
  rcases List.mem_cons.mp hy with rfl | hy
  · exact h
  · exact t y hy
theorem all0 {α : Type} {P : α → Prop} : ∀ y ∈ ([] : List α), P y := fun _ h => nomatch h
/-! ### the law's own head -/
def sp_law (K : PySem.W.Frag) : Sp := fun vs H Q _ => ∃ (a : Addr) (ns : List Int), vs = [.ref a] ∧ SqL K H a (ns.map V.int) ∧ ns.length ≤ 63 ∧ Only H ∧ ∀ H', Q (.bl true) H'
theorem law_in {K : PySem.W.Frag} {H : Hp} {a : Addr} {ns : List Int} (hO : Only H) (hS : SqL K H a (ns.map V.int)) (hl : ns.length ≤ 63) : sp_law K [.ref a] H (fun v _ => v = .bl true) fun _ _ _ => False :=
  ⟨a, ns, rfl, hS, hl, hO, fun _ => rfl⟩
/-- the letters from b on whose number less 1 has rest d by h -/
def ends (L h d : Nat) : List Nat := ((List.range (L - 1)).filter fun i => i % h == d).map (· + 1)
theorem ends_le (L h d : Nat) : (ends L h d).length ≤ L := by
  unfold ends
  rw [List.length_map]
  exact Nat.le_trans (List.length_filter_le _ _) (by rw [List.length_range]; omega)
theorem filt_step {w d m m2 : Nat} (hd : m % w = d) (h1 : m < m2) (h2 : m2 ≤ m + w) : (List.range m2).filter (fun i => i % w == d) = (List.range m).filter (fun i => i % w == d) ++ [m] := by
  obtain ⟨k, rfl⟩ : ∃ k, m2 = m + 1 + k := ⟨m2 - (m + 1), by omega⟩
  induction k with
  | zero =>
    rw [Nat.add_zero, List.range_succ, List.filter_append, List.filter_cons, if_pos (beq_iff_eq.mpr hd)]; rfl
  | succ k ih =>
    have hne : ¬ ((m + 1 + k) % w == d) = true := fun h => by
      have e : (m + 1 + k) % w = m % w := (beq_iff_eq.mp h).trans hd.symm
      have z := Nat.sub_mod_eq_zero_of_mod_eq e
      rw [show m + 1 + k - m = k + 1 by omega, Nat.mod_eq_of_lt (by omega)] at z
      omega
    rw [show m + 1 + (k + 1) = (m + 1 + k) + 1 by omega, List.range_succ, List.filter_append, ih (by omega) (by omega), List.filter_cons, if_neg hne]
    show _ ++ [] = _
    rw [List.append_nil]
theorem filt_none {w d m : Nat} (h : m ≤ d) (hd : d < w) : (List.range m).filter (fun i => i % w == d) = [] := by
  rw [List.filter_eq_nil_iff]
  intro i hi
  have := List.mem_range.mp hi
  rw [Nat.mod_eq_of_lt (by omega), beq_iff_eq]
  omega
theorem ends_mem {L h d k : Nat} : k ∈ ends L h d ↔ 1 ≤ k ∧ k < L ∧ (k - 1) % h = d := by
  unfold ends
  rw [List.mem_map]
  constructor
  · rintro ⟨i, hi, rfl⟩
    obtain ⟨h1, h2⟩ := List.mem_filter.mp hi
    have := List.mem_range.mp h1
    exact ⟨by omega, by omega, by simpa using h2⟩
  · rintro ⟨h1, h2, h3⟩
    exact ⟨k - 1, List.mem_filter.mpr ⟨List.mem_range.mpr (by omega), by simpa using h3⟩, by omega⟩
theorem ends_ne {L h d : Nat} (h1 : d < h) (h2 : h < L) : ends L h d ≠ [] := fun e => by
  have : d + 1 ∈ ends L h d := ends_mem.mpr ⟨by omega, by omega, by rw [Nat.add_sub_cancel, Nat.mod_eq_of_lt h1]⟩
  rw [e] at this
  cases this
theorem nodup_filter {α : Type} {p : α → Bool} {l : List α} (h : l.Nodup) : (l.filter p).Nodup := List.filter_sublist.nodup h
theorem nodup_map {α β : Type} {f : α → β} (hf : ∀ x y, f x = f y → x = y) {l : List α} (h : l.Nodup) : (l.map f).Nodup :=
  List.Pairwise.map f (fun _ _ n e => n (hf _ _ e)) h
theorem ends_nodup (L h d : Nat) : (ends L h d).Nodup := nodup_map (fun _ _ e => by omega) (nodup_filter List.nodup_range)
/-- the ends of all hands ahead of n -/
def allEnds (L h : Nat) : Nat → List Nat
  | 0 => []
  | n + 1 => allEnds L h n ++ ends L h n
theorem allEnds_mem {L h : Nat} : ∀ {n k : Nat}, k ∈ allEnds L h n ↔ 1 ≤ k ∧ k < L ∧ (k - 1) % h < n
  | 0, k => ⟨fun h => (by cases h), fun h => by omega⟩
  | n + 1, k => by
    show k ∈ allEnds L h n ++ ends L h n ↔ _
    rw [List.mem_append, allEnds_mem, ends_mem]
    omega
theorem allEnds_nodup (L h : Nat) : ∀ n, (allEnds L h n).Nodup
  | 0 => List.nodup_nil
  | n + 1 => List.nodup_append.mpr ⟨allEnds_nodup L h n, ends_nodup L h n, fun a ha b hb e => by
      have h1 := (allEnds_mem.mp ha).2.2
      have h2 := (ends_mem.mp hb).2.2
      rw [← e] at h2
      omega⟩
theorem allEnds_len (L h n : Nat) : (allEnds L h n).length ≤ L - 1 := by
  have h1 := List.Nodup.length_le_of_subset (allEnds_nodup L h n) (l₂ := (List.range (L - 1)).map (· + 1)) fun k hk => by
    have := allEnds_mem.mp hk
    exact List.mem_map.mpr ⟨k - 1, List.mem_range.mpr (by omega), by omega⟩
  rw [List.length_map, List.length_range] at h1
  exact h1
theorem allEnds_perm {L h : Nat} (h0 : 0 < h) : (allEnds L h h).Perm ((List.range (L - 1)).map (· + 1)) := by
  refine (List.perm_ext_iff_of_nodup (allEnds_nodup L h h) (nodup_map (fun _ _ e => by omega) List.nodup_range)).mpr fun k => ?_
  rw [allEnds_mem, List.mem_map]
  constructor
  · rintro ⟨h1, h2, _⟩
    exact ⟨k - 1, List.mem_range.mpr (by omega), by omega⟩
  · rintro ⟨i, hi, rfl⟩
    have := List.mem_range.mp hi
    exact ⟨by omega, by omega, Nat.mod_lt _ h0⟩
theorem chars_txt (ds : List Nat) : chars (txt ds) = ds.map fun d => txt [d] := by
  show (List.map _ (txt ds).cps.toList) = _
  rw [txt_tl, List.map_map]; rfl
theorem letters_from_b (L : Nat) (h : L ≤ 26) (h1 : 1 ≤ L) : Txt.slice LET (some 1) (some (L : Int)) = txt ((List.range (L - 1)).map (· + 1)) := by
  rw [let_S]
  have e := slice_txt (ds := List.range 26) (i := 1) (j := L) h1 (by rw [List.length_range]; exact h)
  refine e.trans (congrArg txt ?_)
  apply List.ext_getElem?
  intro k
  rw [List.getElem?_map, List.getElem?_take, List.getElem?_drop]
  by_cases hk : k < L - 1
  · rw [if_pos hk, List.getElem?_range (show 1 + k < 26 by omega), List.getElem?_range hk]
    show some (1 + k) = some (k + 1)
    rw [Nat.add_comm]
  · rw [if_neg hk, List.getElem?_eq_none (l := List.range (L - 1)) (by rw [List.length_range]; omega)]
    rfl
theorem singles_pw {ds : List Nat} (h : ds.Pairwise (· < ·)) : (ds.map fun d => txt [d]).Pairwise fun a b => a.cps.toList ≤ b.cps.toList := by
  refine List.Pairwise.map _ (fun a b hab => ?_) h
  show [97 + a] ≤ [97 + b]
  exact List.le_of_lt (List.Lex.rel (by omega))
/-! ### marks as texts -/
/-- a sign is one of the first L letters -/
def isLet (L c : Nat) : Bool := decide (97 ≤ c) && decide (c < 97 + L)
/-- a text is a mark -/
def isMk (L : Nat) (l : List Nat) : Bool := !l.isEmpty && (!(l.getLast? == some 97) && l.all (isLet L))
theorem let_take {L : Nat} (h : L ≤ 26) : Txt.slice LET none (some (L : Int)) = txt (List.range L) := by
  rw [let_S]
  unfold txt
  rw [slice_to (by omega), Int.toNat_natCast, ← List.map_take, List.take_range]
  rw [show min L 26 = L by omega]
theorem mem_take {L c : Nat} : decide (c ∈ (txt (List.range L)).cps.toList) = isLet L c := by
  rw [txt_tl, Bool.eq_iff_iff, decide_eq_true_iff, isLet, Bool.and_eq_true, decide_eq_true_iff, decide_eq_true_iff, List.mem_map]
  constructor
  · rintro ⟨d, hd, rfl⟩
    have := List.mem_range.mp hd
    omega
  · rintro ⟨h1, h2⟩
    exact ⟨c - 97, List.mem_range.mpr (by omega), by omega⟩
theorem at_last {α : Type} {l : List α} (h : l ≠ []) : atI l (-1) = some (l.getLast h) := by
  have := atI_last l.dropLast (l.getLast h)
  rw [List.dropLast_concat_getLast] at this
  exact this
theorem at_len1 {α : Type} {l : List α} (h : l ≠ []) {j : Int} (e : j = (l.length : Int) - 1) : atI l j = some (l.getLast h) := by
  have hp : 0 < l.length := List.length_pos_iff.mpr h
  rw [e, show (l.length : Int) - 1 = ((l.length - 1 : Nat) : Int) by omega]
  refine atI_nat ?_
  rw [List.getLast_eq_getElem, List.getElem?_eq_getElem]
theorem S1_inj {c d : Nat} (h : (S [c] : Str) = S [d]) : c = d := by
  have := S_inj h
  simpa using this
theorem at_some {α : Type} {l : List α} {j : Int} (h0 : 0 ≤ j) (h1 : j < l.length) : ∃ c, atI l j = some c := by
  obtain ⟨n, rfl⟩ := Int.eq_ofNat_of_zero_le h0
  exact ⟨l[n]'(by omega), atI_nat (List.getElem?_eq_getElem (by omega))⟩
/-! ### figures, wholes, marks -/
/-- figures, first the lightest -/
def low (L n : Nat) : Nat → List Nat
  | 0 => []
  | k + 1 => low L n k ++ [n / L ^ k % L]
def digs (L n k : Nat) : List Nat := (low L n k).reverse
def trim (ds : List Nat) : List Nat := (ds.reverse.dropWhile (· == 0)).reverse
def markOf (L n k : Nat) : List Nat := trim (digs L n k)
def whole (L : Nat) (ds : List Nat) : Nat → Nat
  | 0 => 0
  | k + 1 => whole L ds k * L + ds.getD k 0
theorem low_len (L n : Nat) : ∀ k, (low L n k).length = k
  | 0 => rfl
  | k + 1 => by show (low L n k ++ _).length = _; rw [List.length_append, low_len L n k]; rfl
theorem low_cons (L n : Nat) : ∀ k, low L n (k + 1) = n % L :: low L (n / L) k
  | 0 => by show [] ++ [n / L ^ 0 % L] = _; rw [Nat.pow_zero, Nat.div_one]; rfl
  | k + 1 => by
    show low L n (k + 1) ++ [n / L ^ (k + 1) % L] = _
    rw [low_cons L n k, Nat.pow_succ, Nat.mul_comm, ← Nat.div_div_eq_div_mul]; rfl
theorem digs_len (L n k : Nat) : (digs L n k).length = k := by unfold digs; rw [List.length_reverse, low_len]
theorem digs_succ (L n k : Nat) : digs L n (k + 1) = digs L (n / L) k ++ [n % L] := by unfold digs; rw [low_cons, List.reverse_cons]
theorem low_lt {L n : Nat} (hL : 0 < L) : ∀ k, ∀ d ∈ low L n k, d < L
  | 0, d, h => nomatch h
  | k + 1, d, h => by
    rcases List.mem_append.mp h with h | h
    · exact low_lt hL k d h
    · rw [List.mem_singleton.mp h]; exact Nat.mod_lt _ hL
theorem digs_lt {L n k : Nat} (hL : 0 < L) : ∀ d ∈ digs L n k, d < L := fun d h => low_lt hL k d (List.mem_reverse.mp h)
theorem trim_snoc0 (ds : List Nat) : trim (ds ++ [0]) = trim ds := by unfold trim; rw [List.reverse_append]; rfl
theorem trim_last {ds : List Nat} (h : ∀ hn : ds ≠ [], ds.getLast hn ≠ 0) : trim ds = ds := by
  rcases List.eq_nil_or_concat ds with rfl | ⟨as, d, rfl⟩
  · rfl
  · have hd : d ≠ 0 := by simpa using h (by simp)
    unfold trim
    rw [List.concat_eq_append, List.reverse_append, List.reverse_singleton, List.singleton_append, List.dropWhile_cons, if_neg (by simpa using hd), List.reverse_cons, List.reverse_reverse]
theorem trim_rep (ds : List Nat) : ∀ m, trim (ds ++ List.replicate m 0) = trim ds
  | 0 => by rw [List.replicate_zero, List.append_nil]
  | m + 1 => by rw [List.replicate_succ', ← List.append_assoc, trim_snoc0, trim_rep ds m]
theorem trim_spec (ds : List Nat) : ∃ m, ds = trim ds ++ List.replicate m 0 := by
  suffices ∀ k (ds : List Nat), ds.length = k → ∃ m, ds = trim ds ++ List.replicate m 0 from this _ ds rfl
  intro k
  induction k with
  | zero => intro ds h; rw [List.length_eq_zero_iff.mp h]; exact ⟨0, rfl⟩
  | succ k ih =>
    intro ds h
    rcases List.eq_nil_or_concat ds with rfl | ⟨as, d, rfl⟩
    · exact ⟨0, rfl⟩
    · rw [List.concat_eq_append] at h ⊢
      by_cases hd : d = 0
      · subst hd
        obtain ⟨m, e⟩ := ih as (by simpa using h)
        refine ⟨m + 1, ?_⟩
        rw [trim_snoc0, List.replicate_succ', ← List.append_assoc, ← e]
      · refine ⟨0, ?_⟩
        rw [trim_last (fun _ => by simpa using hd), List.replicate_zero, List.append_nil]
theorem trim_ok (ds : List Nat) (h : trim ds ≠ []) : (trim ds).getLast h ≠ 0 := by
  intro e
  unfold trim at h e
  rw [List.getLast_reverse] at e
  have := List.head_dropWhile_not (fun x : Nat => x == 0) (l := ds.reverse) (by simpa using h)
  rw [e] at this
  simp at this
theorem trim_sub (ds : List Nat) : ∀ d ∈ trim ds, d ∈ ds := fun d h => by
  obtain ⟨m, e⟩ := trim_spec ds
  rw [e]; exact List.mem_append_left _ h
theorem trim_len (ds : List Nat) : (trim ds).length ≤ ds.length := by
  obtain ⟨m, e⟩ := trim_spec ds
  have := congrArg List.length e
  rw [List.length_append] at this
  omega
theorem getD_rep (ds : List Nat) (m j : Nat) : (ds ++ List.replicate m 0).getD j 0 = ds.getD j 0 := by
  rw [List.getD_eq_getElem?_getD, List.getD_eq_getElem?_getD, List.getElem?_append]
  by_cases h : j < ds.length
  · rw [if_pos h]
  · rw [if_neg h, List.getElem?_eq_none (l := ds) (by omega), List.getElem?_replicate]
    split <;> rfl
theorem trim_getD (ds : List Nat) (j : Nat) : (trim ds).getD j 0 = ds.getD j 0 := by
  obtain ⟨m, e⟩ := trim_spec ds
  conv => rhs; rw [e]
  rw [getD_rep]
theorem whole_congr {L : Nat} {a b : List Nat} : ∀ {k}, (∀ j, j < k → a.getD j 0 = b.getD j 0) → whole L a k = whole L b k
  | 0, _ => rfl
  | k + 1, h => by
    show whole L a k * L + a.getD k 0 = whole L b k * L + b.getD k 0
    rw [whole_congr fun j hj => h j (by omega), h k (by omega)]
theorem whole_trim (L : Nat) (ds : List Nat) (k : Nat) : whole L (trim ds) k = whole L ds k := whole_congr fun j _ => trim_getD ds j
theorem whole_nil (L : Nat) : ∀ k, whole L [] k = 0
  | 0 => rfl
  | k + 1 => by show whole L [] k * L + 0 = 0; rw [whole_nil L k, Nat.zero_mul]
theorem whole_cons (L d : Nat) (ds : List Nat) : ∀ k, whole L (d :: ds) (k + 1) = d * L ^ k + whole L ds k
  | 0 => by show 0 * L + d = d * L ^ 0 + 0; rw [Nat.zero_mul, Nat.pow_zero, Nat.mul_one, Nat.zero_add, Nat.add_zero]
  | k + 1 => by
    show whole L (d :: ds) (k + 1) * L + (d :: ds).getD (k + 1) 0 = d * L ^ (k + 1) + (whole L ds k * L + ds.getD k 0)
    rw [whole_cons L d ds k, Nat.add_mul, Nat.pow_succ, Nat.mul_assoc, Nat.add_assoc]; rfl
theorem getD_lt {L : Nat} (hL : 0 < L) {ds : List Nat} (h : ∀ d ∈ ds, d < L) (j : Nat) : ds.getD j 0 < L := by
  rw [List.getD_eq_getElem?_getD]
  cases e : ds[j]? with
  | none => exact hL
  | some d => exact h d (List.mem_of_getElem? e)
theorem whole_lt {L : Nat} (hL : 0 < L) {ds : List Nat} (h : ∀ d ∈ ds, d < L) : ∀ k, whole L ds k < L ^ k
  | 0 => by show 0 < L ^ 0; rw [Nat.pow_zero]; decide
  | k + 1 => by
    show whole L ds k * L + ds.getD k 0 < L ^ (k + 1)
    have h1 := whole_lt hL h k
    have h2 := getD_lt hL h k
    rw [Nat.pow_succ]
    have := Nat.mul_le_mul_right L (show whole L ds k + 1 ≤ L ^ k from h1)
    rw [Nat.add_mul, Nat.one_mul] at this
    omega
theorem whole_digs {L : Nat} : ∀ (k n : Nat), whole L (digs L n k) k = n % L ^ k
  | 0, n => by rw [Nat.pow_zero, Nat.mod_one]; rfl
  | k + 1, n => by
    show whole L (digs L n (k + 1)) k * L + (digs L n (k + 1)).getD k 0 = _
    have e1 : (digs L n (k + 1)).getD k 0 = n % L := by
      rw [digs_succ, List.getD_eq_getElem?_getD, List.getElem?_append_right (by rw [digs_len]; exact Nat.le_refl _), digs_len, Nat.sub_self]; rfl
    have e2 : whole L (digs L n (k + 1)) k = whole L (digs L (n / L) k) k := whole_congr fun j hj => by
      rw [digs_succ, List.getD_eq_getElem?_getD, List.getD_eq_getElem?_getD, List.getElem?_append_left (by rw [digs_len]; exact hj)]
    rw [e1, e2, whole_digs k (n / L), Nat.pow_succ, Nat.mul_comm (L ^ k) L, Nat.mod_mul, Nat.mul_comm, Nat.add_comm]
theorem whole_mark {L n k : Nat} (h : n < L ^ k) : whole L (markOf L n k) k = n := by
  unfold markOf
  rw [whole_trim, whole_digs, Nat.mod_eq_of_lt h]
/-- the first k figures, none missing -/
def cut (ds : List Nat) (k : Nat) : List Nat := ds.take k ++ List.replicate (k - ds.length) 0
theorem digs_whole {L : Nat} (hL : 0 < L) {ds : List Nat} (h : ∀ d ∈ ds, d < L) : ∀ k, digs L (whole L ds k) k = (List.range k).map fun j => ds.getD j 0
  | 0 => rfl
  | k + 1 => by
    have h2 := getD_lt hL h k
    rw [digs_succ]
    show digs L ((whole L ds k * L + ds.getD k 0) / L) k ++ [(whole L ds k * L + ds.getD k 0) % L] = _
    rw [Nat.mul_comm, Nat.mul_add_div hL, Nat.div_eq_of_lt h2, Nat.add_zero, Nat.mul_add_mod, Nat.mod_eq_of_lt h2, digs_whole hL h k, List.range_succ, List.map_append]; rfl
theorem range_getD {ds : List Nat} {k : Nat} (h : ds.length ≤ k) : ((List.range k).map fun j => ds.getD j 0) = ds ++ List.replicate (k - ds.length) 0 := by
  apply List.ext_getElem?
  intro i
  rw [List.getElem?_map, List.getElem?_append]
  by_cases hi : i < k
  · rw [List.getElem?_range hi]
    show some (ds.getD i 0) = _
    rw [List.getD_eq_getElem?_getD]
    by_cases h2 : i < ds.length
    · rw [if_pos h2, List.getElem?_eq_getElem h2]; rfl
    · rw [if_neg h2, List.getElem?_eq_none (l := ds) (by omega), List.getElem?_replicate, if_pos (by omega)]; rfl
  · rw [List.getElem?_eq_none (l := List.range k) (by rw [List.length_range]; omega), if_neg (by omega), List.getElem?_replicate, if_neg (by omega)]; rfl
/-- a mark or the empty text: the last figure is not 0, all are below L -/
structure Mk0 (L : Nat) (ds : List Nat) : Prop where
  lt : ∀ d ∈ ds, d < L
  last : ∀ h : ds ≠ [], ds.getLast h ≠ 0
theorem mk0_trim {L : Nat} {ds : List Nat} (h : ∀ d ∈ ds, d < L) : Mk0 L (trim ds) := ⟨fun d hd => h d (trim_sub ds d hd), fun z => trim_ok ds z⟩
theorem mk0_markOf {L n k : Nat} (hL : 0 < L) : Mk0 L (markOf L n k) := mk0_trim (digs_lt hL)
theorem markOf_len (L n k : Nat) : (markOf L n k).length ≤ k := Nat.le_trans (trim_len _) (Nat.le_of_eq (digs_len L n k))
theorem mark_whole {L : Nat} (hL : 0 < L) {ds : List Nat} (m : Mk0 L ds) {k : Nat} (h : ds.length ≤ k) : markOf L (whole L ds k) k = ds := by
  unfold markOf
  rw [digs_whole hL m.lt, range_getD h, trim_rep, trim_last m.last]
theorem Mk0.tail {L d : Nat} {ds : List Nat} (m : Mk0 L (d :: ds)) : Mk0 L ds := ⟨fun x hx => m.lt x (List.mem_cons_of_mem _ hx), fun h => by
  have := m.last (List.cons_ne_nil _ _)
  rwa [List.getLast_cons h] at this⟩
theorem whole_pos {L : Nat} (hL : 0 < L) : ∀ {ds : List Nat} {k : Nat}, Mk0 L ds → ds ≠ [] → ds.length ≤ k → 0 < whole L ds k
  | [], _, _, h, _ => absurd rfl h
  | d :: ds, 0, _, _, h => by cases h
  | d :: ds, k + 1, m, _, h => by
    rw [whole_cons]
    by_cases hn : ds = []
    · subst hn
      have hd : d ≠ 0 := by simpa using m.last (by simp)
      have := Nat.mul_pos (Nat.pos_of_ne_zero hd) (Nat.pow_pos (n := k) hL)
      omega
    · have := whole_pos hL m.tail hn (by simpa using h)
      omega
theorem ltG_whole {L : Nat} (hL : 0 < L) : ∀ {a b : List Nat} {k : Nat}, (∀ d ∈ a, d < L) → Mk0 L b → b.length ≤ k → (a < b ↔ whole L a k < whole L b k)
  | [], [], k, _, _, _ => by simp
  | [], e :: b, k, _, mb, hb => by
    have := whole_pos hL mb (by simp) hb
    rw [whole_nil]
    exact ⟨fun _ => this, fun _ => List.nil_lt_cons _ _⟩
  | d :: a, [], k, _, _, _ => by
    rw [whole_nil]
    exact ⟨fun h => absurd h (List.not_lt_nil _), fun h => by omega⟩
  | d :: a, e :: b, 0, _, _, h => by cases h
  | d :: a, e :: b, k + 1, ma, mb, hb => by
    have ma' : ∀ d ∈ a, d < L := fun x hx => ma x (List.mem_cons_of_mem _ hx)
    have ih := ltG_whole hL ma' mb.tail (k := k) (by simpa using hb)
    have h1 := whole_lt hL ma' k
    have h2 := whole_lt hL mb.tail.lt k
    rw [whole_cons, whole_cons, List.cons_lt_cons_iff]
    rcases Nat.lt_trichotomy d e with h | h | h
    · have z : (d + 1) * L ^ k ≤ e * L ^ k := Nat.mul_le_mul_right _ h
      rw [Nat.add_mul, Nat.one_mul] at z
      exact ⟨fun _ => by omega, fun _ => .inl h⟩
    · subst h
      exact ⟨fun z => by
        rcases z with z | ⟨_, z⟩
        · omega
        · have := ih.mp z; omega, fun z => .inr ⟨rfl, ih.mpr (by omega)⟩⟩
    · have z : (e + 1) * L ^ k ≤ d * L ^ k := Nat.mul_le_mul_right _ h
      rw [Nat.add_mul, Nat.one_mul] at z
      exact ⟨fun z2 => by
        rcases z2 with z2 | ⟨z2, _⟩ <;> omega, fun z2 => by omega⟩
theorem lt_whole {L : Nat} (hL : 0 < L) {a b : List Nat} {k : Nat} (ma : Mk0 L a) (mb : Mk0 L b) (ha : a.length ≤ k) (hb : b.length ≤ k) : (a < b ↔ whole L a k < whole L b k) := ltG_whole hL ma.lt mb hb
/-- a longer than k: behind a comes what is of at most k figures -/
theorem ltL_whole {L : Nat} (hL : 0 < L) {a b : List Nat} {k : Nat} (ma : Mk0 L a) (mb : Mk0 L b) (ha : a.length ≤ k) (hb : k < b.length) : (a < b ↔ whole L a k ≤ whole L b k) := by
  have h := ltG_whole hL mb.lt ma ha
  constructor
  · intro z
    refine Nat.not_lt.mp fun z2 => ?_
    exact absurd (h.mpr z2) (List.lt_asymm z)
  · intro z
    have n : ¬ b < a := fun z2 => by have := h.mp z2; omega
    rcases List.le_iff_lt_or_eq.mp (List.not_lt.mp n) with z2 | z2
    · exact z2
    · rw [z2] at ha; omega
theorem whole_inj {L : Nat} (hL : 0 < L) {a b : List Nat} {k : Nat} (ma : Mk0 L a) (mb : Mk0 L b) (ha : a.length ≤ k) (hb : b.length ≤ k) (h : whole L a k = whole L b k) : a = b := by
  rw [← mark_whole hL ma ha, ← mark_whole hL mb hb, h]
theorem map_lt {a b : List Nat} : a.map (97 + ·) < b.map (97 + ·) ↔ a < b := by
  induction a generalizing b with
  | nil => cases b with
    | nil => simp
    | cons e b => exact ⟨fun _ => List.nil_lt_cons _ _, fun _ => List.nil_lt_cons _ _⟩
  | cons d a ih => cases b with
    | nil => exact ⟨fun h => absurd h (List.not_lt_nil _), fun h => absurd h (List.not_lt_nil _)⟩
    | cons e b =>
      rw [List.map_cons, List.map_cons, List.cons_lt_cons_iff, List.cons_lt_cons_iff, ih]
      constructor
      · rintro (h | ⟨h, z⟩)
        · exact .inl (by omega)
        · exact .inr ⟨by omega, z⟩
      · rintro (h | ⟨h, z⟩)
        · exact .inl (by omega)
        · exact .inr ⟨by omega, z⟩
theorem txt_lt (a b : List Nat) : decide ((txt a).cps.toList < (txt b).cps.toList) = decide (a < b) := decide_eq_decide.mpr map_lt
theorem isMk_txt (L : Nat) (ds : List Nat) : isMk L (ds.map (97 + ·)) = (!ds.isEmpty && (!(ds.getLast? == some 0) && ds.all fun d => decide (d < L))) := by
  unfold isMk
  rw [List.isEmpty_map, List.getLast?_map, List.all_map]
  congr 2
  · cases ds.getLast? with
    | none => rfl
    | some d =>
      show (!(some (97 + d) == some 97)) = _
      congr 1
      rw [Bool.eq_iff_iff, beq_iff_eq, beq_iff_eq, Option.some_inj, Option.some_inj]
      omega
  · congr 1
    funext d
    show (decide (97 ≤ 97 + d) && decide (97 + d < 97 + L)) = decide (d < L)
    rw [decide_eq_true (by omega), Bool.true_and]
    exact decide_eq_decide.mpr (by omega)
theorem isMk_mk {L : Nat} {ds : List Nat} (m : Mk0 L ds) (h : ds ≠ []) : isMk L (ds.map (97 + ·)) = true := by
  rw [isMk_txt, List.getLast?_eq_some_getLast h]
  have h1 := m.last h
  have h2 : (ds.all fun d => decide (d < L)) = true := List.all_eq_true.mpr fun d hd => decide_eq_true (m.lt d hd)
  rw [h2]
  cases ds with
  | nil => exact absurd rfl h
  | cons d r =>
    have : (some ((d :: r).getLast h) == some 0) = false := by simpa using h1
    rw [this]; rfl
theorem takeWhile_map {p : Nat → Bool} {f : Nat → Nat} : ∀ l : List Nat, ((l.map f).takeWhile p).length = (l.takeWhile (fun x => p (f x))).length
  | [] => rfl
  | a :: l => by
    rw [List.map_cons, List.takeWhile_cons, List.takeWhile_cons]
    by_cases h : p (f a) = true
    · rw [if_pos h, if_pos h, List.length_cons, List.length_cons, takeWhile_map l]
    · rw [if_neg h, if_neg h]
theorem drop_take_len {p : Nat → Bool} (l : List Nat) : l.dropWhile p = l.drop (l.takeWhile p).length := by
  have e := List.takeWhile_append_dropWhile (p := p) (l := l)
  conv => rhs; arg 2; rw [← e]
  rw [List.drop_left]
theorem trim_take (ds : List Nat) : trim ds = ds.take (ds.length - (ds.reverse.takeWhile (· == 0)).length) := by
  unfold trim
  rw [drop_take_len, List.reverse_drop, List.reverse_reverse, List.length_reverse]
theorem strSub_tl (x : Str) (i j : Nat) : (Builtin.Str.strSub x i j).cps.toList = (x.cps.toList.drop i).take (j - i) := by
  show (x.cps.extract i j).toList = _
  simp [List.extract_eq_take_drop]
theorem rstrip_txt (ds : List Nat) : Txt.rstripChars (txt ds) "a" = txt (trim ds) := by
  refine str_ext ?_
  show (Txt.stripBy _ false true (txt ds)).cps.toList = _
  rw [PyProof.Rows.stripBy_eq, strSub_tl]
  have hc : ∀ c, ("a" : Str).cps.contains c = (c == 97) := fun c => by
    show (#[97] : Array Nat).contains c = _
    rw [Bool.eq_iff_iff]
    simp
  have e : stripHi ("a" : Str).cps.contains true (txt ds) (stripLo ("a" : Str).cps.contains false (txt ds)) = ds.length - (ds.reverse.takeWhile (· == 0)).length := by
    show (txt ds).length - (((txt ds).cps.toList.drop 0).reverse.takeWhile ("a" : Str).cps.contains).length = _
    rw [txt_len, List.drop_zero, txt_tl, ← List.map_reverse, takeWhile_map]
    congr 3
    funext x
    rw [hc, Bool.eq_iff_iff, beq_iff_eq, beq_iff_eq]
    omega
  rw [e, trim_take, txt_tl, txt_tl, List.map_take]
  rfl
theorem sum_singles : ∀ ds : List Nat, ((ds.map fun d => txt [d]).map (·.length)).sum = ds.length
  | [] => rfl
  | d :: ds => by
    rw [List.map_cons, List.map_cons, List.sum_cons, sum_singles ds, txt_len]
    show 1 + ds.length = ds.length + 1
    omega
theorem join_txts {K : PySem.W.Frag} {H : Hp} {p : Addr} {ds : List Nat} {Q : VK} (hS : SqL K H p ((ds.map fun d => txt [d]).map V.str)) (hz : ds.length ≤ 1000000) (q : Q (.str (txt ds)) H) : rJoin K (.str "") [.ref p] H Q :=
  ⟨_, p, _, rfl, rfl, .inl hS, by rw [sum_singles, show (Str.length "") = 0 from rfl]; omega, by rw [join_txt]; exact q⟩
theorem whole_lt26 {L : Nat} (hL : L ≤ 26) {ds : List Nat} (h : ∀ d ∈ ds, d < 26) : ∀ k, whole L ds k < 26 ^ k
  | 0 => by show 0 < 26 ^ 0; decide
  | k + 1 => by
    show whole L ds k * L + ds.getD k 0 < 26 ^ (k + 1)
    have h1 := whole_lt26 hL h k
    have h2 := getD_lt (L := 26) (by decide) h k
    have h3 := Nat.mul_le_mul_left (whole L ds k) hL
    rw [Nat.pow_succ]
    omega
theorem pow26 {k : Nat} (hk : k ≤ 100000) {L : Nat} (hL : L ≤ 26) : L ^ k ≤ 2 ^ 500000 := by
  refine Nat.le_trans (Nat.pow_le_pow_left (show L ≤ 2 ^ 5 by omega) k) ?_
  rw [← Nat.pow_mul]
  exact Nat.pow_le_pow_right (by decide) (by omega)
theorem whole_mulW {L : Nat} (hL : L ≤ 26) {ds : List Nat} (h : ∀ d ∈ ds, d < 26) {k : Nat} (hk : k ≤ 100000) : CMulW (whole L ds k : Int) (L : Int) :=
  mulW 500000 64 (Nat.lt_of_lt_of_le (whole_lt26 hL h k) (pow26 hk (Nat.le_refl _))) (by rw [Int.natAbs_natCast]; omega)
theorem pow_mulW {L : Nat} (hL : L ≤ 26) {k : Nat} (hk : k ≤ 100000) : CMulW ((L ^ k : Nat) : Int) (L : Int) :=
  mulW 500001 64 (Nat.lt_of_le_of_lt (pow26 hk hL) (Nat.pow_lt_pow_right (by decide) (by decide))) (by rw [Int.natAbs_natCast]; omega)
theorem idx_let : ∀ d, d < 26 → Txt.index0 ("abcdefghijklmnopqrstuvwxyz" : Str) ⟨#[97 + d]⟩ = some d := by decide +kernel
theorem txt_at {ds : List Nat} {j : Nat} (h : j < ds.length) : atI (txt ds).cps.toList (j : Int) = some (97 + ds.getD j 0) := by
  refine atI_nat ?_
  rw [txt_tl, List.getElem?_map, List.getElem?_eq_getElem h, List.getD_eq_getElem?_getD, List.getElem?_eq_getElem h]
  rfl
/-- the least long whose wholes pass m -/
structure Long (L m k : Nat) : Prop where
  gt : m < L ^ k
  le : ∀ j, j < k → L ^ j ≤ m
theorem Long.uniq {L m a b : Nat} (x : Long L m a) (y : Long L m b) : a = b := by
  rcases Nat.lt_trichotomy a b with h | h | h
  · have := y.le a h; have := x.gt; omega
  · exact h
  · have := x.le b h; have := y.gt; omega
theorem Long.le_m {L m k : Nat} (x : Long L m k) (hL : 2 ≤ L) : k ≤ m := by
  cases k with
  | zero => exact Nat.zero_le _
  | succ k =>
    have h1 := x.le k (by omega)
    have h2 : k < 2 ^ k := Nat.lt_two_pow_self
    have h3 := Nat.pow_le_pow_left hL k
    omega
/-- the i-th number of a renewal -/
def renN (L m k i : Nat) : Nat := (i + 1) * L ^ k / (m + 1)
def rens (L m k : Nat) : List (List Nat) := (List.range m).map fun i => markOf L (renN L m k i) k
theorem renN_lt {L m k i : Nat} (x : Long L m k) (hi : i < m) : 0 < renN L m k i ∧ renN L m k i < L ^ k := by
  unfold renN
  have h := x.gt
  constructor
  · refine Nat.div_pos ?_ (by omega)
    calc m + 1 ≤ L ^ k := h
      _ = 1 * L ^ k := (Nat.one_mul _).symm
      _ ≤ (i + 1) * L ^ k := Nat.mul_le_mul_right _ (by omega)
  · refine (Nat.div_lt_iff_lt_mul (by omega)).mpr ?_
    rw [Nat.mul_comm (L ^ k)]
    exact Nat.mul_lt_mul_of_pos_right (by omega) (by omega)
theorem renN_mono {L m k i j : Nat} (h : i ≤ j) : renN L m k i ≤ renN L m k j := Nat.div_le_div_right (Nat.mul_le_mul_right _ (by omega))
theorem mark_le {L a b k : Nat} (hL : 0 < L) (ha : a < L ^ k) (hb : b < L ^ k) (h : a ≤ b) : (txt (markOf L a k)).cps.toList ≤ (txt (markOf L b k)).cps.toList := by
  refine List.not_lt.mp fun z => ?_
  have z1 := map_lt.mp z
  have z2 := (lt_whole hL (mk0_markOf (n := b) (k := k) hL) (mk0_markOf (n := a) (k := k) hL) (markOf_len _ _ _) (markOf_len _ _ _)).mp z1
  rw [whole_mark ha, whole_mark hb] at z2
  omega
theorem rens_pw {L m k : Nat} (hL : 0 < L) (x : Long L m k) : ((rens L m k).map txt).Pairwise fun a b => a.cps.toList ≤ b.cps.toList := by
  unfold rens
  rw [List.map_map]
  refine List.pairwise_map.mpr ?_
  refine List.Pairwise.imp_of_mem (R := (· < ·)) (fun {a b} ha hb hab => ?_) List.pairwise_lt_range
  exact mark_le hL (renN_lt x (List.mem_range.mp ha)).2 (renN_lt x (List.mem_range.mp hb)).2 (renN_mono (Nat.le_of_lt hab))
theorem mark_ne {L n k : Nat} (h0 : 0 < n) (h : n < L ^ k) : markOf L n k ≠ [] := fun e => by
  have := whole_mark h
  rw [e, whole_nil] at this
  omega
theorem rens_V (L m k : Nat) : ((List.range m).map fun i => V.str (txt (markOf L (renN L m k i) k))) = ((rens L m k).map txt).map V.str := by
  unfold rens
  rw [List.map_map, List.map_map]
  rfl
theorem rens_ok {L m k : Nat} (hL : 0 < L) (hL2 : L ≤ 26) : ∀ y ∈ (rens L m k).map txt, PyData.strOk y = true := fun y hy => by
  obtain ⟨ds, hds, rfl⟩ := List.mem_map.mp hy
  obtain ⟨i, _, rfl⟩ := List.mem_map.mp hds
  exact strOk_txt fun d hd => by
    have := (mk0_markOf (L := L) (n := renN L m k i) (k := k) hL).lt d hd
    omega
theorem rens_len (L m k : Nat) : (rens L m k).length = m := by unfold rens; rw [List.length_map, List.length_range]
theorem neD_same {K : PySem.W.Frag} {H : Hp} {p q : Addr} {xs : List Str} {Q : VK} (hp : H p = some (.lst (xs.map V.str))) (hq : H q = some (.lst (xs.map V.str))) (hok : ∀ y ∈ xs, PyData.strOk y = true) (h : Q (.bl false) H) : rNeD K (.ref p) (.ref q) H Q :=
  ⟨_, _, .lst (.inl (.inl hp)) (dpAll_strs _), .lst (.inl (.inl hq)) (dpAll_strs _), (sh_strs hok).shaped, (sh_strs hok).shaped, by rw [eqv_strs, decide_eq_true rfl]; exact h⟩
theorem eqD_same {K : PySem.W.Frag} {H : Hp} {p q : Addr} {xs : List Str} {Q : VK} (hp : H p = some (.lst (xs.map V.str))) (hq : H q = some (.lst (xs.map V.str))) (hok : ∀ y ∈ xs, PyData.strOk y = true) (h : Q (.bl true) H) : rEqD K (.ref p) (.ref q) H Q :=
  ⟨_, _, .lst (.inl (.inl hp)) (dpAll_strs _), .lst (.inl (.inl hq)) (dpAll_strs _), (sh_strs hok).shaped, (sh_strs hok).shaped, by rw [eqv_strs, decide_eq_true rfl]; exact h⟩
/-- a whole number from lo to hi -/
def NatIn (lo hi : Nat) (v : V) : Prop := ∃ n : Nat, v = .int n ∧ lo ≤ n ∧ n ≤ hi
theorem natIn {lo hi : Nat} {x : Int} (h0 : (lo : Int) ≤ x) (h1 : x ≤ hi) : NatIn lo hi (.int x) := ⟨x.toNat, by congr 1; omega, by omega, by omega⟩
/-! ### numbers by their last figure -/
def cnt (F : List Nat) (r : Nat) : Nat := (F.filter fun f => decide (f < r)).length
def below (L : Nat) (F : List Nat) (n : Nat) : Nat := n / L * F.length + cnt F (n % L)
def nth (L : Nat) (F : List Nat) (m : Nat) : Nat := m / F.length * L + F.getD (m % F.length) 0
/-- figures of a hand: rising, below L, some -/
structure Figs (L : Nat) (F : List Nat) : Prop where
  lt : ∀ f ∈ F, f < L
  up : F.Pairwise (· < ·)
  ne : F ≠ []
theorem cnt_le (F : List Nat) (r : Nat) : cnt F r ≤ F.length := List.length_filter_le _ _
theorem cnt_all {L : Nat} {F : List Nat} (h : ∀ f ∈ F, f < L) : cnt F L = F.length := by
  unfold cnt
  rw [List.filter_eq_self.mpr fun f hf => decide_eq_true (h f hf)]
theorem cnt_succ {r : Nat} : ∀ {F : List Nat}, F.Pairwise (· < ·) → cnt F (r + 1) = cnt F r + if r ∈ F then 1 else 0
  | [], _ => rfl
  | f :: F, h => by
    have h2 := List.pairwise_cons.mp h
    have ih := cnt_succ (r := r) h2.2
    unfold cnt at ih ⊢
    rw [List.filter_cons, List.filter_cons]
    by_cases e : r = f
    · subst e
      have n : r ∉ F := fun z => by have := h2.1 r z; omega
      rw [if_neg n] at ih
      rw [if_pos (decide_eq_true (by omega)), if_neg (by simp), if_pos List.mem_cons_self, List.length_cons, ih]
    · have e2 : (r ∈ f :: F) = (r ∈ F) := by simp [e]
      simp only [e2]
      by_cases l : f < r
      · rw [if_pos (decide_eq_true (by omega)), if_pos (decide_eq_true l), List.length_cons, List.length_cons, ih]
        omega
      · rw [if_neg (by rw [decide_eq_false (by omega)]; decide), if_neg (by rw [decide_eq_false l]; decide), ih]
theorem getD_cnt {r : Nat} : ∀ {F : List Nat}, F.Pairwise (· < ·) → r ∈ F → cnt F r < F.length ∧ F.getD (cnt F r) 0 = r
  | [], _, h => nomatch h
  | f :: F, h, hr => by
    have h2 := List.pairwise_cons.mp h
    unfold cnt
    rw [List.filter_cons]
    by_cases e : r = f
    · subst e
      have z : F.filter (fun f => decide (f < r)) = [] := List.filter_eq_nil_iff.mpr fun f hf => by
        have := h2.1 f hf
        rw [decide_eq_true_iff]; omega
      rw [if_neg (by simp), z]
      exact ⟨by simp, rfl⟩
    · have hr2 : r ∈ F := by simpa [e] using hr
      have l := h2.1 r hr2
      have ih := getD_cnt h2.2 hr2
      unfold cnt at ih
      rw [if_pos (decide_eq_true l), List.length_cons, List.length_cons]
      exact ⟨by omega, ih.2⟩
theorem below_succ {L : Nat} {F : List Nat} (hF : Figs L F) (hL : 0 < L) (n : Nat) : below L F (n + 1) = below L F n + if n % L ∈ F then 1 else 0 := by
  unfold below
  have h1 := Nat.div_add_mod n L
  have h2 := Nat.mod_lt n hL
  by_cases e : n % L + 1 = L
  · have e1 : (n + 1) / L = n / L + 1 := by
      rw [show n + 1 = L * (n / L + 1) by rw [Nat.mul_add]; omega, Nat.mul_div_cancel_left _ hL]
    have e2 : (n + 1) % L = 0 := by
      rw [show n + 1 = L * (n / L + 1) by rw [Nat.mul_add]; omega, Nat.mul_mod_right]
    have e3 : cnt F 0 = 0 := by
      unfold cnt
      rw [List.filter_eq_nil_iff.mpr fun f _ => by simp]; rfl
    have e4 := cnt_succ (r := n % L) hF.up
    rw [e, cnt_all hF.lt] at e4
    rw [e1, e2, e3, Nat.add_mul, Nat.one_mul, Nat.add_zero, Nat.add_assoc, ← e4]
  · have e1 : (n + 1) / L = n / L := by
      rw [show n + 1 = (n % L + 1) + L * (n / L) by omega, Nat.add_mul_div_left _ _ hL, Nat.div_eq_of_lt (by omega), Nat.zero_add]
    have e2 : (n + 1) % L = n % L + 1 := by
      rw [show n + 1 = (n % L + 1) + L * (n / L) by omega, Nat.add_mul_mod_self_left, Nat.mod_eq_of_lt (by omega)]
    rw [e1, e2, cnt_succ hF.up, Nat.add_assoc]
theorem nth_below {L : Nat} {F : List Nat} (hF : Figs L F) {n : Nat} (h : n % L ∈ F) : nth L F (below L F n) = n := by
  obtain ⟨h1, h2⟩ := getD_cnt hF.up h
  have hp : 0 < F.length := List.length_pos_iff.mpr hF.ne
  unfold nth below
  rw [Nat.mul_comm (n / L), Nat.mul_add_div hp, Nat.div_eq_of_lt h1, Nat.add_zero, Nat.mul_add_mod, Nat.mod_eq_of_lt h1, h2, Nat.mul_comm]
  exact Nat.div_add_mod n L
theorem below_mono {L : Nat} {F : List Nat} (hF : Figs L F) (hL : 0 < L) {m n : Nat} (h : m ≤ n) : below L F m ≤ below L F n := by
  induction h with
  | refl => exact Nat.le_refl _
  | step h ih =>
    rw [below_succ hF hL]
    omega
/-- the numbers from lo to below n whose last figure is one of F -/
theorem nums_list {L : Nat} {F : List Nat} (hF : Figs L F) (hL : 0 < L) (lo : Nat) : ∀ n, (List.range n).filter (fun x => decide (x % L ∈ F) && decide (lo ≤ x)) = (List.range (below L F n - below L F lo)).map fun i => nth L F (below L F lo + i)
  | 0 => by
    have e : below L F 0 = 0 := by
      unfold below cnt
      rw [Nat.zero_div, Nat.zero_mul, Nat.zero_mod, List.filter_eq_nil_iff.mpr fun f _ => by simp]; rfl
    rw [e, Nat.zero_sub]; rfl
  | n + 1 => by
    rw [List.range_succ, List.filter_append, nums_list hF hL lo n, List.filter_cons, List.filter_nil]
    have hs := below_succ hF hL n
    by_cases h2 : lo ≤ n
    · have hm := below_mono hF hL h2
      by_cases h1 : n % L ∈ F
      · rw [if_pos h1] at hs
        rw [if_pos (by rw [decide_eq_true h1, decide_eq_true h2]; rfl), hs, show below L F n + 1 - below L F lo = (below L F n - below L F lo) + 1 by omega, List.range_succ, List.map_append]
        congr 1
        show [n] = [nth L F (below L F lo + (below L F n - below L F lo))]
        rw [show below L F lo + (below L F n - below L F lo) = below L F n by omega, nth_below hF h1]
      · rw [if_neg h1] at hs
        rw [if_neg (by rw [decide_eq_false h1]; simp), hs, List.append_nil]; rfl
    · have hm := below_mono hF hL (show n + 1 ≤ lo by omega)
      have hm2 := below_mono hF hL (show n ≤ lo by omega)
      rw [if_neg (by rw [decide_eq_false h2, Bool.and_false]; decide), List.append_nil, show below L F n - below L F lo = 0 by omega, show below L F (n + 1) - below L F lo = 0 by omega]
theorem figs_ends {L h d : Nat} (h1 : d < h) (h2 : h < L) : Figs L (ends L h d) := by
  refine ⟨fun f hf => (ends_mem.mp hf).2.1, ?_, ends_ne h1 h2⟩
  unfold ends
  exact List.Pairwise.map _ (fun _ _ h => by omega) (List.Pairwise.filter _ List.pairwise_lt_range)
/-! ### what lies between -/
def lowN (L : Nat) (lo : Option (List Nat)) (k : Nat) : Nat := match lo with | none => 1 | some a => whole L a k + 1
/-- one past the last -/
def pastN (L : Nat) (hi : Option (List Nat)) (k : Nat) : Nat := match hi with | none => L ^ k | some b => if b.length ≤ k then whole L b k else whole L b k + 1
def Betw (lo hi : Option (List Nat)) (x : List Nat) : Prop := (∀ a, lo = some a → a < x) ∧ ∀ b, hi = some b → x < b
/-- low, high: marks, low ahead of high -/
structure Ends2 (L : Nat) (lo hi : Option (List Nat)) : Prop where
  lo : ∀ a, lo = some a → Mk0 L a ∧ a ≠ []
  hi : ∀ b, hi = some b → Mk0 L b ∧ b ≠ []
theorem betw_iff {L k : Nat} {lo hi : Option (List Nat)} (hL : 0 < L) (e : Ends2 L lo hi) {x : List Nat} (m : Mk0 L x) (hx : x.length ≤ k) (h0 : x ≠ []) : Betw lo hi x ↔ lowN L lo k ≤ whole L x k ∧ whole L x k < pastN L hi k := by
  refine and_congr ?_ ?_
  · unfold lowN
    cases lo with
    | none => exact ⟨fun _ => whole_pos hL m h0 hx, fun _ a z => nomatch z⟩
    | some a =>
      have := ltG_whole hL (e.lo a rfl).1.lt m hx
      exact ⟨fun z => this.mp (z a rfl), fun z b hb => by cases hb; exact this.mpr z⟩
  · unfold pastN
    cases hi with
    | none => exact ⟨fun _ => whole_lt hL m.lt k, fun _ a z => nomatch z⟩
    | some b =>
      by_cases hb : b.length ≤ k
      · have := ltG_whole hL m.lt (e.hi b rfl).1 hb
        show _ ↔ _ < if b.length ≤ k then _ else _
        rw [if_pos hb]
        exact ⟨fun z => this.mp (z b rfl), fun z c hc => by cases hc; exact this.mpr z⟩
      · have := ltL_whole hL m (e.hi b rfl).1 hx (Nat.lt_of_not_le hb)
        show _ ↔ _ < if b.length ≤ k then _ else _
        rw [if_neg hb]
        exact ⟨fun z => Nat.lt_succ_of_le (this.mp (z b rfl)), fun z c hc => by cases hc; exact this.mpr (Nat.le_of_lt_succ z)⟩
theorem past_le {L k : Nat} {lo hi : Option (List Nat)} (hL : 0 < L) (e : Ends2 L lo hi) : pastN L hi k ≤ L ^ k := by
  unfold pastN
  cases hi with
  | none => exact Nat.le_refl _
  | some b =>
    have := whole_lt hL (e.hi b rfl).1.lt k
    show (if b.length ≤ k then _ else _) ≤ _
    split <;> omega
theorem low_pos (L : Nat) (lo : Option (List Nat)) (k : Nat) : 1 ≤ lowN L lo k := by
  unfold lowN
  cases lo <;> simp
theorem low_le {L k : Nat} {lo hi : Option (List Nat)} (hL : 0 < L) (e : Ends2 L lo hi) : lowN L lo k ≤ L ^ k := by
  unfold lowN
  cases lo with
  | none => exact Nat.pow_pos hL
  | some a => exact whole_lt hL (e.lo a rfl).1.lt k
abbrev natV (n : Nat) : V := .int n
theorem big_mulW {n : Nat} {j : Int} (h : n ≤ 2 ^ 500000) (hj : j.natAbs < 2 ^ 64) : CMulW (n : Int) j :=
  mulW 500001 64 (Nat.lt_of_le_of_lt h (Nat.pow_lt_pow_right (by decide) (by decide))) hj
/-- a text or None -/
def optV : Option (List Nat) → V
  | none => .non
  | some a => .str (txt a)
theorem below_le {L : Nat} {F : List Nat} (hF : Figs L F) (hL : 0 < L) : ∀ n, below L F n ≤ n
  | 0 => by
    unfold below cnt
    rw [Nat.zero_div, Nat.zero_mul, Nat.zero_mod, List.filter_eq_nil_iff.mpr fun f _ => by simp]
    exact Nat.le_refl _
  | n + 1 => by
    have := below_le hF hL n
    rw [below_succ hF hL]
    split <;> omega
theorem big_mulW2 {a b c : Nat} {j : Int} (ha : a ≤ 2 ^ 500000) (hb : b ≤ 2 ^ 500000) (hj : j.natAbs < 2 ^ 64) : CMulW (((a + b) / c : Nat) : Int) j := by
  refine mulW 500002 64 ?_ hj
  have h1 : (2 : Nat) ^ 500000 + 2 ^ 500000 = 2 ^ 500001 := by rw [← Nat.two_mul, ← Nat.pow_succ']
  have h2 : (2 : Nat) ^ 500001 < 2 ^ 500002 := Nat.pow_lt_pow_right (by decide) (by decide)
  have h3 := Nat.div_le_self (a + b) c
  rw [Int.natAbs_natCast]
  omega
theorem abcd_txt : ("abcd" : Str) = txt [0, 1, 2, 3] := by decide +kernel
theorem abcd_at {j : Int} (h0 : 0 ≤ j) (h : j < 4) : atI ("abcd" : Str).cps.toList j = some (97 + j.toNat) := by
  obtain ⟨n, rfl⟩ := Int.eq_ofNat_of_zero_le h0
  refine atI_nat ?_
  have hn : n < 4 := by omega
  match n, hn with
  | 0, _ => rfl
  | 1, _ => rfl
  | 2, _ => rfl
  | 3, _ => rfl
theorem abcd_idx : ∀ d, d < 4 → Txt.index0 ("abcd" : Str) ⟨#[97 + d]⟩ = some d := by decide +kernel
theorem all_snoc {L : Nat} {ds : List Nat} {x : Nat} (h : ∀ d ∈ ds, d < L) (hx : x < L) : ∀ d ∈ ds ++ [x], d < L := fun d hd => by
  rcases List.mem_append.mp hd with hd | hd
  · exact h d hd
  · rw [List.mem_singleton.mp hd]; exact hx
theorem mk0_snoc {L : Nat} {ds : List Nat} {x : Nat} (h : ∀ d ∈ ds, d < L) (hx : x < L) (h0 : x ≠ 0) : Mk0 L (ds ++ [x]) := ⟨all_snoc h hx, fun _ => by simpa using h0⟩
theorem mk0_app {L : Nat} {a b : List Nat} (h : ∀ d ∈ a, d < L) (hb : Mk0 L b) (h0 : b ≠ []) : Mk0 L (a ++ b) := ⟨fun d hd => by
  rcases List.mem_append.mp hd with hd | hd
  · exact h d hd
  · exact hb.lt d hd, fun _ => by rw [List.getLast_append_of_ne_nil _ h0]; exact hb.last h0⟩
theorem slice_txt_to {ds : List Nat} {j : Int} (h : 0 ≤ j) : Txt.slice (txt ds) none (some j) = txt (ds.take j.toNat) := by
  unfold txt
  rw [slice_to h, ← List.map_take]
theorem mul_a {n : Int} : Txt.mul ("a" : Str) n = txt (List.replicate n.toNat 0) := by
  refine str_ext ?_
  refine (mul_one_list 97 n).trans ?_
  rw [txt_tl, List.map_replicate]
/-- all texts of k letters, rising -/
def allT (L k : Nat) : List Str := (List.range (L ^ k)).map fun n => txt (digs L n k)
theorem digs_next {L n i k : Nat} (hi : i < L) : digs L (n * L + i) (k + 1) = digs L n k ++ [i] := by
  rw [digs_succ, Nat.mul_comm n L, Nat.mul_add_div (by omega), Nat.div_eq_of_lt hi, Nat.add_zero, Nat.mul_add_mod, Nat.mod_eq_of_lt hi]
theorem range_mul (L : Nat) : ∀ n, List.range (n * L) = (List.range n).flatMap fun a => (List.range L).map fun i => a * L + i
  | 0 => by rw [Nat.zero_mul]; rfl
  | n + 1 => by
    rw [List.range_succ, List.flatMap_append, ← range_mul L n, Nat.add_mul, Nat.one_mul, List.range_add]
    simp
/-- what is told of the first j texts, made longer by one letter -/
def moreT (L k j i : Nat) : List Str := (List.range (j * L + i)).map fun n => txt (digs L n (k + 1))
theorem moreT_succ {L k j i : Nat} (hi : i < L) : moreT L k j (i + 1) = moreT L k j i ++ [txt (digs L j k ++ [i])] := by
  unfold moreT
  rw [← Nat.add_assoc, List.range_succ, List.map_append, List.map_singleton, digs_next hi]
theorem moreT_turn (L k j : Nat) : moreT L k j L = moreT L k (j + 1) 0 := by
  unfold moreT
  rw [Nat.add_mul, Nat.one_mul]
  rfl
theorem moreT_end (L k : Nat) : moreT L k (L ^ k) 0 = allT L (k + 1) := by
  unfold moreT allT
  rw [Nat.pow_succ]
  rfl
theorem moreT_len (L k j i : Nat) : (moreT L k j i).length = j * L + i := by unfold moreT; rw [List.length_map, List.length_range]
theorem allT_len (L k : Nat) : (allT L k).length = L ^ k := by unfold allT; rw [List.length_map, List.length_range]
theorem allT_get {L k j : Nat} (h : j < L ^ k) : ((allT L k).map V.str).getD j .non = .str (txt (digs L j k)) := by
  unfold allT
  rw [List.getD_eq_getElem?_getD, List.getElem?_map, List.getElem?_map, List.getElem?_range h]; rfl
theorem digs_last {L n k : Nat} : (digs L n (k + 1)).getD k 0 = n % L := by
  rw [digs_succ, List.getD_eq_getElem?_getD, List.getElem?_append_right (by rw [digs_len]; exact Nat.le_refl _), digs_len, Nat.sub_self]; rfl
def lowB (lo : Option (List Nat)) (x : List Nat) : Bool := match lo with | none => true | some a => decide (a < x)
def highB (hi : Option (List Nat)) (x : List Nat) : Bool := match hi with | none => true | some b => decide (x < b)
theorem betwB_iff (lo hi : Option (List Nat)) (x : List Nat) : (lowB lo x && highB hi x) = true ↔ Betw lo hi x := by
  rw [Bool.and_eq_true]
  refine and_congr ?_ ?_
  · cases lo with
    | none => exact ⟨fun _ a z => (nomatch z), fun _ => rfl⟩
    | some a => exact ⟨fun z b hb => by cases hb; exact of_decide_eq_true z, fun z => decide_eq_true (z a rfl)⟩
  · cases hi with
    | none => exact ⟨fun _ a z => (nomatch z), fun _ => rfl⟩
    | some a => exact ⟨fun z b hb => by cases hb; exact of_decide_eq_true z, fun z => decide_eq_true (z a rfl)⟩
theorem filter_lt : ∀ {n m : Nat}, m ≤ n → (List.range n).filter (fun x => decide (x < m)) = List.range m
  | 0, m, h => by rw [Nat.le_zero.mp h]; rfl
  | n + 1, m, h => by
    by_cases e : m = n + 1
    · rw [e]
      exact List.filter_eq_self.mpr fun x hx => decide_eq_true (List.mem_range.mp hx)
    · rw [List.range_succ, List.filter_append, filter_lt (show m ≤ n by omega), List.filter_cons, if_neg (by simp; omega), List.filter_nil, List.append_nil]
theorem mk0_digs {L n k : Nat} (hL : 0 < L) (h0 : n % L ≠ 0) : Mk0 L (digs L n (k + 1)) := ⟨digs_lt hL, fun _ => by
  have : (digs L n (k + 1)).getLast? = some (n % L) := by rw [digs_succ, List.getLast?_concat]
  rw [List.getLast?_eq_some_getLast (by rw [digs_succ]; simp)] at this
  rw [Option.some.inj this]; exact h0⟩
theorem mark_digs {L n k : Nat} (hL : 0 < L) (h0 : n % L ≠ 0) : markOf L n (k + 1) = digs L n (k + 1) := trim_last (mk0_digs hL h0).last
/-- all texts of so many letters that end with a figure of F and lie between -/
theorem between_all {L k : Nat} {F : List Nat} {lo hi : Option (List Nat)} (hL : 0 < L) (hF : Figs L F) (hF0 : 0 ∉ F) (e : Ends2 L lo hi) :
    (List.range (L ^ (k + 1))).filter (fun n => decide (n % L ∈ F) && (lowB lo (digs L n (k + 1)) && highB hi (digs L n (k + 1)))) =
      (List.range (below L F (pastN L hi (k + 1)) - below L F (lowN L lo (k + 1)))).map fun i => nth L F (below L F (lowN L lo (k + 1)) + i) := by
  rw [← nums_list hF hL (lowN L lo (k + 1)) (pastN L hi (k + 1)), ← filter_lt (past_le (k := k + 1) hL e), List.filter_filter]
  refine List.filter_congr fun n hn => ?_
  have hn2 := List.mem_range.mp hn
  by_cases h1 : n % L ∈ F
  · have h0 : n % L ≠ 0 := fun z => hF0 (z ▸ h1)
    have b := betw_iff (k := k + 1) hL e (mk0_digs (k := k) hL h0) (Nat.le_of_eq (digs_len _ _ _)) (by rw [digs_succ]; simp)
    rw [whole_digs, Nat.mod_eq_of_lt hn2] at b
    rw [decide_eq_true h1, Bool.true_and, Bool.true_and, Bool.eq_iff_iff, betwB_iff, b, Bool.and_eq_true, decide_eq_true_iff, decide_eq_true_iff]
  · rw [decide_eq_false h1, Bool.false_and, Bool.false_and, Bool.false_and]
theorem nth_mod {L : Nat} {F : List Nat} (hF : Figs L F) (m : Nat) : nth L F m % L ∈ F := by
  have hp : 0 < F.length := List.length_pos_iff.mpr hF.ne
  have h2 : F.getD (m % F.length) 0 ∈ F := by
    rw [List.getD_eq_getElem?_getD, List.getElem?_eq_getElem (Nat.mod_lt _ hp)]
    exact List.getElem_mem _
  unfold nth
  rw [Nat.mul_comm, Nat.mul_add_mod, Nat.mod_eq_of_lt (hF.lt _ h2)]
  exact h2
theorem ends_0 (L h d : Nat) : 0 ∉ ends L h d := fun z => by have := (ends_mem.mp z).1; omega
theorem below_nth {L : Nat} {F : List Nat} (hF : Figs L F) (hL : 0 < L) (m : Nat) : below L F (nth L F m) = m := by
  have hp : 0 < F.length := List.length_pos_iff.mpr hF.ne
  have hj := Nat.mod_lt m hp
  have hg : F.getD (m % F.length) 0 = F[m % F.length] := by
    rw [List.getD_eq_getElem?_getD, List.getElem?_eq_getElem hj]; rfl
  have hlt : F[m % F.length] < L := hF.lt _ (List.getElem_mem hj)
  have hc : ∀ {F : List Nat} {j : Nat} (h : j < F.length), F.Pairwise (· < ·) → cnt F F[j] = j := by
    intro F
    induction F with
    | nil => intro j h; cases h
    | cons f F ih =>
      intro j h hu
      have h2 := List.pairwise_cons.mp hu
      unfold cnt
      rw [List.filter_cons]
      cases j with
      | zero =>
        rw [if_neg (by simp), List.getElem_cons_zero, List.filter_eq_nil_iff.mpr fun x hx => by
          have := h2.1 x hx
          rw [decide_eq_true_iff]; omega]
        rfl
      | succ j =>
        have hj2 : j < F.length := by simpa using h
        have l : f < F[j] := h2.1 _ (List.getElem_mem hj2)
        rw [List.getElem_cons_succ, if_pos (decide_eq_true l), List.length_cons]
        have := ih hj2 h2.2
        unfold cnt at this
        rw [this]
  unfold below nth
  rw [hg, Nat.mul_comm (m / F.length) L, Nat.mul_add_div hL, Nat.div_eq_of_lt hlt, Nat.add_zero, Nat.mul_add_mod, Nat.mod_eq_of_lt hlt, hc hj hF.up, Nat.mul_comm]
  exact Nat.div_add_mod m F.length
/-- as many as the numbers below n that end with f -/
theorem floor_one {L n f : Nat} (hf : f < L) : ((n : Int) - 1 - f) / (L : Int) + 1 = ((n / L + if f < n % L then 1 else 0 : Nat) : Int) := by
  have h1 := Nat.div_add_mod n L
  have h2 := Nat.mod_lt n (show 0 < L by omega)
  have e : (n : Int) - 1 - f = ((n % L : Nat) : Int) - 1 - f + (L : Int) * ((n / L : Nat) : Int) := by
    have : (n : Int) = (L : Int) * ((n / L : Nat) : Int) + ((n % L : Nat) : Int) := by exact_mod_cast h1.symm
    omega
  rw [e, Int.add_mul_ediv_left _ _ (show (L : Int) ≠ 0 by omega)]
  by_cases c : f < n % L
  · rw [if_pos c, Int.ediv_eq_zero_of_lt (by omega) (by omega)]
    omega
  · rw [if_neg c]
    have : (((n % L : Nat) : Int) - 1 - f) / (L : Int) = -1 := by
      rw [Int.ediv_eq_iff_of_pos (by omega)]
      omega
    rw [this]
    omega
def floorSum (L : Nat) (n : Int) : List Nat → Int
  | [] => 0
  | f :: F => ((n - 1 - f) / (L : Int) + 1) + floorSum L n F
theorem below_sum {L n : Nat} : ∀ {F : List Nat}, (∀ f ∈ F, f < L) → floorSum L n F = (below L F n : Nat)
  | [], _ => by unfold below cnt floorSum; simp
  | f :: F, h => by
    have ih := below_sum (n := n) fun x hx => h x (List.mem_cons_of_mem _ hx)
    show _ + floorSum L n F = _
    rw [ih, floor_one (h f List.mem_cons_self)]
    unfold below cnt
    rw [List.filter_cons, List.length_cons, Nat.mul_add, Nat.mul_one]
    by_cases c : f < n % L
    · rw [if_pos c, if_pos (decide_eq_true c), List.length_cons]; omega
    · rw [if_neg c, if_neg (by rw [decide_eq_false c]; decide)]; omega
/-- the hand's figures up to the i-th -/
def figG (L h d i : Nat) : List Nat := ((List.range (min (d + i * h) (L - 1))).filter fun x => x % h == d).map (· + 1)
theorem figG_0 {L h d : Nat} (hd : d < h) : figG L h d 0 = [] := by
  unfold figG
  rw [Nat.zero_mul, Nat.add_zero, filt_none (Nat.min_le_left _ _) hd]; rfl
theorem figG_succ {L h d i : Nat} (hd : d < h) (hi : d + i * h < L - 1) : figG L h d (i + 1) = figG L h d i ++ [d + i * h + 1] := by
  unfold figG
  have e : d + (i + 1) * h = d + i * h + h := by rw [Nat.add_mul, Nat.one_mul, Nat.add_assoc]
  rw [e, show min (d + i * h) (L - 1) = d + i * h by omega, filt_step (m := d + i * h) (m2 := min (d + i * h + h) (L - 1)) (by rw [Nat.add_mul_mod_self_right, Nat.mod_eq_of_lt hd]) (by omega) (by omega), List.map_append]
  rfl
theorem figG_end {L h d n : Nat} (h1 : L - 1 ≤ d + n * h) : figG L h d n = ends L h d := by
  unfold figG ends
  rw [show min (d + n * h) (L - 1) = L - 1 by omega]
theorem floorSum_snoc (L : Nat) (n : Int) (x : Nat) : ∀ F : List Nat, floorSum L n (F ++ [x]) = floorSum L n F + ((n - 1 - x) / (L : Int) + 1)
  | [] => by show _ + 0 = 0 + _; omega
  | f :: F => by
    show _ + floorSum L n (F ++ [x]) = _ + floorSum L n F + _
    rw [floorSum_snoc L n x F]; omega
/-- there is room at a length beyond both -/
theorem room_ex {L h d k : Nat} {lo hi : Option (List Nat)} (hL : 2 ≤ L) (hd : d < h) (hh : h < L) (e : Ends2 L lo hi) (hr : ∀ a b, lo = some a → hi = some b → a < b) (hlo : ∀ a, lo = some a → a.length ≤ k) (hhi : ∀ b, hi = some b → b.length ≤ k) :
    below L (ends L h d) (lowN L lo (k + 1)) < below L (ends L h d) (pastN L hi (k + 1)) := by
  have hF := figs_ends hd hh
  have step : ∀ a : List Nat, a.length ≤ k → whole L a (k + 1) = whole L a k * L := fun a ha => by
    show whole L a k * L + a.getD k 0 = _
    rw [List.getD_eq_getElem?_getD, List.getElem?_eq_none (by omega)]; rfl
  -- low is one past a multiple of L, high a multiple of L beyond it
  obtain ⟨q, hq⟩ : ∃ q, lowN L lo (k + 1) = q * L + 1 := by
    unfold lowN
    cases lo with
    | none => exact ⟨0, by rw [Nat.zero_mul]⟩
    | some a => exact ⟨whole L a k, by show whole L a (k + 1) + 1 = _; rw [step a (hlo a rfl)]⟩
  obtain ⟨p, hp⟩ : ∃ p, pastN L hi (k + 1) = p * L := by
    unfold pastN
    cases hi with
    | none => exact ⟨L ^ k, Nat.pow_succ ..⟩
    | some b =>
      have hb := hhi b rfl
      exact ⟨whole L b k, by show (if b.length ≤ k + 1 then _ else _) = _; rw [if_pos (by omega), step b hb]⟩
  have hlt : lowN L lo (k + 1) ≤ pastN L hi (k + 1) := by
    unfold lowN pastN
    cases lo with
    | none =>
      cases hi with
      | none => exact Nat.pow_pos (by omega)
      | some b =>
        have hb := hhi b rfl
        show 1 ≤ if b.length ≤ k + 1 then _ else _
        rw [if_pos (by omega)]
        exact whole_pos (by omega) (e.hi b rfl).1 (e.hi b rfl).2 (by omega)
    | some a =>
      cases hi with
      | none => exact whole_lt (by omega) (e.lo a rfl).1.lt _
      | some b =>
        have hb := hhi b rfl
        show whole L a (k + 1) + 1 ≤ if b.length ≤ k + 1 then _ else _
        rw [if_pos (by omega)]
        exact (ltG_whole (by omega) (e.lo a rfl).1.lt (e.hi b rfl).1 (by omega)).mp (hr a b rfl rfl)
  rw [hq, hp] at hlt ⊢
  have hqp : q + 1 ≤ p := by
    refine Nat.not_lt.mp fun z => ?_
    have := Nat.mul_le_mul_right L (show p ≤ q by omega)
    omega
  have h1 : below L (ends L h d) (q * L + 1) = q * (ends L h d).length := by
    unfold below cnt
    rw [Nat.mul_comm q L, Nat.mul_add_div (by omega), Nat.div_eq_of_lt (by omega), Nat.mul_add_mod, Nat.mod_eq_of_lt (show 1 < L by omega), Nat.add_zero, List.filter_eq_nil_iff.mpr fun f hf => by
      have := (ends_mem.mp hf).1
      rw [decide_eq_true_iff]; omega]
    rfl
  have h2 : below L (ends L h d) (p * L) = p * (ends L h d).length := by
    unfold below cnt
    rw [Nat.mul_div_cancel _ (by omega), Nat.mul_mod_left, List.filter_eq_nil_iff.mpr fun f _ => by simp]
    rfl
  have h3 : 0 < (ends L h d).length := List.length_pos_iff.mpr hF.ne
  rw [h1, h2]
  exact Nat.mul_lt_mul_of_pos_right (by omega) h3
theorem rgC_small {a b c : Nat} (hc : 0 < c) (hc2 : c ≤ 1000) (h : a < b) (hb : b ≤ 1000) : RgC (a : Int) (b : Int) (c : Int) ((b - a - 1) / c + 1) := by
  have e : Builtin.Range.rangeSize (a : Int) (b : Int) (c : Int) = (((b - a - 1) / c + 1 : Nat) : Int) := by
    unfold Builtin.Range.rangeSize
    rw [if_pos (show (c : Int) > 0 by omega), if_pos (show (a : Int) < b by omega), show (b : Int) - a - 1 = ((b - a - 1 : Nat) : Int) by omega]
    rfl
  have h2 : (b - a - 1) / c ≤ b := Nat.le_trans (Nat.div_le_self _ _) (by omega)
  have h3 : (b - a - 1) / c * c ≤ b - a - 1 := Nat.div_mul_le_self _ _
  refine ⟨by omega, by omega, ?_, e⟩
  unfold Builtin.Range.small
  rw [e]
  simp only [Builtin.Range.rangeFitsLong, Bool.and_eq_true, Bool.or_eq_true, decide_eq_true_eq, beq_iff_eq, show (c : Int) > 0 by omega, if_true]
  generalize (b - a - 1) / c = t at *
  omega
theorem idx_take : ∀ L, L < 27 → ∀ d, d < L → Txt.index0 (txt (List.range L)) ⟨#[97 + d]⟩ = some d := by decide +kernel
theorem take_at {L : Nat} {j : Int} (h0 : 0 ≤ j) (h : j < L) : atI (txt (List.range L)).cps.toList j = some (97 + j.toNat) := by
  obtain ⟨n, rfl⟩ := Int.eq_ofNat_of_zero_le h0
  refine atI_nat ?_
  rw [txt_tl, List.getElem?_map, List.getElem?_range (by omega)]; rfl
theorem rep_lt {L n : Nat} (hL : 0 < L) : ∀ d ∈ List.replicate n 0, d < L := fun d hd => by rw [(List.mem_replicate.mp hd).2]; exact hL
theorem app_lt {L : Nat} {a b : List Nat} (ha : ∀ d ∈ a, d < L) (hb : ∀ d ∈ b, d < L) : ∀ d ∈ a ++ b, d < L := fun d hd => by
  rcases List.mem_append.mp hd with hd | hd
  · exact ha d hd
  · exact hb d hd
theorem take_lt {L n : Nat} {a : List Nat} (ha : ∀ d ∈ a, d < L) : ∀ d ∈ a.take n, d < L := fun d hd => ha d (List.mem_of_mem_take hd)
/-- what is less in its first k figures comes ahead -/
theorem trunc_lt {L : Nat} (hL : 0 < L) : ∀ {a b : List Nat} {k : Nat}, (∀ d ∈ a, d < L) → (∀ d ∈ b, d < L) → whole L a k < whole L b k → a < b
  | a, b, 0, _, _, h => absurd h (by show ¬ 0 < 0; omega)
  | [], [], k + 1, _, _, h => by rw [whole_nil] at h; omega
  | [], e :: b, k + 1, _, _, _ => List.nil_lt_cons _ _
  | d :: a, [], k + 1, _, _, h => by rw [whole_nil] at h; omega
  | d :: a, e :: b, k + 1, ha, hb, h => by
    have ha' : ∀ d ∈ a, d < L := fun x hx => ha x (List.mem_cons_of_mem _ hx)
    have hb' : ∀ d ∈ b, d < L := fun x hx => hb x (List.mem_cons_of_mem _ hx)
    rw [whole_cons, whole_cons] at h
    have h1 := whole_lt hL ha' k
    have h2 := whole_lt hL hb' k
    rw [List.cons_lt_cons_iff]
    rcases Nat.lt_trichotomy d e with z | z | z
    · exact .inl z
    · subst z
      exact .inr ⟨rfl, trunc_lt hL ha' hb' (Nat.lt_of_add_lt_add_left h)⟩
    · have y : (e + 1) * L ^ k ≤ d * L ^ k := Nat.mul_le_mul_right _ z
      rw [Nat.add_mul, Nat.one_mul] at y
      exact absurd h (by omega)
theorem whole_pad {L k : Nat} {a : List Nat} (ha : a.length ≤ k) : ∀ j, whole L a (k + j) = whole L a k * L ^ j
  | 0 => by rw [Nat.pow_zero, Nat.mul_one]; rfl
  | j + 1 => by
    show whole L a (k + j) * L + a.getD (k + j) 0 = _
    rw [whole_pad ha j, List.getD_eq_getElem?_getD, List.getElem?_eq_none (by omega), Nat.pow_succ, Nat.mul_assoc]; rfl
/-- so much room at a length well beyond both -/
theorem room_exN {L h d k j : Nat} {lo hi : Option (List Nat)} (hL : 2 ≤ L) (hd : d < h) (hh : h < L) (e : Ends2 L lo hi) (hr : ∀ a b, lo = some a → hi = some b → a < b) (hlo : ∀ a, lo = some a → a.length ≤ k) (hhi : ∀ b, hi = some b → b.length ≤ k) :
    below L (ends L h d) (lowN L lo (k + (j + 1))) + 2 ^ j ≤ below L (ends L h d) (pastN L hi (k + (j + 1))) := by
  have hF := figs_ends hd hh
  obtain ⟨q, hq, hq2⟩ : ∃ q, lowN L lo (k + (j + 1)) = q * L ^ (j + 1) + 1 ∧ ∀ p, (hi = none → p = L ^ k) → (∀ b, hi = some b → p = whole L b k) → q < p := by
    cases lo with
    | none =>
      refine ⟨0, by unfold lowN; rw [Nat.zero_mul], fun p h1 h2 => ?_⟩
      cases hi with
      | none => rw [h1 rfl]; exact Nat.pow_pos (by omega)
      | some b => rw [h2 b rfl]; exact whole_pos (by omega) (e.hi b rfl).1 (e.hi b rfl).2 (hhi b rfl)
    | some a =>
      refine ⟨whole L a k, by show whole L a (k + (j + 1)) + 1 = _; rw [whole_pad (hlo a rfl)], fun p h1 h2 => ?_⟩
      cases hi with
      | none => rw [h1 rfl]; exact whole_lt (by omega) (e.lo a rfl).1.lt _
      | some b => rw [h2 b rfl]; exact (ltG_whole (by omega) (e.lo a rfl).1.lt (e.hi b rfl).1 (hhi b rfl)).mp (hr a b rfl rfl)
  obtain ⟨p, hp, hqp⟩ : ∃ p, pastN L hi (k + (j + 1)) = p * L ^ (j + 1) ∧ q < p := by
    cases hi with
    | none => exact ⟨L ^ k, Nat.pow_add .., hq2 _ (fun _ => rfl) fun b z => (nomatch z)⟩
    | some b =>
      have hb := hhi b rfl
      exact ⟨whole L b k, by show (if b.length ≤ k + (j + 1) then _ else _) = _; rw [if_pos (by omega), whole_pad hb], hq2 _ (fun z => (nomatch z)) fun b' z => by cases z; rfl⟩
  rw [hq, hp]
  have eq1 : q * L ^ (j + 1) + 1 = L * (q * L ^ j) + 1 := by rw [Nat.pow_succ, ← Nat.mul_assoc, Nat.mul_comm]
  have eq2 : p * L ^ (j + 1) = (p * L ^ j) * L := by rw [Nat.pow_succ, Nat.mul_assoc]
  rw [eq1, eq2]
  have h1 : below L (ends L h d) (L * (q * L ^ j) + 1) = q * L ^ j * (ends L h d).length := by
    unfold below cnt
    rw [Nat.mul_add_div (by omega), Nat.div_eq_of_lt (by omega), Nat.mul_add_mod, Nat.mod_eq_of_lt (show 1 < L by omega), Nat.add_zero, List.filter_eq_nil_iff.mpr fun f hf => by
      have := (ends_mem.mp hf).1
      rw [decide_eq_true_iff]; omega]
    rfl
  have h2 : below L (ends L h d) (p * L ^ j * L) = p * L ^ j * (ends L h d).length := by
    unfold below cnt
    rw [Nat.mul_div_cancel _ (by omega), Nat.mul_mod_left, List.filter_eq_nil_iff.mpr fun f _ => by simp]
    rfl
  have h3 : 1 ≤ (ends L h d).length := List.length_pos_iff.mpr hF.ne
  rw [h1, h2]
  have h4 : 2 ^ j ≤ L ^ j := Nat.pow_le_pow_left hL j
  have h5 : (q + 1) * L ^ j * (ends L h d).length ≤ p * L ^ j * (ends L h d).length := Nat.mul_le_mul_right _ (Nat.mul_le_mul_right _ hqp)
  rw [Nat.add_mul, Nat.one_mul, Nat.add_mul] at h5
  have h6 : L ^ j * 1 ≤ L ^ j * (ends L h d).length := Nat.mul_le_mul_left _ h3
  omega
theorem figG_map {L h d : Nat} (hd : d < h) : ∀ i, (∀ j, j < i → d + j * h < L - 1) → figG L h d i = (List.range i).map fun j => d + j * h + 1
  | 0, _ => figG_0 hd
  | i + 1, hi => by
    rw [figG_succ hd (hi i (by omega)), figG_map hd i fun j hj => hi j (by omega), List.range_succ, List.map_append]; rfl
theorem rngL_ends {L h d : Nat} (hd : d < h) (hh : h < L) : rngL (1 + (d : Int)) (h : Int) ((L - (1 + d) - 1) / h + 1) = (ends L h d).map natV := by
  have hmul : (L - (1 + d) - 1) / h * h ≤ L - (1 + d) - 1 := Nat.div_mul_le_self _ _
  have hmod := Nat.div_add_mod (L - (1 + d) - 1) h
  have hml := Nat.mod_lt (L - (1 + d) - 1) (show 0 < h by omega)
  rw [Nat.mul_comm] at hmod
  generalize (L - (1 + d) - 1) / h = n at *
  have hend : L - 1 ≤ d + (n + 1) * h := by
    rw [Nat.add_mul, Nat.one_mul]; omega
  rw [← figG_end hend, figG_map hd (n + 1) fun j hj => by
    have := Nat.mul_le_mul_right h (show j ≤ n by omega)
    omega]
  unfold rngL
  rw [List.map_map]
  refine List.map_congr_left fun j _ => ?_
  show V.int _ = V.int ((d + j * h + 1 : Nat) : Int)
  congr 1
  rw [Int.natCast_add, Int.natCast_add, Int.natCast_mul]; omega
/-! ### lists of one's own -/
theorem sqL_ex {K : PySem.W.Frag} {H H' : Hp} {a : Addr} {xs : List V} (h : SqL K H a xs) (e : Ex H H') : SqL K H' a xs := by
  rcases h with h | h
  · rcases h with h | ⟨ob, h⟩
    · exact .inl (.inl (e _ _ h))
    · exact .inl (.inr ⟨ob, e _ _ h⟩)
  · exact .inr h
/-- behind H0 there are lists qs, no two at one place, that hold cs -/
structure Box (H0 H : Hp) (qs : List Addr) (cs : List (List V)) : Prop where
  nd : qs.Nodup
  fresh : ∀ q ∈ qs, H0 q = none
  at_ : ∀ (i : Nat) (q : Addr) (c : List V), qs[i]? = some q → cs[i]? = some c → H q = some (.lst c)
  ex : Ex H0 H
  clo : Clo H
theorem Box.nil {H : Hp} (c : Clo H) : Box H H [] [] := ⟨.nil, fun _ h => (nomatch h), fun _ _ _ h => (by simp at h), Ex.refl H, c⟩
theorem Box.ext {H0 H H' : Hp} {qs : List Addr} {cs : List (List V)} (b : Box H0 H qs cs) (e : Ex H H') (c : Clo H') : Box H0 H' qs cs := ⟨b.nd, b.fresh, fun i q x h1 h2 => e _ _ (b.at_ i q x h1 h2), b.ex.trans e, c⟩
theorem Box.new {H0 H : Hp} {qs : List Addr} {cs : List (List V)} {p : Addr} {o : HO} (b : Box H0 H qs cs) (hp : H p = none) (ho : plainO o = true) : Box H0 (upd H p o) qs cs := b.ext (Ex.new (Ex.refl H) hp) (clo_new b.clo hp ho)
/-- a further list -/
theorem Box.add {H0 H H' : Hp} {qs : List Addr} {cs : List (List V)} {p : Addr} {c : List V} (b : Box H0 H qs cs) (hl : qs.length = cs.length) (hp : H p = none) (e : Ex H H') (h : H' p = some (.lst c)) (hc : Clo H') : Box H0 H' (qs ++ [p]) (cs ++ [c]) := by
  have n0 : ∀ q ∈ qs, q ≠ p := fun q hq e => by
    obtain ⟨i, hi, rfl⟩ := List.mem_iff_getElem.mp hq
    have := b.at_ i _ _ (List.getElem?_eq_getElem hi) (List.getElem?_eq_getElem (by omega))
    rw [e, hp] at this
    cases this
  refine ⟨List.nodup_append.mpr ⟨b.nd, by simp, fun x hx y hy => by rw [List.mem_singleton.mp hy]; exact n0 x hx⟩, fun q hq => ?_, fun i q x h1 h2 => ?_, b.ex.trans e, hc⟩
  · rcases List.mem_append.mp hq with z | z
    · exact b.fresh q z
    · rw [List.mem_singleton.mp z]; exact Ex.back b.ex hp
  · by_cases hi : i < qs.length
    · rw [List.getElem?_append_left hi] at h1
      rw [List.getElem?_append_left (by omega)] at h2
      exact e _ _ (b.at_ i q x h1 h2)
    · rw [List.getElem?_append_right (by omega)] at h1
      rw [List.getElem?_append_right (by omega)] at h2
      have hi2 : i - qs.length = 0 := by
        obtain ⟨z, _⟩ := List.getElem?_eq_some_iff.mp h1
        simpa using z
      rw [hi2] at h1
      rw [show i - cs.length = 0 by omega] at h2
      cases h1
      cases h2
      exact h
theorem Box.ne {H0 H : Hp} {qs : List Addr} {cs : List (List V)} {p q : Addr} (b : Box H0 H qs cs) (i j : Nat) (hij : i ≠ j) (hi : qs[i]? = some p) (hj : qs[j]? = some q) : p ≠ q := fun e => by
  obtain ⟨h1, e1⟩ := List.getElem?_eq_some_iff.mp hi
  obtain ⟨h2, e2⟩ := List.getElem?_eq_some_iff.mp hj
  rcases Nat.lt_or_gt_of_ne hij with z | z
  · exact List.pairwise_iff_getElem.mp b.nd i j h1 h2 z (by rw [e1, e2, e])
  · exact List.pairwise_iff_getElem.mp b.nd j i h2 h1 z (by rw [e1, e2, e])
theorem Box.set {H0 H : Hp} {qs : List Addr} {cs : List (List V)} {p : Addr} {c x : List V} (b : Box H0 H qs cs) (i : Nat) (hi : qs[i]? = some p) (hc : cs[i]? = some c) : Box H0 (upd H p (.lst x)) qs (cs.set i x) := by
  have hp := b.at_ i p c hi hc
  refine ⟨b.nd, b.fresh, fun j q y h1 h2 => ?_, fun a o e => ?_, clo_set b.clo (fun z e => by rw [hp] at e; cases e) rfl⟩
  · by_cases hj : i = j
    · subst hj
      rw [hi] at h1
      cases h1
      rw [List.getElem?_set_self (List.getElem?_eq_some_iff.mp hc).1] at h2
      cases h2
      exact upd_same
    · rw [List.getElem?_set_ne hj] at h2
      rw [upd_ne (b.ne j i (Ne.symm hj) h1 hi)]
      exact b.at_ j q y h1 h2
  · rw [upd_ne (fun z => by
      have := b.fresh p (List.mem_of_getElem? hi)
      rw [z, this] at e; cases e)]
    exact b.ex a o e
theorem Box.sq {K : PySem.W.Frag} {H0 H : Hp} {qs : List Addr} {cs : List (List V)} {p : Addr} {c : List V} (b : Box H0 H qs cs) (i : Nat) (hi : qs[i]? = some p) (hc : cs[i]? = some c) : SqL K H p c := .inl (.inl (b.at_ i p c hi hc))
theorem Box.kp {H0 H : Hp} {qs : List Addr} {cs : List (List V)} {p : Addr} {c : List V} {o : HO} (b : Box H0 H qs cs) (i : Nat) (hi : qs[i]? = some p) (hc : cs[i]? = some c) (ho : plainO o = true) : Kp H (upd H p o) := Kp.set b.clo (b.at_ i p c hi hc) ho
/-- a comprehension whose turns tell some P -/
theorem lc_ex {J : It} {n : Nat} {G : Hp → Prop} {f : Nat → V} (w : Walk J n G (YFn f)) {g : TG} {te : TE} {vs : List Nat} {σ : L2.St} {H1 : Hp} {D : Addr} {Qd : Hp → Prop} (P : V → Prop) (hn : n ≤ 1000000)
    (hG : ∀ acc, G (upd H1 D (.lst acc)))
    (turn : ∀ i acc, i < n → acc.length = i → ∀ N : Hp → Prop, (∀ y, P y → N (upd H1 D (.lst (acc ++ [y])))) →
      g (f i) (wipe σ vs) (upd H1 D (.lst acc)) fun σ2 H2 => wipe σ2 vs = wipe σ vs ∧ te σ2 H2 fun y H4 => ∃ acc, H4 D = some (.lst acc) ∧ acc.length < sizeLine ∧ N (upd H4 D (.lst (acc ++ [y]))))
    (hgm : ∀ x σ0 H0 (Q Q' : L2.St → Hp → Prop), (∀ s h, Q s h → Q' s h) → g x σ0 H0 Q → g x σ0 H0 Q')
    (hq : ∀ acc : List V, acc.length = n → (∀ y ∈ acc, P y) → Qd (upd H1 D (.lst acc))) :
    ∃ W : Nat → Nat → Hp → Prop, (∃ m, W 0 m (upd H1 D (.lst []))) ∧ ∀ i m H, W i m H →
      (J.stop i H ∧ Qd H) ∨ (J.go i H ∧ ∃ Nx : Hp → Prop, (∀ H', Nx H' → ∃ m', m' < m ∧ W (i + 1) m' H') ∧ ∀ x H', J.yld i H x H' → g x (wipe σ vs) H' fun σ2 H2 => wipe σ2 vs = wipe σ vs ∧ tYes σ2 H2 fun b H3 =>
        if b = true then te σ2 H3 fun y H4 => ∃ acc, H4 D = some (.lst acc) ∧ acc.length < sizeLine ∧ Nx (upd H4 D (.lst (acc ++ [y]))) else Nx H3) := by
  refine lc_it w (fun i H => ∃ acc : List V, acc.length = i ∧ (∀ y ∈ acc, P y) ∧ H = upd H1 D (.lst acc)) ⟨[], rfl, fun _ h => (nomatch h), rfl⟩ (fun i H _ h => by obtain ⟨acc, _, _, e⟩ := h; rw [e]; exact hG _) ?_ (fun H h => by
    obtain ⟨acc, h1, h2, rfl⟩ := h
    exact hq acc h1 h2)
  rintro i x H H' hi ⟨acc, hl, hP, rfl⟩ ⟨rfl, rfl⟩
  refine hgm _ _ _ _ _ (fun s h z => ?_) (turn i acc hi hl (fun H => ∃ acc : List V, acc.length = i + 1 ∧ (∀ y ∈ acc, P y) ∧ H = upd H1 D (.lst acc)) fun y hy => ⟨acc ++ [y], by rw [List.length_append, hl]; rfl, fun z hz => ?_, rfl⟩)
  · exact ⟨z.1, z.2⟩
  · rcases List.mem_append.mp hz with hz | hz
    · exact hP z hz
    · rw [List.mem_singleton.mp hz]; exact hy
theorem join_codes (cs : List Nat) : Txt.join ("" : Str) (cs.map fun c => S [c]) = S cs := by
  have e : (cs.map fun c => S [c]) = ((cs.map fun c => [c]).map S) := by rw [List.map_map]; rfl
  rw [e, show ("" : Str) = S [] by decide +kernel, join_S]
  refine congrArg S ?_
  clear e
  induction cs with
  | nil => rfl
  | cons a r ih =>
    cases r with
    | nil => rfl
    | cons b r =>
      show [a] ++ ([] ++ TL.joinL [] ((b :: r).map fun d => [d])) = _
      rw [ih]; rfl
theorem sum_codes : ∀ cs : List Nat, ((cs.map fun c => S [c]).map (·.length)).sum = cs.length
  | [] => rfl
  | d :: ds => by
    rw [List.map_cons, List.map_cons, List.sum_cons, sum_codes ds, S_len]
    show 1 + ds.length = ds.length + 1
    omega
theorem codes_ex {P : Nat → Prop} : ∀ acc : List V, (∀ y ∈ acc, ∃ c, P c ∧ y = .str (S [c])) → ∃ cs : List Nat, cs.length = acc.length ∧ (∀ c ∈ cs, P c) ∧ acc = (cs.map fun c => S [c]).map V.str
  | [], _ => ⟨[], rfl, fun _ h => (nomatch h), rfl⟩
  | y :: r, h => by
    obtain ⟨c, hc, rfl⟩ := h y List.mem_cons_self
    obtain ⟨cs, h1, h2, h3⟩ := codes_ex r fun z hz => h z (List.mem_cons_of_mem _ hz)
    exact ⟨c :: cs, by simp [h1], all1 hc h2, by rw [h3]; rfl⟩
theorem Box.notin {H0 H : Hp} {qs : List Addr} {cs : List (List V)} {p : Addr} (b : Box H0 H qs cs) (hl : qs.length = cs.length) (hp : H p = none) : ∀ q ∈ qs, q ≠ p := fun q hq e => by
  obtain ⟨i, hi, rfl⟩ := List.mem_iff_getElem.mp hq
  have := b.at_ i _ _ (List.getElem?_eq_getElem hi) (List.getElem?_eq_getElem (by omega))
  rw [e, hp] at this
  cases this
theorem Box.put {H0 H : Hp} {qs : List Addr} {cs : List (List V)} {p : Addr} {c : List V} (b : Box H0 H qs cs) (hl : qs.length = cs.length) (n : ∀ q ∈ qs, q ≠ p) (h0 : H0 p = none) (h : H p = some (.lst c)) : Box H0 H (qs ++ [p]) (cs ++ [c]) := by
  refine ⟨List.nodup_append.mpr ⟨b.nd, by simp, fun x hx y hy => by rw [List.mem_singleton.mp hy]; exact n x hx⟩, fun q hq => ?_, fun i q x h1 h2 => ?_, b.ex, b.clo⟩
  · rcases List.mem_append.mp hq with z | z
    · exact b.fresh q z
    · rw [List.mem_singleton.mp z]; exact h0
  · by_cases hi : i < qs.length
    · rw [List.getElem?_append_left hi] at h1
      rw [List.getElem?_append_left (by omega)] at h2
      exact b.at_ i q x h1 h2
    · rw [List.getElem?_append_right (by omega)] at h1
      rw [List.getElem?_append_right (by omega)] at h2
      have hi2 : i - qs.length = 0 := by
        obtain ⟨z, _⟩ := List.getElem?_eq_some_iff.mp h1
        simpa using z
      rw [hi2] at h1
      rw [show i - cs.length = 0 by omega] at h2
      cases h1
      cases h2
      exact h
/-- two further lists -/
theorem Box.add2 {H0 H H' : Hp} {qs : List Addr} {cs : List (List V)} {p r : Addr} {c d : List V} (b : Box H0 H qs cs) (hl : qs.length = cs.length) (hp : H p = none) (hr : H r = none) (ne : p ≠ r) (e : Ex H H') (h : H' p = some (.lst c)) (h2 : H' r = some (.lst d)) (hc : Clo H') : Box H0 H' (qs ++ [p] ++ [r]) (cs ++ [c] ++ [d]) := by
  have b1 := (b.ext e hc).put hl (b.notin hl hp) (b.ex.back hp) h
  refine b1.put (by rw [List.length_append, List.length_append, hl]; rfl) (fun q hq => ?_) (b.ex.back hr) h2
  rcases List.mem_append.mp hq with z | z
  · exact b.notin hl hr q z
  · rw [List.mem_singleton.mp z]; exact ne
theorem clo_made {H : Hp} {x dx C : Addr} (c : Clo H) (hx : H x = none) (hd : H dx = none) (ne : dx ≠ x) : Clo (upd (upd H dx (.own x)) x (.ins C dx [])) := by
  refine clo_upd (clo_upd c hd trivial) (by rw [upd_ne ne.symm]; exact hx) ?_
  show upd (upd H dx (.own x)) x (.ins C dx []) dx = some (.own x)
  rw [upd_ne ne]
  exact upd_same
theorem ex_made {H : Hp} {x dx C : Addr} (hx : H x = none) (hd : H dx = none) : Ex H (upd (upd H dx (.own x)) x (.ins C dx [])) := Ex.new (Ex.new (Ex.refl H) hd) hx
/-- an object of one's own is changed -/
theorem Box.keep {H0 H H' : Hp} {qs : List Addr} {cs : List (List V)} {p C dx : Addr} {fs : List (Str × V)} (b : Box H0 H qs cs) (h0 : H0 p = none) (hp : H p = some (.ins C dx fs)) (k : ∀ a o, a ≠ p → H a = some o → H' a = some o) (c : Clo H') : Box H0 H' qs cs :=
  ⟨b.nd, b.fresh, fun i q x h1 h2 => k _ _ (fun e => by have := b.at_ i q x h1 h2; rw [e, hp] at this; cases this) (b.at_ i q x h1 h2), fun a o e => k _ _ (fun z => by rw [z, h0] at e; cases e) (b.ex a o e), c⟩
/-- another list in the place of the i-th -/
theorem Box.swap {H0 H : Hp} {qs : List Addr} {cs : List (List V)} {p : Addr} {x : List V} (b : Box H0 H qs cs) (i : Nat) (n : ∀ q ∈ qs, q ≠ p) (h0 : H0 p = none) (h : H p = some (.lst x)) : Box H0 H (qs.set i p) (cs.set i x) := by
  refine ⟨?_, fun q hq => ?_, fun j q y h1 h2 => ?_, b.ex, b.clo⟩
  · refine List.pairwise_iff_getElem.mpr fun a c ha hc hac => ?_
    rw [List.length_set] at ha hc
    rw [List.getElem_set, List.getElem_set]
    by_cases e1 : i = a
    · rw [if_pos e1, if_neg (by omega)]
      exact Ne.symm (n _ (List.getElem_mem hc))
    · rw [if_neg e1]
      by_cases e2 : i = c
      · rw [if_pos e2]; exact n _ (List.getElem_mem ha)
      · rw [if_neg e2]; exact List.pairwise_iff_getElem.mp b.nd a c ha hc hac
  · rcases List.mem_or_eq_of_mem_set hq with z | z
    · exact b.fresh q z
    · rw [z]; exact h0
  · by_cases e : i = j
    · subst e
      rw [List.getElem?_set] at h1 h2
      simp only [if_true] at h1 h2
      split at h1
      · split at h2
        · cases h1; cases h2; exact h
        · cases h2
      · cases h1
    · rw [List.getElem?_set_ne e] at h1 h2
      exact b.at_ j q y h1 h2
theorem eraseIdx_mapL {α β : Type} (f : α → β) : ∀ (l : List α) (n : Nat), (l.map f).eraseIdx n = (l.eraseIdx n).map f
  | [], _ => rfl
  | _ :: _, 0 => rfl
  | x :: l, n + 1 => by
    rw [List.map_cons, List.eraseIdx_cons_succ, List.eraseIdx_cons_succ, List.map_cons, eraseIdx_mapL f l n]
/-- an attribute of p is another, new lists may have come -/
theorem clo_fld {H H' : Hp} {p dx C C' : Addr} {fs fs' : List (Str × V)} (c : Clo H) (hp : H p = some (.ins C dx fs)) (hdp : dx ≠ p) (hdx : H dx = some (.own p)) (hp2 : H' p = some (.ins C' dx fs')) (k : ∀ a o, a ≠ p → H a = some o → H' a = some o)
    (n : ∀ a o, a ≠ p → H' a = some o → H a = some o ∨ plainO o = true) : Clo H' := fun a o e => by
  by_cases ha : a = p
  · rw [ha, hp2] at e
    cases e
    rw [ha]
    exact k dx _ hdp hdx
  · rcases n a o ha e with z | z
    · have y := c a o z
      clear e z
      induction o with
      | dT _ => exact y
      | ins C dx' fs =>
        have z' : H dx' = some (.own a) := y
        exact k dx' _ (fun w => by rw [w, hp] at z'; cases z') z'
      | frz ob v ih => exact ih y
      | _ => trivial
    · exact okO_plain z
theorem kp_fld {H H' : Hp} {p dx C : Addr} {fs : List (Str × V)} (c : Clo H') (hp : H p = some (.ins C dx fs)) (k : ∀ a o, a ≠ p → H a = some o → H' a = some o) : Kp H H' := by
  refine ⟨fun _ _ h => h, fun a xs e => ?_, fun a o u e => ?_, fun a ps e => ⟨#[], ?_⟩, c⟩
  · exact k a _ (fun y => by rw [y, hp] at e; cases e) e
  · exact k a _ (fun y => by rw [y, hp] at e; cases e) e
  · rw [k a _ (fun y => by rw [y, hp] at e; cases e) e, Array.append_empty]
theorem Box.pre {H0 H : Hp} {qs rs : List Addr} {cs ds : List (List V)} (hl : qs.length = cs.length) (b : Box H0 H (qs ++ rs) (cs ++ ds)) : Box H0 H qs cs :=
  ⟨(List.nodup_append.mp b.nd).1, fun q hq => b.fresh q (List.mem_append_left _ hq), fun i q c h1 h2 => by
    have a1 := (List.getElem?_eq_some_iff.mp h1).1
    refine b.at_ i q c ?_ ?_
    · rw [List.getElem?_append_left a1]; exact h1
    · rw [List.getElem?_append_left (by omega)]; exact h2, b.ex, b.clo⟩
theorem indices_last {n : Nat} (h : 1 ≤ n) : Builtin.Str.strSliceIndices none (some (-1)) 1 n = Builtin.Str.strSliceIndices none (some ((n : Int) - 1)) 1 n := by
  have h0 : ¬ (n : Int) - 1 < 0 := by omega
  have h1 : (-1 : Int) < 0 := by decide
  have h2 : (1 : Int) > 0 := by decide
  simp only [Builtin.Str.strSliceIndices, h0, h1, h2, if_false, if_true, show (-1 : Int) + (n : Int) = (n : Int) - 1 by omega]
theorem slice_cut1 {ds : List Nat} (h : 1 ≤ ds.length) : Txt.slice (txt ds) none (some (-1)) = txt (ds.take (ds.length - 1)) := by
  have e2 : Txt.slice (txt ds) none (some (-1)) = Txt.slice (txt ds) none (some ((ds.length : Int) - 1)) := by
    unfold Txt.slice
    rw [txt_len, indices_last h]
  rw [e2]
  unfold txt
  rw [slice_to (by omega), show ((ds.length : Int) - 1).toNat = ds.length - 1 by omega, ← List.map_take]
end Sm
namespace Sm
open PySem PySem.Spec PyProof.Rows L2 SX
local macro_rules | `(tactic| walk_at "b") => `(tactic| dsimp only [tNil, tCons, tC, tVar])
local macro_rules | `(tactic| walk_at "n") => `(tactic| dsimp only [tNil, tCons, tC])
local macro_rules | `(tactic| walk_at "len") => `(tactic| (intro hlen; first | (obtain ⟨e, _⟩ := hlen; subst e; rfl) | (obtain ⟨_, e, _⟩ := hlen; subst e; rfl) | (obtain ⟨_, _, e, _⟩ := hlen; subst e; rfl) | (obtain ⟨_, _, _, e, _⟩ := hlen; subst e; rfl) | (obtain ⟨_, _, _, _, e, _⟩ := hlen; subst e; rfl) | (obtain ⟨_, _, _, _, _, e, _⟩ := hlen; subst e; rfl) | (obtain ⟨_, _, _, _, _, _, e, _⟩ := hlen; subst e; rfl) | (obtain ⟨_, _, _, _, _, _, _, e, _⟩ := hlen; subst e; rfl) | (obtain ⟨_, _, _, _, _, _, _, _, e, _⟩ := hlen; subst e; rfl) | (obtain ⟨_, _, _, _, _, _, _, _, _, e, _⟩ := hlen; subst e; rfl) | (obtain ⟨_, _, _, _, _, _, _, _, _, _, e, _⟩ := hlen; subst e; rfl) | (obtain ⟨_, _, _, _, _, _, _, _, _, _, _, e, _⟩ := hlen; subst e; rfl) | (obtain ⟨_, _, _, _, _, _, _, _, _, _, _, _, e, _⟩ := hlen; subst e; rfl)))
local macro_rules | `(tactic| walk_at "ex") => `(tactic| first
  | assumption | exact Ex.refl _ | exact Rst.refl _ | exact upd_same
  | (refine Ex.new ?_ ?_ <;> walk_at "ex") | (refine Ex.back ?_ (by assumption) <;> walk_at "ex") | (refine Rst.new ?_ ?_ rfl <;> walk_at "ex")
  | (refine clo_new ?_ ?_ rfl <;> walk_at "ex"))
local macro_rules | `(tactic| walk_at "side") => `(tactic| first
  | with_reducible assumption | omega | (dsimp only; omega) | exact mulW64 (by omega) (by omega) | exact divW64 (by omega) (by omega) | decide | (rw [sz]; omega) | (refine ⟨?_, ?_⟩ <;> walk_at "side") | (rw [sz, txt_len]; omega) | walk_at "ex" | (rw [sz]; simp only [List.length_cons, List.length_nil]; omega) | decide +kernel)
local macro_rules | `(tactic| walk_at "go1") => `(tactic| first
  | refine ⟨_, rfl, ?_⟩
  | refine ⟨_, _, rfl, rfl, ?_⟩
  | refine ⟨_, _, rfl, ?_⟩
  | refine ⟨_, _, _, rfl, ?_⟩
  | refine ⟨rfl, ?_⟩
  | refine gTupN2 sqT_at ?_ | refine gTupN3 sqT_at ?_
  | refine ⟨tyV_list upd_same, ?_⟩ | refine ⟨tyV_list (by assumption), ?_⟩
  | refine ⟨_, _, rfl, Or.inl ‹SqL _ _ _ _›, ?_⟩
  | refine isi1 (isi_bl_bool ?_) | refine isi1 (isi_int_int ?_) | refine isi1 (isi_int_bool ?_) | refine isi1 (isi_str_str ?_) | refine isi1 (isi_lst ‹(_ : Option HO) = some (HO.lst _)› ?_)
  | refine ⟨_, _, _, _, rfl, rfl, ‹SqL _ _ _ _›, ‹atI _ _ = some _›, ?_⟩
  | refine ⟨_, _, _, rfl, rfl, (by walk_at "side"), ‹atI _ _ = some _›, ?_⟩)
local macro_rules | `(tactic| walk_at "go2") => `(tactic| first | walk_at "go1" | refine And.intro (by walk_at "side") ?_ | refine ⟨_, Trim.back (by walk_at "ex") ‹Clo _›, ?_⟩)
local macro_rules | `(tactic| walk_at "go") => `(tactic| repeat walk_at "go2")
local macro_rules | `(tactic| walk_at "if") => `(tactic| first | refine iteEI ?_ ?_ | refine iteNI ?_ ?_ | refine iteES ?_ ?_ | refine iteNS' ?_ ?_ | refine iteD ?_ ?_ | refine iteDN ?_ ?_ | refine ite2 ?_ ?_)
local macro_rules | `(tactic| walk_at "sq") => `(tactic| first | assumption | exact sqL_at | exact sqT_at | (refine sqL_new ?_ ?_ <;> walk_at "sq") | walk_at "ex")
local macro_rules | `(tactic| walk_at "draw") => `(tactic| refine ⟨_, _, _, _, rfl, (by walk_at "sq"), ‹_ ≤ 63›, (by omega), (by omega), (by omega), (by omega), ?_⟩)
local macro_rules | `(tactic| walk_at "tr") => `(tactic| first | exact tr_same | exact tr_some (by assumption) | (refine tr_upd ?_; walk_at "tr"))
local macro_rules | `(tactic| walk_at "ne") => `(tactic| first | assumption | (refine ne_fresh ?_ (by assumption); walk_at "tr") | (refine Ne.symm (ne_fresh ?_ (by assumption)); walk_at "tr"))
local macro_rules | `(tactic| walk_at "look") => `(tactic| first | exact upd_same | assumption | (refine Eq.trans (upd_ne ?_) ?_; (walk_at "ne"); (walk_at "look")))
structure Kx (K : PySem.W.Frag) : Prop where
  c_Shelf : Cls K (He.ga K "Shelf")
  m_Shelf_ask_put : Meth K (He.ga K "Shelf") "ask_put" (He.ma K (He.ga K "Shelf") "ask_put")
  m_Shelf_longest : Meth K (He.ga K "Shelf") "longest" (He.ma K (He.ga K "Shelf") "longest")
  m_Shelf_marks : Meth K (He.ga K "Shelf") "marks" (He.ma K (He.ga K "Shelf") "marks")
  m_Shelf_marks_round : Meth K (He.ga K "Shelf") "marks_round" (He.ma K (He.ga K "Shelf") "marks_round")
  m_Shelf_put : Meth K (He.ga K "Shelf") "put" (He.ma K (He.ga K "Shelf") "put")
  m_Shelf_renew : Meth K (He.ga K "Shelf") "renew" (He.ma K (He.ga K "Shelf") "renew")
  m_Shelf_take : Meth K (He.ga K "Shelf") "take" (He.ma K (He.ga K "Shelf") "take")
  m_Shelf_things : Meth K (He.ga K "Shelf") "things" (He.ma K (He.ga K "Shelf") "things")
  mk_Shelf : Mk K (He.ga K "Shelf") (He.ma K (He.ga K "Shelf") "__init__")
  a_Shelf_letters : NoAttr K (He.ga K "Shelf") "letters"
  a_Shelf_row_marks : NoAttr K (He.ga K "Shelf") "row_marks"
  a_Shelf_row_things : NoAttr K (He.ga K "Shelf") "row_things"
/-! ### shelves -/
def shF (L : Int) (lt lm : Addr) : List (Str × V) := [("letters", .int L), ("row_things", .ref lt), ("row_marks", .ref lm)]
structure IsShelf (K : PySem.W.Frag) (H : Hp) (p lt lm : Addr) (L : Int) (ts ms : List Str) : Prop where
  at_ : ∃ dx, H p = some (.ins (He.ga K "Shelf") dx (shF L lt lm))
  lt : H lt = some (.lst (ts.map V.str))
  lm : H lm = some (.lst (ms.map V.str))
section
variable {K : PySem.W.Frag} {H : Hp} {p lt lm : Addr} {L : Int} {ts ms : List Str}
theorem IsShelf.ex {H' : Hp} (h : IsShelf K H p lt lm L ts ms) (e : Ex H H') : IsShelf K H' p lt lm L ts ms := by
  obtain ⟨⟨dx, h1⟩, h2, h3⟩ := h
  exact ⟨⟨dx, e _ _ h1⟩, e _ _ h2, e _ _ h3⟩
theorem ins_ne_lst {a b C dx : Addr} {fs : List (Str × V)} {xs : List V} (h1 : H a = some (.ins C dx fs)) (h2 : H b = some (.lst xs)) : a ≠ b := fun e => by
  rw [e, h2] at h1
  cases h1
theorem IsShelf.upd {q : Addr} {o : HO} (h : IsShelf K H p lt lm L ts ms) (h1 : p ≠ q) (h2 : lt ≠ q) (h3 : lm ≠ q) : IsShelf K (upd H q o) p lt lm L ts ms := by
  obtain ⟨⟨dx, e1⟩, e2, e3⟩ := h
  exact ⟨⟨dx, by rw [upd_ne h1]; exact e1⟩, by rw [upd_ne h2]; exact e2, by rw [upd_ne h3]; exact e3⟩
/-- a list elsewhere is changed -/
theorem IsShelf.other {q : Addr} {xs : List V} {o : HO} (h : IsShelf K H p lt lm L ts ms) (hq : H q = some (.lst xs)) (h2 : lt ≠ q) (h3 : lm ≠ q) : IsShelf K (L2.upd H q o) p lt lm L ts ms := by
  obtain ⟨dx, e1⟩ := h.at_
  exact h.upd (ins_ne_lst e1 hq) h2 h3
theorem IsShelf.set_t {ts' : List Str} (h : IsShelf K H p lt lm L ts ms) (ne : lt ≠ lm) : IsShelf K (L2.upd H lt (.lst (ts'.map V.str))) p lt lm L ts' ms := by
  obtain ⟨⟨dx, e1⟩, e2, e3⟩ := h
  exact ⟨⟨dx, by rw [upd_ne (ins_ne_lst e1 e2)]; exact e1⟩, upd_same, by rw [upd_ne ne.symm]; exact e3⟩
theorem IsShelf.set_m {ms' : List Str} (h : IsShelf K H p lt lm L ts ms) (ne : lt ≠ lm) : IsShelf K (L2.upd H lm (.lst (ms'.map V.str))) p lt lm L ts ms' := by
  obtain ⟨⟨dx, e1⟩, e2, e3⟩ := h
  exact ⟨⟨dx, by rw [upd_ne (ins_ne_lst e1 e3)]; exact e1⟩, by rw [upd_ne ne]; exact e2, upd_same⟩
theorem shF_no {m : Str} (h1 : (m == "letters") = false) (h2 : (m == "row_things") = false) (h3 : (m == "row_marks") = false) : (shF L lt lm).lookup m = none := by
  unfold shF
  rw [List.lookup_cons, h1, List.lookup_cons, h2, List.lookup_cons, h3]
  rfl
theorem sh_meth {m : Str} {Z : Prop} (h : IsShelf K H p lt lm L ts ms) (h1 : (m == "letters") = false) (h2 : (m == "row_things") = false) (h3 : (m == "row_marks") = false) (q : Z) : ∃ a dx fs, V.ref p = .ref a ∧ H a = some (.ins (He.ga K "Shelf") dx fs) ∧ fs.lookup m = none ∧ Z := by
  obtain ⟨dx, e⟩ := h.at_
  exact ⟨_, _, _, rfl, e, shF_no h1 h2 h3, q⟩
end
/-- y put in at i -/
def insL {α : Type} (xs : List α) (i : Nat) (y : α) : List α := xs.take i ++ [y] ++ xs.drop i
theorem insL_map {α β : Type} (f : α → β) (xs : List α) (i : Nat) (y : α) : (xs.map f).take i ++ [f y] ++ (xs.map f).drop i = (insL xs i y).map f := by
  unfold insL
  rw [List.map_append, List.map_append, List.map_take, List.map_drop]
  rfl
theorem insL_map' {α β : Type} (f : α → β) (xs : List α) (i : Nat) (y : α) : insL (xs.map f) i (f y) = (insL xs i y).map f := insL_map f xs i y
theorem insL_len {α : Type} {xs : List α} {i : Nat} {y : α} (h : i ≤ xs.length) : (insL xs i y).length = xs.length + 1 := by
  unfold insL
  rw [List.length_append, List.length_append, List.length_take, List.length_drop, List.length_singleton]
  omega
def lowAt {α : Type} (M : List α) (i : Nat) : Option α := if i = 0 then none else M[i - 1]?
/-! ### ask_letters -/
/-- how many letters and hands there may be -/
def SizeOk (L h : Int) : Prop := 2 ≤ L ∧ L ≤ 26 ∧ 1 ≤ h ∧ h < L
instance {L h : Int} : Decidable (SizeOk L h) := by unfold SizeOk; infer_instance
def sp_ask_letters (K : PySem.W.Frag) : Sp := fun vs H Q E => ∃ (L h : Int), vs = [.int L, .int h] ∧ Clo H ∧ (SizeOk L h → Q .non H) ∧ (¬ SizeOk L h → E (.ref (He.ga K "NoLetters")) none H)
def t_ask_letters (K : PySem.W.Frag) (E : XK) : TS :=
  (tIfS (tOr (tTest (tOp rLtI (tVar 0) (tC (.int 2)))) (tOr (tTest (tOp rGtI (tVar 0) (tCB rLenS1 (tCons (tC (.str "abcdefghijklmnopqrstuvwxyz")) tNil)))) (tOr (tTest (tOp rLtI (tVar 1) (tC (.int 1)))) (tTest (tOp rGeI (tVar 1) (tVar 0))))))
    (tRaiseO K "NoLetters" (fun c d _ H => E c d H))
    tNext)
theorem len_ask_letters {K : PySem.W.Frag} (vs : List V) (H : Hp) (Q : VK) (E : XK) : sp_ask_letters K vs H Q E → vs.length = (["letters", "hands"] : List Str).length := by
  walk_at "len"

theorem pure_ask_letters {K : PySem.W.Frag} (T : Kx K) (vs : List V) (H : Hp) (Q : VK) (E : XK) (h : sp_ask_letters K vs H Q E) : t_ask_letters K E { nx := fun _ H' => Q .non H', rt := Q } (start ["letters", "hands"] vs) H := by
  obtain ⟨L, h, rfl, hC, q1, q2⟩ := h
  have hl := let_len
  walk_at "go"
  refine iteD (fun c => q2 fun z => by obtain ⟨_, _, _, _⟩ := z; omega) fun c1 => ?_
  walk_at "go"
  refine iteD (fun c => q2 fun z => by obtain ⟨_, _, _, _⟩ := z; omega) fun c2 => ?_
  walk_at "go"
  refine iteD (fun c => q2 fun z => by obtain ⟨_, _, _, _⟩ := z; omega) fun c3 => ?_
  walk_at "go"
  refine iteD (fun c => q2 fun z => by obtain ⟨_, _, _, _⟩ := z; omega) fun c4 => ?_
  exact q1 ⟨by omega, by omega, by omega, by omega⟩
/-! ### whole_of -/
def sp_whole_of (K : PySem.W.Frag) : Sp := fun vs H Q _ => ∃ (L k : Nat) (ds : List Nat), vs = [.int L, .str (txt ds), .int k] ∧ L ≤ 26 ∧ (∀ d ∈ ds, d < 26) ∧ ds.length ≤ 1000000 ∧ k ≤ 100000 ∧ Q (.int (whole L ds k)) H
def t_whole_of (K : PySem.W.Frag) (E : XK) : TS :=
  (tSeq (tAsg (tC (.int 0)) (gName 3))
    (tSeq (tFor (iRng1 (tCons (tVar 2) tNil)) (gName 4)
    (tSeq (tAsg (tOp rMulW (tVar 3) (tVar 0)) (gName 3))
    (tIfS (tTest (tOp rLtI (tVar 4) (tCB rLenS1 (tCons (tVar 1) tNil))))
    (tAsg (tOp rAddI (tVar 3) (tBMS K "str" rIndexS (tC (.str "abcdefghijklmnopqrstuvwxyz")) (tCons (tOp rIxS (tVar 1) (tVar 4)) tNil))) (gName 3))
    tNext)))
    (tRet (tVar 3))))
theorem len_whole_of {K : PySem.W.Frag} (vs : List V) (H : Hp) (Q : VK) (E : XK) : sp_whole_of K vs H Q E → vs.length = (["letters", "mark", "long"] : List Str).length := by
  walk_at "len"

theorem pure_whole_of {K : PySem.W.Frag} (T : Kx K) (vs : List V) (H : Hp) (Q : VK) (E : XK) (h : sp_whole_of K vs H Q E) : t_whole_of K E { nx := fun _ H' => Q .non H', rt := Q } (start ["letters", "mark", "long", "whole", "k"] vs) H := by
  obtain ⟨L, k, ds, rfl, hL, hds, hl, hk, q⟩ := h
  walk_at "go"
  refine for_fix walk_range1 (fun i σ' => ∃ x4, σ' = [some (.int L), some (.str (txt ds)), some (.int k), some (.int (whole L ds i)), x4]) trivial ⟨_, rfl⟩ ?_ ?_
  · rintro i σ' hi ⟨x4, rfl⟩
    have hi' : i < k := by simpa using hi
    have hw := whole_mulW (k := i) hL hds (by omega)
    have hlen := txt_len ds
    have hg := getD_lt (L := 26) (by decide) hds i
    walk_at "go"
    refine iteD (fun c => ?_) fun c => ?_
    · have hx := txt_at (ds := ds) (j := i) (by omega)
      have hix := idx_let (ds.getD i 0) hg
      walk_at "go"
      refine ⟨_, _, _, rfl, rfl, hix, ?_⟩
      walk_at "go"
      exact ⟨_, rfl⟩
    · have e : ds.getD i 0 = 0 := by
        rw [List.getD_eq_getElem?_getD, List.getElem?_eq_none (by omega)]; rfl
      have e2 : whole L ds (i + 1) = whole L ds i * L := by
        show whole L ds i * L + ds.getD i 0 = _
        rw [e, Nat.add_zero]
      walk_at "go"
      rw [e2]
      exact ⟨_, rfl⟩
  · rintro σ' ⟨x4, rfl⟩
    rw [Int.toNat_natCast]
    walk_at "go"
    exact q
/-! ### mark_of -/
def sp_mark_of (K : PySem.W.Frag) : Sp := fun vs H Q _ => ∃ L n k : Nat, vs = [.int L, .int n, .int k] ∧ 1 ≤ L ∧ L ≤ 26 ∧ k ≤ 100000 ∧ Clo H ∧ Q (.str (txt (markOf L n k))) H
def t_mark_of (K : PySem.W.Frag) (E : XK) : TS :=
  (tTrim (tSeq (tAsg (tLst tNil) (gName 3))
    (tSeq (tFor (iRng1 (tCons (tVar 2) tNil)) (gName 4)
    (tSeq (tTrim (tAsg (tCB rDivmod (tCons (tVar 1) (tCons (tVar 0) tNil))) (gTup K 2 (gCons (gName 1) (gCons (gName 5) gNil)))))
    (tDrop (tBM K "list" rAppend (tVar 3) (tCons (tOp rIxS (tC (.str "abcdefghijklmnopqrstuvwxyz")) (tVar 5)) tNil)))))
    (tSeq (tDrop (tBM0 K "list" rReverse (tVar 3)))
    (tRet (tBM K "str" rRstrip (tBM K "str" (rJoin K) (tC (.str "")) (tCons (tVar 3) tNil)) (tCons (tC (.str "a")) tNil)))))))
theorem len_mark_of {K : PySem.W.Frag} (vs : List V) (H : Hp) (Q : VK) (E : XK) : sp_mark_of K vs H Q E → vs.length = (["letters", "number", "long"] : List Str).length := by
  walk_at "len"

theorem pure_mark_of {K : PySem.W.Frag} (T : Kx K) (vs : List V) (H : Hp) (Q : VK) (E : XK) (h : sp_mark_of K vs H Q E) : t_mark_of K E { nx := fun _ H' => Q .non H', rt := Q } (start ["letters", "number", "long", "signs", "k", "rest"] vs) H := by
  obtain ⟨L, n, k, rfl, hL, hL2, hk, hC, q⟩ := h
  walk_at "go"
  intro p hp
  walk_at "go"
  refine for_fn walk_range1 (fun i σ' H' => ∃ x4 x5, H' = upd H p (.lst (((low L n i).map fun d => txt [d]).map V.str)) ∧ σ' = [some (.int L), some (.int ((n / L ^ i : Nat) : Int)), some (.int k), some (.ref p), x4, x5])
    ⟨_, _, rfl, by rw [Nat.pow_zero, Nat.div_one]; rfl⟩ (fun _ _ _ _ _ => trivial) ?_ ?_
  · rintro i σ' _ hi ⟨x4, x5, rfl, rfl⟩
    have hi' : i < k := by simpa using hi
    walk_at "go"
    intro p1 hp1
    refine gTupN2 sqT_at ?_
    have hc : Clo (upd H p (.lst (((low L n i).map fun d => txt [d]).map V.str))) := clo_new hC hp rfl
    have hd : ((n / L ^ i : Nat) : Int) % (L : Int) = ((n / L ^ i % L : Nat) : Int) := rfl
    have hd2 : ((n / L ^ i : Nat) : Int) / (L : Int) = ((n / L ^ (i + 1) : Nat) : Int) := by
      rw [Nat.pow_succ, ← Nat.div_div_eq_div_mul]; rfl
    have hr : n / L ^ i % L < 26 := Nat.lt_of_lt_of_le (Nat.mod_lt _ (by omega)) hL2
    rw [hd, hd2]
    refine ⟨_, Trim.back (by walk_at "ex") hc, ?_⟩
    have hx := let_at (j := ((n / L ^ i % L : Nat) : Int)) (by omega) (by omega)
    walk_at "go"
    walk_at "b"
    refine app_new ?_ ?_
    · rw [List.length_map, List.length_map, low_len, sz]; omega
    refine ⟨_, _, ?_, rfl⟩
    rw [Int.toNat_natCast]
    show upd H p (.lst _) = upd H p (.lst (((low L n i ++ [n / L ^ i % L]).map fun d => txt [d]).map V.str))
    rw [List.map_append, List.map_append]
    rfl
  · rintro σ' _ ⟨x4, x5, rfl, rfl⟩
    walk_at "go"
    refine rev_new ?_
    rw [Int.toNat_natCast, ← List.map_reverse, ← List.map_reverse]
    walk_at "go"
    walk_at "b"
    refine join_txts sqL_at ?_ ?_
    · rw [List.length_reverse, low_len]; omega
    walk_at "go"
    refine ⟨by rw [sz, txt_len, List.length_reverse, low_len]; omega, ?_⟩
    rw [rstrip_txt]
    exact ⟨_, Trim.back (by walk_at "ex") hC, q⟩
/-! ### ends_of -/
def sp_ends_of (K : PySem.W.Frag) : Sp := fun vs H Q _ => ∃ (L h d : Nat), vs = [.int L, .int h, .int d] ∧ 2 ≤ L ∧ L ≤ 26 ∧ 1 ≤ h ∧ Clo H ∧ Q (.str (txt (ends L h d))) H
def t_ends_of (K : PySem.W.Frag) (E : XK) : TS :=
  (tTrim (tRet (tTrimE (tBM K "str" (rJoin K) (tC (.str "")) (tCons (tLc (iRng2 (tCons (tC (.int 1)) (tCons (tVar 0) tNil))) (gName 3) (tTest (tOp rEq (tOp rModI (tOp rSubI (tVar 3) (tC (.int 1))) (tVar 1)) (tVar 2))) (tOp rIxS (tC (.str "abcdefghijklmnopqrstuvwxyz")) (tVar 3)) [3]) tNil)))))
theorem len_ends_of {K : PySem.W.Frag} (vs : List V) (H : Hp) (Q : VK) (E : XK) : sp_ends_of K vs H Q E → vs.length = (["letters", "hands", "hand"] : List Str).length := by
  walk_at "len"

theorem pure_ends_of {K : PySem.W.Frag} (T : Kx K) (vs : List V) (H : Hp) (Q : VK) (E : XK) (h : sp_ends_of K vs H Q E) : t_ends_of K E { nx := fun _ H' => Q .non H', rt := Q } (start ["letters", "hands", "hand", "k"] vs) H := by
  obtain ⟨L, h, d, rfl, hL, hL2, hh, hC, q⟩ := h
  walk_at "go"
  intro D hD
  refine lc_fn walk_range (fun i => i % h == d) (fun i => .str (txt [i + 1])) (by omega) (fun _ => trivial) ?_ ?_
  · intro i acc hi hacc N h1 h2
    have hm : (1 + (i : Int) - 1) % (h : Int) = ((i % h : Nat) : Int) := by rw [show 1 + (i : Int) - 1 = (i : Int) by omega]; rfl
    walk_at "go"
    walk_at "if"
    · intro c
      have hx := let_at (j := 1 + (i : Int)) (by omega) (by omega)
      walk_at "go"
      refine lc_end hacc (by omega) ?_
      have e : (97 + (1 + (i : Int)).toNat) = 97 + (i + 1) := by omega
      rw [e]
      exact h1 (beq_iff_eq.mpr (by omega))
    · intro c
      exact h2 (beq_eq_false_iff_ne.mpr (by omega))
  · have e : (((List.range ((L : Int) - 1).toNat).filter fun i => i % h == d).map fun i => V.str (txt [i + 1])) = ((ends L h d).map fun d => txt [d]).map V.str := by
      unfold ends
      rw [List.map_map, List.map_map, show ((L : Int) - 1).toNat = L - 1 by omega]; rfl
    rw [e]
    refine ⟨_, _, _, rfl, rfl, .inl sqL_at, ?_, ?_⟩
    · have h1 := ends_le L h d
      have h2 : ((((ends L h d).map fun d => txt [d])).map (·.length)).sum = (ends L h d).length := by
        generalize ends L h d = l
        induction l with
        | nil => rfl
        | cons a r ih =>
          rw [List.map_cons, List.map_cons, List.sum_cons, ih, List.length_cons, txt_len]
          show 1 + _ = _
          omega
      rw [h2]
      show _ + _ * 0 ≤ _
      omega
    · rw [join_txt]
      walk_at "go"
      exact q
/-! ### numbers_between -/
/-- a text or None, not too long -/
structure Ends3 (L : Nat) (lo hi : Option (List Nat)) : Prop where
  e : Ends2 L lo hi
  lol : ∀ a, lo = some a → a.length ≤ 90000
  hil : ∀ b, hi = some b → b.length ≤ 90000
/-- low and high stand right -/
def Right (lo hi : Option (List Nat)) : Prop := ∀ a b, lo = some a → hi = some b → a < b
def sp_numbers_between (K : PySem.W.Frag) : Sp := fun vs H Q E => ∃ (L k : Nat) (lo hi : Option (List Nat)), vs = [.int L, optV lo, optV hi, .int k] ∧ 2 ≤ L ∧ L ≤ 26 ∧ k ≤ 90000 ∧ Ends3 L lo hi ∧ Clo H ∧
  (Right lo hi → ∀ p, H p = none → Q (.ref p) (upd H p (.tup [.int (lowN L lo k : Nat), .int ((pastN L hi k : Nat) - 1 : Int)]))) ∧ (¬ Right lo hi → E (.ref (He.ga K "NoRoom")) none H)
def t_numbers_between (K : PySem.W.Frag) (E : XK) : TS :=
  (tTrim (tMeet (tIfS (tAnd (tTest (tOp rNotN (tVar 1) (tC .non))) (tAnd (tTest (tOp rNotN (tVar 2) (tC .non))) (tNot (tTest (tOp rLtS (tVar 1) (tVar 2))))))
    (tRaiseO K "NoRoom" (fun c d _ H => E c d H))
    tNext)
    (tSeq (tAsg (tC (.int 1)) (gName 4))
    (tMeet (tIfS (tTest (tOp rNotN (tVar 1) (tC .non)))
    (tAsg (tOp rAddI (tCall (sp_whole_of K) [] E (tCons (tVar 0) (tCons (tVar 1) (tCons (tVar 3) tNil)))) (tC (.int 1))) (gName 4))
    tNext)
    (tSeq (tAsg (tC (.int 1)) (gName 5))
    (tSeq (tFor (iRng1 (tCons (tVar 3) tNil)) (gName 6)
    (tAsg (tOp rMulW (tVar 5) (tVar 0)) (gName 5)))
    (tSeq (tAsg (tOp rSubI (tVar 5) (tC (.int 1))) (gName 5))
    (tMeet (tIfS (tTest (tOp rNotN (tVar 2) (tC .non)))
    (tSeq (tAsg (tCall (sp_whole_of K) [] E (tCons (tVar 0) (tCons (tVar 2) (tCons (tVar 3) tNil)))) (gName 5))
    (tIfS (tTest (tOp rLeI (tCB rLenS1 (tCons (tVar 2) tNil)) (tVar 3)))
    (tAsg (tOp rSubI (tVar 5) (tC (.int 1))) (gName 5))
    tNext))
    tNext)
    (tRet (tTup (tCons (tVar 4) (tCons (tVar 5) tNil))))))))))))
theorem len_numbers_between {K : PySem.W.Frag} (vs : List V) (H : Hp) (Q : VK) (E : XK) : sp_numbers_between K vs H Q E → vs.length = (["letters", "low", "high", "long"] : List Str).length := by
  walk_at "len"

theorem pure_numbers_between {K : PySem.W.Frag} (T : Kx K) (vs : List V) (H : Hp) (Q : VK) (E : XK) (h : sp_numbers_between K vs H Q E) : t_numbers_between K E { nx := fun _ H' => Q .non H', rt := Q } (start ["letters", "low", "high", "long", "least", "most", "k"] vs) H := by
  obtain ⟨L, k, lo, hi, rfl, hL, hL2, hk, he, hC, q1, q2⟩ := h
  by_cases hr : Right lo hi
  · have q := q1 hr
    clear q1 q2
    refine meet_fix (fun σ' => σ' = [some (.int L), some (optV lo), some (optV hi), some (.int k), none, none, none]) ?_ ?_
    · walk_at "go"
      cases lo with
      | none =>
        refine iteF ?_
        exact ⟨rfl, rfl⟩
      | some a =>
        refine iteT ?_
        walk_at "go"
        cases hi with
        | none =>
          refine iteF ?_
          exact ⟨rfl, rfl⟩
        | some b =>
          refine iteT ?_
          walk_at "go"
          have hab := hr a b rfl rfl
          rw [txt_lt, decide_eq_true hab]
          exact ⟨rfl, rfl⟩
    rintro _ rfl
    walk_at "go"
    refine meet_fix (fun σ' => σ' = [some (.int L), some (optV lo), some (optV hi), some (.int k), some (.int (lowN L lo k : Nat)), none, none]) ?_ ?_
    · walk_at "go"
      cases lo with
      | none =>
        refine iteF ?_
        exact ⟨rfl, rfl⟩
      | some a =>
        refine iteT ?_
        have hm := (he.e.lo a rfl).1
        have hla := he.lol a rfl
        have hlt : ∀ d ∈ a, d < 26 := fun d hd => Nat.lt_of_lt_of_le (hm.lt d hd) hL2
        walk_at "go"
        rfl
    rintro _ rfl
    walk_at "go"
    refine for_fix walk_range1 (fun i σ' => ∃ x6, σ' = [some (.int L), some (optV lo), some (optV hi), some (.int k), some (.int (lowN L lo k : Nat)), some (.int ((L ^ i : Nat) : Int)), x6]) trivial ⟨_, rfl⟩ ?_ ?_
    · rintro i σ' hi ⟨x6, rfl⟩
      have hi' : i < k := by simpa using hi
      have hw := pow_mulW (k := i) hL2 (by omega)
      walk_at "go"
      refine ⟨some (.int i), ?_⟩
      rw [Nat.pow_succ]
      rfl
    rintro σ' ⟨x6, rfl⟩
    rw [Int.toNat_natCast]
    walk_at "go"
    refine meet_fix (fun σ' => σ' = [some (.int L), some (optV lo), some (optV hi), some (.int k), some (.int (lowN L lo k : Nat)), some (.int ((pastN L hi k : Nat) - 1 : Int)), x6]) ?_ ?_
    · walk_at "go"
      cases hi with
      | none =>
        refine iteF ?_
        exact ⟨rfl, rfl⟩
      | some b =>
        refine iteT ?_
        have hm := (he.e.hi b rfl).1
        have hlb := he.hil b rfl
        have hlt : ∀ d ∈ b, d < 26 := fun d hd => Nat.lt_of_lt_of_le (hm.lt d hd) hL2
        have hlen := txt_len b
        walk_at "go"
        have hp : pastN L (some b) k = if b.length ≤ k then whole L b k else whole L b k + 1 := rfl
        refine iteD (fun c => ?_) fun c => ?_
        · rw [if_pos (by omega)] at hp
          walk_at "go"
          rw [hp]
          rfl
        · rw [if_neg (by omega)] at hp
          have e : ((pastN L (some b) k : Nat) - 1 : Int) = (whole L b k : Nat) := by omega
          rw [e]
          exact ⟨rfl, rfl⟩
    rintro _ rfl
    walk_at "go"
    intro p hp
    exact ⟨_, Trim.last (Rst.refl H) (Ex.refl H) hp hC rfl, q p hp⟩
  · have q := q2 hr
    refine ⟨fun _ _ => False, ?_, fun _ _ z => False.elim z⟩
    walk_at "go"
    cases lo with
    | none => exact absurd (fun a b z _ => nomatch z) hr
    | some a =>
      cases hi with
      | none => exact absurd (fun a b _ z => nomatch z) hr
      | some b =>
        have hab : ¬ a < b := fun z => hr fun a' b' h1 h2 => by cases h1; cases h2; exact z
        refine iteT ?_
        walk_at "go"
        rw [txt_lt, decide_eq_false hab]
        exact q
/-! ### figures_of -/
def sp_figures_of (K : PySem.W.Frag) : Sp := fun vs H Q _ => ∃ (L h d : Nat), vs = [.int L, .int h, .int d] ∧ 2 ≤ L ∧ L ≤ 26 ∧ 1 ≤ h ∧ Clo H ∧ ∀ p, H p = none → Q (.ref p) (upd H p (.lst ((ends L h d).map natV)))
def t_figures_of (K : PySem.W.Frag) (E : XK) : TS :=
  (tTrim (tRet (tLc (iStr (tCall (sp_ends_of K) [] E (tCons (tVar 0) (tCons (tVar 1) (tCons (tVar 2) tNil))))) (gName 3) tYes (tBMS K "str" rIndexS (tC (.str "abcdefghijklmnopqrstuvwxyz")) (tCons (tVar 3) tNil)) [3])))
theorem len_figures_of {K : PySem.W.Frag} (vs : List V) (H : Hp) (Q : VK) (E : XK) : sp_figures_of K vs H Q E → vs.length = (["letters", "hands", "hand"] : List Str).length := by
  walk_at "len"

theorem pure_figures_of {K : PySem.W.Frag} (T : Kx K) (vs : List V) (H : Hp) (Q : VK) (E : XK) (h : sp_figures_of K vs H Q E) : t_figures_of K E { nx := fun _ H' => Q .non H', rt := Q } (start ["letters", "hands", "hand", "sign"] vs) H := by
  obtain ⟨L, h, d, rfl, hL, hL2, hh, hC, q⟩ := h
  walk_at "go"
  intro p hp
  have hl := ends_le L h d
  have hsz : (txt (ends L h d)).cps.size = (ends L h d).length := txt_len _
  refine lc_fn walk_strF (fun _ => true) (fun i => natV ((ends L h d).getD i 0)) (by omega) (fun _ => trivial) ?_ ?_
  · intro i acc hi ha N hN _
    have hi' : i < (ends L h d).length := by omega
    have e : (txt (ends L h d)).cps.toList.getD i 0 = 97 + (ends L h d).getD i 0 := by
      rw [txt_tl, List.getD_eq_getElem?_getD, List.getElem?_map, List.getElem?_eq_getElem hi', List.getD_eq_getElem?_getD, List.getElem?_eq_getElem hi']; rfl
    have hf : (ends L h d).getD i 0 < 26 := getD_lt (by decide) (fun f hf => Nat.lt_of_lt_of_le (ends_mem.mp hf).2.1 hL2) i
    have hix := idx_let _ hf
    rw [e]
    walk_at "go"
    refine ⟨_, _, _, rfl, rfl, hix, ?_⟩
    exact lc_end ha (by omega) (hN rfl)
  · rw [hsz, filt_all, range_mapF (ends L h d) 0 natV]
    exact ⟨_, Trim.last (Rst.refl H) (Ex.refl H) hp hC rfl, q p hp⟩
/-! ### many_below -/
def sp_many_below (K : PySem.W.Frag) : Sp := fun vs H Q _ => ∃ (L n : Nat) (p : Addr) (F : List Nat), vs = [.int L, .ref p, .int n] ∧ 2 ≤ L ∧ L ≤ 26 ∧ H p = some (.lst (F.map natV)) ∧ F.length ≤ 1000 ∧ n ≤ 2 ^ 500000 ∧ Clo H ∧ Q (.int (below L F n)) H
def t_many_below (K : PySem.W.Frag) (E : XK) : TS :=
  (tTrim (tSeq (tTrim (tAsg (tCB rDivmod (tCons (tVar 2) (tCons (tVar 0) tNil))) (gTup K 2 (gCons (gName 3) (gCons (gName 4) gNil)))))
    (tRet (tTrimE (tOp rAddI (tOp rMulW (tVar 3) (tCB (rLenQ K) (tCons (tVar 1) tNil))) (tCB (rLenQ K) (tCons (tLc (iList K (tVar 1)) (gName 5) (tTest (tOp rLtI (tVar 5) (tVar 4))) (tVar 5) [5]) tNil)))))))
theorem len_many_below {K : PySem.W.Frag} (vs : List V) (H : Hp) (Q : VK) (E : XK) : sp_many_below K vs H Q E → vs.length = (["letters", "figures", "number"] : List Str).length := by
  walk_at "len"

theorem pure_many_below {K : PySem.W.Frag} (T : Kx K) (vs : List V) (H : Hp) (Q : VK) (E : XK) (h : sp_many_below K vs H Q E) : t_many_below K E { nx := fun _ H' => Q .non H', rt := Q } (start ["letters", "figures", "number", "rounds", "rest", "one"] vs) H := by
  obtain ⟨L, n, p, F, rfl, hL, hL2, hp, hF, hn, hC, q⟩ := h
  have hS : SqL K H p (F.map natV) := .inl (.inl hp)
  have hS2 : ∀ (r : Addr) (o : HO), H r = none → SqL K (upd H r o) p (F.map natV) := fun r o hr => sqL_new hS hr
  have hlen : (F.map natV).length = F.length := List.length_map _
  walk_at "go"
  intro p1 hp1
  walk_at "go"
  refine ⟨big_mulW (Nat.le_trans (Nat.div_le_self n L) hn) (by rw [hlen]; omega), ?_⟩
  walk_at "go"
  refine ⟨⟨_, hS⟩, ?_⟩
  intro D hD
  refine lc_fn (walk_listF (xs := F.map natV)) (fun i => decide (F.getD i 0 < n % L)) (fun i => natV (F.getD i 0)) (by rw [hlen]; omega) (fun acc => hS2 _ _ hD) ?_ ?_
  · intro i acc hi ha N h1 h2
    have hi' : i < F.length := by rw [hlen] at hi; exact hi
    have e : (F.map natV).getD i .non = .int ((F.getD i 0 : Nat) : Int) := by
      rw [List.getD_eq_getElem?_getD, List.getElem?_map, List.getElem?_eq_getElem hi', List.getD_eq_getElem?_getD, List.getElem?_eq_getElem hi']; rfl
    rw [e]
    walk_at "go"
    refine iteD (fun c => ?_) fun c => ?_
    · walk_at "go"
      exact lc_end ha (by omega) (h1 (decide_eq_true (by omega)))
    · exact h2 (decide_eq_false (by omega))
  · rw [hlen, range_filter_map F 0 (fun f => decide (f < n % L)) natV]
    walk_at "go"
    refine ⟨_, _, rfl, .inl sqL_at, ?_⟩
    rw [List.length_map]
    refine ⟨_, _, rfl, rfl, ?_⟩
    exact ⟨_, Trim.back (by walk_at "ex") hC, _, Trim.refl hC, q⟩
/-! ### room_at -/
def roomN (L : Nat) (F : List Nat) (lo hi : Option (List Nat)) (k : Nat) : Nat := below L F (pastN L hi k) - below L F (lowN L lo k)
def sp_room_at (K : PySem.W.Frag) : Sp := fun vs H Q E => ∃ (L h d k : Nat) (lo hi : Option (List Nat)), vs = [.int L, .int h, .int d, optV lo, optV hi, .int k] ∧ 2 ≤ L ∧ L ≤ 26 ∧ d < h ∧ h < L ∧ k ≤ 90000 ∧ Ends3 L lo hi ∧ Clo H ∧
  (Right lo hi → Q (.int (roomN L (ends L h d) lo hi k : Nat)) H) ∧ (¬ Right lo hi → E (.ref (He.ga K "NoRoom")) none H)
def t_room_at (K : PySem.W.Frag) (E : XK) : TS :=
  (tTrim (tSeq (tTrim (tAsg (tCall (sp_numbers_between K) [] E (tCons (tVar 0) (tCons (tVar 3) (tCons (tVar 4) (tCons (tVar 5) tNil))))) (gTup K 2 (gCons (gName 6) (gCons (gName 7) gNil)))))
    (tSeq (tIfS (tTest (tOp rLtI (tVar 7) (tVar 6)))
    (tRet (tC (.int 0)))
    tNext)
    (tSeq (tAsg (tCall (sp_figures_of K) [] E (tCons (tVar 0) (tCons (tVar 1) (tCons (tVar 2) tNil)))) (gName 8))
    (tRet (tOp rSubI (tCall (sp_many_below K) [] E (tCons (tVar 0) (tCons (tVar 8) (tCons (tOp rAddI (tVar 7) (tC (.int 1))) tNil)))) (tCall (sp_many_below K) [] E (tCons (tVar 0) (tCons (tVar 8) (tCons (tVar 6) tNil))))))))))
theorem len_room_at {K : PySem.W.Frag} (vs : List V) (H : Hp) (Q : VK) (E : XK) : sp_room_at K vs H Q E → vs.length = (["letters", "hands", "hand", "low", "high", "long"] : List Str).length := by
  walk_at "len"

theorem pure_room_at {K : PySem.W.Frag} (T : Kx K) (vs : List V) (H : Hp) (Q : VK) (E : XK) (h : sp_room_at K vs H Q E) : t_room_at K E { nx := fun _ H' => Q .non H', rt := Q } (start ["letters", "hands", "hand", "low", "high", "long", "least", "most", "figures"] vs) H := by
  obtain ⟨L, h, d, k, lo, hi, rfl, hL, hL2, hd, hh, hk, he, hC, q1, q2⟩ := h
  walk_at "go"
  refine ⟨L, k, lo, hi, rfl, hL, hL2, hk, he, hC, fun hr p hp => ?_, fun hr => q2 hr⟩
  have q := q1 hr
  clear q1 q2
  have hF := figs_ends hd hh
  have h1 := past_le (k := k) (by omega) he.e
  have h2 := low_le (k := k) (by omega) he.e
  have h3 := low_pos L lo k
  have h4 := pow26 (k := k) (by omega) hL2
  unfold roomN at q
  have hm := below_mono hF (by omega) (m := lowN L lo k) (n := pastN L hi k)
  have hm2 := below_mono hF (by omega) (m := pastN L hi k) (n := lowN L lo k)
  generalize lowN L lo k = lw at *
  generalize pastN L hi k = ps at *
  refine gTupN2 sqT_at ?_
  refine ⟨_, Trim.back (by walk_at "ex") hC, ?_⟩
  walk_at "go"
  refine iteD (fun c => ?_) fun c => ?_
  · walk_at "go"
    rw [show below L (ends L h d) ps - below L (ends L h d) lw = 0 by have := hm2 (by omega); omega] at q
    exact q
  · walk_at "go"
    intro p1 hp1
    have hle := ends_le L h d
    have hC1 := clo_new (o := .lst ((ends L h d).map natV)) hC hp1 rfl
    have hp1v : (upd H p1 (HO.lst ((ends L h d).map natV))) p1 = some (HO.lst ((ends L h d).map natV)) := upd_same
    walk_at "go"
    refine ⟨L, ps, p1, ends L h d, ?_, hL, hL2, hp1v, by omega, by omega, hC1, ?_⟩
    · show [V.int L, V.ref p1, V.int ((ps : Int) - 1 + 1)] = _
      rw [show (ps : Int) - 1 + 1 = ps by omega]
    walk_at "go"
    refine ⟨L, lw, p1, ends L h d, rfl, hL, hL2, hp1v, by omega, by omega, hC1, ?_⟩
    refine ⟨_, _, rfl, rfl, ?_⟩
    have := hm (by omega)
    rw [show ((below L (ends L h d) ps - below L (ends L h d) lw : Nat) : Int) = (below L (ends L h d) ps : Int) - (below L (ends L h d) lw : Int) by omega] at q
    exact ⟨_, Trim.back (by walk_at "ex") hC, q⟩
/-! ### nth_mark -/
def sp_nth_mark (K : PySem.W.Frag) : Sp := fun vs H Q E => ∃ (L h d k m : Nat) (lo hi : Option (List Nat)), vs = [.int L, .int h, .int d, optV lo, optV hi, .int k, .int m] ∧ 2 ≤ L ∧ L ≤ 26 ∧ d < h ∧ h < L ∧ k ≤ 90000 ∧ m ≤ 2 ^ 500000 ∧ Ends3 L lo hi ∧ Clo H ∧
  (Right lo hi → Q (.str (txt (markOf L (nth L (ends L h d) (below L (ends L h d) (lowN L lo k) + m)) k))) H) ∧ (¬ Right lo hi → E (.ref (He.ga K "NoRoom")) none H)
def t_nth_mark (K : PySem.W.Frag) (E : XK) : TS :=
  (tTrim (tSeq (tAsg (tTrimE (tOp (rIxT K) (tCall (sp_numbers_between K) [] E (tCons (tVar 0) (tCons (tVar 3) (tCons (tVar 4) (tCons (tVar 5) tNil))))) (tC (.int 0)))) (gName 7))
    (tSeq (tAsg (tCall (sp_figures_of K) [] E (tCons (tVar 0) (tCons (tVar 1) (tCons (tVar 2) tNil)))) (gName 8))
    (tSeq (tTrim (tAsg (tCB rDivmod (tCons (tOp rAddI (tCall (sp_many_below K) [] E (tCons (tVar 0) (tCons (tVar 8) (tCons (tVar 7) tNil)))) (tVar 6)) (tCons (tCB (rLenQ K) (tCons (tVar 8) tNil)) tNil))) (gTup K 2 (gCons (gName 9) (gCons (gName 10) gNil)))))
    (tRet (tCall (sp_mark_of K) [] E (tCons (tVar 0) (tCons (tOp rAddI (tOp rMulW (tVar 9) (tVar 0)) (tOp (rIxL K) (tVar 8) (tVar 10))) (tCons (tVar 5) tNil)))))))))
theorem len_nth_mark {K : PySem.W.Frag} (vs : List V) (H : Hp) (Q : VK) (E : XK) : sp_nth_mark K vs H Q E → vs.length = (["letters", "hands", "hand", "low", "high", "long", "number"] : List Str).length := by
  walk_at "len"

theorem pure_nth_mark {K : PySem.W.Frag} (T : Kx K) (vs : List V) (H : Hp) (Q : VK) (E : XK) (h : sp_nth_mark K vs H Q E) : t_nth_mark K E { nx := fun _ H' => Q .non H', rt := Q } (start ["letters", "hands", "hand", "low", "high", "long", "number", "least", "figures", "rounds", "rest"] vs) H := by
  obtain ⟨L, h, d, k, m, lo, hi, rfl, hL, hL2, hd, hh, hk, hm, he, hC, q1, q2⟩ := h
  walk_at "go"
  refine ⟨L, k, lo, hi, rfl, hL, hL2, hk, he, hC, fun hr p hp => ?_, fun hr => q2 hr⟩
  have q := q1 hr
  clear q1 q2
  have hF := figs_ends hd hh
  have h2 := low_le (k := k) (by omega) he.e
  have h4 := pow26 (k := k) (by omega) hL2
  have hle := ends_le L h d
  have hp0 : 0 < (ends L h d).length := List.length_pos_iff.mpr hF.ne
  generalize lowN L lo k = lw at *
  unfold nth at q
  walk_at "go"
  refine ⟨_, _, _, _, rfl, rfl, sqT_at, rfl, ?_⟩
  refine ⟨_, Trim.back (by walk_at "ex") hC, ?_⟩
  walk_at "go"
  intro p1 hp1
  generalize ends L h d = F at *
  have hC1 := clo_new (o := .lst (F.map natV)) hC hp1 rfl
  have hp1v : (upd H p1 (HO.lst (F.map natV))) p1 = some (HO.lst (F.map natV)) := upd_same
  have hlen : (F.map natV).length = F.length := List.length_map _
  walk_at "go"
  refine ⟨L, lw, p1, F, rfl, hL, hL2, hp1v, by omega, by omega, hC1, ?_⟩
  walk_at "go"
  refine ⟨_, _, rfl, .inl sqL_at, ?_⟩
  rw [hlen]
  walk_at "go"
  intro p2 hp2
  refine gTupN2 sqT_at ?_
  refine ⟨_, Trim.back (by walk_at "ex") hC1, ?_⟩
  have hr2 : (below L F lw + m) % F.length < F.length := Nat.mod_lt _ hp0
  have hx : atI (F.map natV) (((below L F lw : Int) + (m : Int)) % (F.length : Int)) = some (natV (F.getD ((below L F lw + m) % F.length) 0)) := by
    rw [show ((below L F lw : Int) + (m : Int)) % (F.length : Int) = (((below L F lw + m) % F.length : Nat) : Int) from rfl]
    refine atI_nat ?_
    rw [List.getElem?_map, List.getElem?_eq_getElem hr2, List.getD_eq_getElem?_getD, List.getElem?_eq_getElem hr2]; rfl
  have hbl := below_le hF (by omega) lw
  have hw : CMulW (((below L F lw : Int) + (m : Int)) / (F.length : Int)) (L : Int) := big_mulW2 (by omega) hm (by rw [Int.natAbs_natCast]; omega)
  walk_at "go"
  refine ⟨_, _, _, _, rfl, rfl, sqL_at, hx, ?_⟩
  walk_at "go"
  exact q
/-! ### least_long -/
/-- the least length with so much room -/
structure LeastK (L : Nat) (F : List Nat) (lo hi : Option (List Nat)) (m k : Nat) : Prop where
  one : 1 ≤ k
  room : m ≤ roomN L F lo hi k
  least : ∀ j, 1 ≤ j → j < k → roomN L F lo hi j < m
def sp_least_long (K : PySem.W.Frag) : Sp := fun vs H Q E => ∃ (L h d m : Nat) (lo hi : Option (List Nat)), vs = [.int L, .int h, .int d, optV lo, optV hi, .int m] ∧ 2 ≤ L ∧ L ≤ 26 ∧ d < h ∧ h < L ∧ Ends3 L lo hi ∧ Clo H ∧
  (Right lo hi → ∃ N, 1 ≤ N ∧ N ≤ 90000 ∧ m ≤ roomN L (ends L h d) lo hi N) ∧ (Right lo hi → ∀ k, LeastK L (ends L h d) lo hi m k → Q (.int k) H) ∧ (¬ Right lo hi → E (.ref (He.ga K "NoRoom")) none H)
def t_least_long (K : PySem.W.Frag) (E : XK) : TS :=
  (tSeq (tAsg (tC (.int 1)) (gName 6))
    (tSeq (tWhile (tTest (tOp rLtI (tCall (sp_room_at K) [] E (tCons (tVar 0) (tCons (tVar 1) (tCons (tVar 2) (tCons (tVar 3) (tCons (tVar 4) (tCons (tVar 6) tNil))))))) (tVar 5))) (tAsg (tOp rAddI (tVar 6) (tC (.int 1))) (gName 6)))
    (tRet (tVar 6))))
theorem len_least_long {K : PySem.W.Frag} (vs : List V) (H : Hp) (Q : VK) (E : XK) : sp_least_long K vs H Q E → vs.length = (["letters", "hands", "hand", "low", "high", "many"] : List Str).length := by
  walk_at "len"

theorem pure_least_long {K : PySem.W.Frag} (T : Kx K) (vs : List V) (H : Hp) (Q : VK) (E : XK) (h : sp_least_long K vs H Q E) : t_least_long K E { nx := fun _ H' => Q .non H', rt := Q } (start ["letters", "hands", "hand", "low", "high", "many", "long"] vs) H := by
  obtain ⟨L, h, d, m, lo, hi, rfl, hL, hL2, hd, hh, he, hC, hN, q1, q2⟩ := h
  by_cases hr : Right lo hi
  · obtain ⟨N, hN1, hN2, hN3⟩ := hN hr
    have q := q1 hr
    clear q1 q2 hN
    walk_at "go"
    refine ⟨fun μ σ' H' => ∃ k : Nat, 1 ≤ k ∧ k ≤ N ∧ (∀ j, 1 ≤ j → j < k → roomN L (ends L h d) lo hi j < m) ∧ μ = N - k ∧ H' = H ∧ σ' = [some (.int L), some (.int h), some (.int d), some (optV lo), some (optV hi), some (.int m), some (.int k)],
      ⟨_, 1, Nat.le_refl _, hN1, fun j h1 h2 => by omega, rfl, rfl, rfl⟩, ?_⟩
    rintro μ σ' _ ⟨k, hk1, hkN, hkl, rfl, rfl, rfl⟩
    walk_at "go"
    refine ⟨L, h, d, k, lo, hi, rfl, hL, hL2, hd, hh, by omega, he, hC, fun _ => ?_, fun z => absurd hr z⟩
    walk_at "go"
    refine iteD (fun c => ?_) fun c => ?_
    · have hkN2 : k < N := by
        rcases Nat.lt_or_eq_of_le hkN with z | z
        · exact z
        · rw [z] at c; omega
      refine ⟨_, fun _ _ z => z, ?_⟩
      walk_at "go"
      refine ⟨N - (k + 1), by omega, k + 1, by omega, by omega, fun j h1 h2 => ?_, rfl, rfl, rfl⟩
      rcases Nat.lt_succ_iff_lt_or_eq.mp h2 with z | z
      · exact hkl j h1 z
      · rw [z]; omega
    · walk_at "go"
      exact q k ⟨hk1, by omega, hkl⟩
  · have q := q2 hr
    walk_at "go"
    refine ⟨fun _ σ' H' => H' = H ∧ σ' = [some (.int L), some (.int h), some (.int d), some (optV lo), some (optV hi), some (.int m), some (.int 1)], ⟨0, rfl, rfl⟩, ?_⟩
    rintro μ σ' _ ⟨rfl, rfl⟩
    walk_at "go"
    exact ⟨L, h, d, 1, lo, hi, rfl, hL, hL2, hd, hh, by omega, he, hC, fun z => absurd z hr, fun _ => q⟩
/-! ### mark_between -/
/-- which of so many -/
def pickN (lo hi : Option (List Nat)) (m : Nat) : Nat := match lo, hi with
  | some _, none => 0
  | none, some _ => m - 1
  | _, _ => (m - 1) / 2
/-- the mark between -/
def betwMk (L : Nat) (F : List Nat) (lo hi : Option (List Nat)) (k : Nat) : List Nat := markOf L (nth L F (below L F (lowN L lo k) + pickN lo hi (roomN L F lo hi k))) k
def sp_mark_between (K : PySem.W.Frag) : Sp := fun vs H Q E => ∃ (L h d : Nat) (lo hi : Option (List Nat)), vs = [.int L, .int h, .int d, optV lo, optV hi] ∧ 2 ≤ L ∧ L ≤ 26 ∧ d < h ∧ h < L ∧ Ends3 L lo hi ∧ Clo H ∧
  (Right lo hi → ∃ N, 1 ≤ N ∧ N ≤ 90000 ∧ 1 ≤ roomN L (ends L h d) lo hi N) ∧ (Right lo hi → ∀ k, LeastK L (ends L h d) lo hi 1 k → Q (.str (txt (betwMk L (ends L h d) lo hi k))) H) ∧ (¬ Right lo hi → E (.ref (He.ga K "NoRoom")) none H)
def t_mark_between (K : PySem.W.Frag) (E : XK) : TS :=
  (tSeq (tAsg (tCall (sp_least_long K) [] E (tCons (tVar 0) (tCons (tVar 1) (tCons (tVar 2) (tCons (tVar 3) (tCons (tVar 4) (tCons (tC (.int 1)) tNil))))))) (gName 5))
    (tSeq (tAsg (tCall (sp_room_at K) [] E (tCons (tVar 0) (tCons (tVar 1) (tCons (tVar 2) (tCons (tVar 3) (tCons (tVar 4) (tCons (tVar 5) tNil))))))) (gName 6))
    (tSeq (tAsg (tOp rDivW (tOp rSubI (tVar 6) (tC (.int 1))) (tC (.int 2))) (gName 7))
    (tMeet (tIfS (tAnd (tTest (tOp rIsN (tVar 4) (tC .non))) (tTest (tOp rNotN (tVar 3) (tC .non))))
    (tAsg (tC (.int 0)) (gName 7))
    tNext)
    (tMeet (tIfS (tAnd (tTest (tOp rIsN (tVar 3) (tC .non))) (tTest (tOp rNotN (tVar 4) (tC .non))))
    (tAsg (tOp rSubI (tVar 6) (tC (.int 1))) (gName 7))
    tNext)
    (tRet (tCall (sp_nth_mark K) [] E (tCons (tVar 0) (tCons (tVar 1) (tCons (tVar 2) (tCons (tVar 3) (tCons (tVar 4) (tCons (tVar 5) (tCons (tVar 7) tNil))))))))))))))
theorem len_mark_between {K : PySem.W.Frag} (vs : List V) (H : Hp) (Q : VK) (E : XK) : sp_mark_between K vs H Q E → vs.length = (["letters", "hands", "hand", "low", "high"] : List Str).length := by
  walk_at "len"

theorem LeastK.le {L : Nat} {F : List Nat} {lo hi : Option (List Nat)} {m k N : Nat} (h : LeastK L F lo hi m k) (h1 : 1 ≤ N) (h2 : m ≤ roomN L F lo hi N) : k ≤ N := by
  refine Nat.not_lt.mp fun z => ?_
  have := h.least N h1 z
  omega
theorem roomN_le {L k : Nat} {F : List Nat} {lo hi : Option (List Nat)} (hL : 2 ≤ L) (hF : Figs L F) (he : Ends2 L lo hi) : roomN L F lo hi k ≤ L ^ k := by
  have h1 := below_le hF (by omega) (pastN L hi k)
  have h2 := past_le (k := k) (by omega) he
  unfold roomN
  omega
theorem pure_mark_between {K : PySem.W.Frag} (T : Kx K) (vs : List V) (H : Hp) (Q : VK) (E : XK) (h : sp_mark_between K vs H Q E) : t_mark_between K E { nx := fun _ H' => Q .non H', rt := Q } (start ["letters", "hands", "hand", "low", "high", "long", "many", "number"] vs) H := by
  obtain ⟨L, h, d, lo, hi, rfl, hL, hL2, hd, hh, he, hC, hN, q1, q2⟩ := h
  walk_at "go"
  refine ⟨L, h, d, 1, lo, hi, rfl, hL, hL2, hd, hh, he, hC, hN, fun hr k hk => ?_, fun z => q2 z⟩
  obtain ⟨N, hN1, hN2, hN3⟩ := hN hr
  have hkN := hk.le hN1 hN3
  have q := q1 hr k hk
  clear q1 q2 hN
  have hF := figs_ends hd hh
  have hrl := roomN_le (k := k) hL hF he.e
  have h4 := pow26 (k := k) (by omega) hL2
  have hroom := hk.room
  unfold betwMk at q
  walk_at "go"
  refine ⟨L, h, d, k, lo, hi, rfl, hL, hL2, hd, hh, by omega, he, hC, fun _ => ?_, fun z => absurd hr z⟩
  generalize roomN L (ends L h d) lo hi k = R at *
  walk_at "go"
  refine meet_fix (fun σ' => σ' = [some (.int L), some (.int h), some (.int d), some (optV lo), some (optV hi), some (.int k), some (.int R), some (.int (if lo.isSome && hi.isNone then 0 else (R - 1) / 2 : Nat))]) ?_ ?_
  · walk_at "go"
    cases hi with
    | some b =>
      refine iteF ?_
      refine ⟨rfl, ?_⟩
      rw [show (lo.isSome && (some b : Option (List Nat)).isNone) = false by cases lo <;> rfl, if_neg (by decide), show (((R - 1) / 2 : Nat) : Int) = ((R : Int) - 1) / 2 by omega]
      rfl
    | none =>
      refine iteT ?_
      walk_at "go"
      cases lo with
      | none =>
        refine iteF ?_
        refine ⟨rfl, ?_⟩
        rw [show ((none : Option (List Nat)).isSome && (none : Option (List Nat)).isNone) = false from rfl, if_neg (by decide), show (((R - 1) / 2 : Nat) : Int) = ((R : Int) - 1) / 2 by omega]
        rfl
      | some a =>
        refine iteT ?_
        exact ⟨rfl, rfl⟩
  rintro _ rfl
  refine meet_fix (fun σ' => σ' = [some (.int L), some (.int h), some (.int d), some (optV lo), some (optV hi), some (.int k), some (.int R), some (.int (pickN lo hi R : Nat))]) ?_ ?_
  · walk_at "go"
    cases lo with
    | some a =>
      refine iteF ?_
      cases hi with
      | some b => exact ⟨rfl, rfl⟩
      | none => exact ⟨rfl, rfl⟩
    | none =>
      refine iteT ?_
      walk_at "go"
      cases hi with
      | none =>
        refine iteF ?_
        exact ⟨rfl, rfl⟩
      | some b =>
        refine iteT ?_
        walk_at "go"
        rw [show ((pickN none (some b) R : Nat) : Int) = (R : Int) - 1 by show ((R - 1 : Nat) : Int) = _; omega]
        rfl
  rintro _ rfl
  have hp : pickN lo hi R ≤ R := by
    unfold pickN
    split <;> omega
  walk_at "go"
  exact ⟨L, h, d, k, pickN lo hi R, lo, hi, rfl, hL, hL2, hd, hh, by omega, by omega, he, hC, fun _ => q, fun z => absurd hr z⟩
/-! ### renewed_long -/
def sp_renewed_long (K : PySem.W.Frag) : Sp := fun vs H Q _ => ∃ L m : Nat, vs = [.int L, .int m] ∧ 2 ≤ L ∧ L ≤ 26 ∧ m ≤ 90000 ∧ ∀ k, Long L m k → Q (.int k) H
def t_renewed_long (K : PySem.W.Frag) (E : XK) : TS :=
  (tSeq (tAsg (tC (.int 0)) (gName 2))
    (tSeq (tAsg (tC (.int 1)) (gName 3))
    (tSeq (tWhile (tTest (tOp rLtI (tOp rSubI (tVar 3) (tC (.int 1))) (tVar 1))) (tSeq (tAsg (tOp rAddI (tVar 2) (tC (.int 1))) (gName 2))
    (tAsg (tOp rMulW (tVar 3) (tVar 0)) (gName 3))))
    (tRet (tVar 2)))))
theorem len_renewed_long {K : PySem.W.Frag} (vs : List V) (H : Hp) (Q : VK) (E : XK) : sp_renewed_long K vs H Q E → vs.length = (["letters", "many"] : List Str).length := by
  walk_at "len"

theorem pure_renewed_long {K : PySem.W.Frag} (T : Kx K) (vs : List V) (H : Hp) (Q : VK) (E : XK) (h : sp_renewed_long K vs H Q E) : t_renewed_long K E { nx := fun _ H' => Q .non H', rt := Q } (start ["letters", "many", "long", "count"] vs) H := by
  obtain ⟨L, m, rfl, hL, hL2, hm, q⟩ := h
  walk_at "go"
  refine ⟨fun μ σ' H' => ∃ k : Nat, (∀ j, j < k → L ^ j ≤ m) ∧ μ = m + 1 - k ∧ H' = H ∧ σ' = [some (.int L), some (.int m), some (.int k), some (.int ((L ^ k : Nat) : Int))], ⟨_, 0, fun j h => by omega, rfl, rfl, rfl⟩, ?_⟩
  rintro μ σ' _ ⟨k, hk, rfl, rfl, rfl⟩
  walk_at "go"
  refine iteD (fun c => ?_) fun c => ?_
  · have hk2 : ∀ j, j < k + 1 → L ^ j ≤ m := fun j hj => by
      rcases Nat.lt_succ_iff_lt_or_eq.mp hj with h | rfl
      · exact hk j h
      · omega
    have hle : k ≤ m := by
      have h2 : k < 2 ^ k := Nat.lt_two_pow_self
      have h3 := Nat.pow_le_pow_left hL k
      omega
    have hw := pow_mulW (k := k) hL2 (by omega)
    refine ⟨_, fun _ _ z => z, ?_⟩
    walk_at "go"
    refine ⟨m + 1 - (k + 1), by omega, k + 1, hk2, rfl, rfl, ?_⟩
    rw [Nat.pow_succ]
    rfl
  · walk_at "go"
    exact q k ⟨by omega, hk⟩
/-! ### renewed -/
def sp_renewed (K : PySem.W.Frag) : Sp := fun vs H Q _ => ∃ L m : Nat, vs = [.int L, .int m] ∧ 2 ≤ L ∧ L ≤ 26 ∧ m ≤ 90000 ∧ Clo H ∧ ∀ k p, Long L m k → H p = none → Q (.ref p) (upd H p (.lst (((rens L m k).map txt).map V.str)))
def t_renewed (K : PySem.W.Frag) (E : XK) : TS :=
  (tTrim (tSeq (tAsg (tCall (sp_renewed_long K) [] E (tCons (tVar 0) (tCons (tVar 1) tNil))) (gName 2))
    (tSeq (tAsg (tC (.int 1)) (gName 3))
    (tSeq (tFor (iRng1 (tCons (tVar 2) tNil)) (gName 4)
    (tAsg (tOp rMulW (tVar 3) (tVar 0)) (gName 3)))
    (tRet (tLc (iRng1 (tCons (tVar 1) tNil)) (gName 4) tYes (tCall (sp_mark_of K) [] E0 (tCons (tVar 0) (tCons (tOp rDivW (tOp rMulW (tOp rAddI (tVar 4) (tC (.int 1))) (tVar 3)) (tOp rAddI (tVar 1) (tC (.int 1)))) (tCons (tVar 2) tNil)))) [4]))))))
theorem len_renewed {K : PySem.W.Frag} (vs : List V) (H : Hp) (Q : VK) (E : XK) : sp_renewed K vs H Q E → vs.length = (["letters", "many"] : List Str).length := by
  walk_at "len"

theorem pure_renewed {K : PySem.W.Frag} (T : Kx K) (vs : List V) (H : Hp) (Q : VK) (E : XK) (h : sp_renewed K vs H Q E) : t_renewed K E { nx := fun _ H' => Q .non H', rt := Q } (start ["letters", "many", "long", "count", "k"] vs) H := by
  obtain ⟨L, m, rfl, hL, hL2, hm, hC, q⟩ := h
  walk_at "go"
  intro k hk
  have hkm := hk.le_m hL
  walk_at "go"
  refine for_fix walk_range1 (fun i σ' => ∃ x4, σ' = [some (.int L), some (.int m), some (.int k), some (.int ((L ^ i : Nat) : Int)), x4]) trivial ⟨_, rfl⟩ ?_ ?_
  · rintro i σ' hi ⟨x4, rfl⟩
    have hi' : i < k := by simpa using hi
    have hw := pow_mulW (k := i) hL2 (by omega)
    walk_at "go"
    refine ⟨some (.int i), ?_⟩
    rw [Nat.pow_succ]
    rfl
  · rintro σ' ⟨x4, rfl⟩
    rw [Int.toNat_natCast]
    walk_at "go"
    intro p hp
    refine lc_fn walk_range1 (fun _ => true) (fun i => .str (txt (markOf L (renN L m k i) k))) (by rw [Int.toNat_natCast]; omega) (fun _ => trivial) ?_ ?_
    · intro i acc hi ha N hN _
      have hi' : i < m := by simpa using hi
      have hb := pow26 (k := k) (by omega) hL2
      have hw : CMulW ((i : Int) + 1) ((L ^ k : Nat) : Int) := mulW 64 500001 (by omega) (Nat.lt_of_le_of_lt hb (Nat.pow_lt_pow_right (by decide) (by decide)))
      walk_at "go"
      exact lc_end ha (by omega) (hN rfl)
    · rw [Int.toNat_natCast, filt_all, rens_V]
      exact ⟨_, Trim.last (Rst.refl H) (Ex.refl H) hp hC rfl, q k p hk hp⟩
/-! ### is_thing -/
abbrev SGN : Str := "abcdefghijklmnopqrstuvwxyz0123456789"
/-- a text is a thing -/
def isTh (t : Str) : Bool := decide (1 ≤ t.length) && (decide (t.length ≤ 12) && t.cps.toList.all fun c => decide (c ∈ SGN.cps.toList))
def sp_is_thing (K : PySem.W.Frag) : Sp := fun vs H Q _ => ∃ t : Str, vs = [.str t] ∧ t.length ≤ 1000000 ∧ Q (.bl (isTh t)) H
def t_is_thing (K : PySem.W.Frag) (E : XK) : TS :=
  (tSeq (tIfS (tOr (tTest (tOp rEq (tCB rLenS1 (tCons (tVar 0) tNil)) (tC (.int 0)))) (tTest (tOp rGtI (tCB rLenS1 (tCons (tVar 0) tNil)) (tC (.int 12)))))
    (tRet (tC (.bl false)))
    tNext)
    (tSeq (tFor (iStr (tVar 0)) (gName 1)
    (tIfS (tTest (tOp rNotInC (tVar 1) (tC (.str "abcdefghijklmnopqrstuvwxyz0123456789"))))
    (tRet (tC (.bl false)))
    tNext))
    (tRet (tC (.bl true)))))
theorem len_is_thing {K : PySem.W.Frag} (vs : List V) (H : Hp) (Q : VK) (E : XK) : sp_is_thing K vs H Q E → vs.length = (["text"] : List Str).length := by
  walk_at "len"

theorem pure_is_thing {K : PySem.W.Frag} (T : Kx K) (vs : List V) (H : Hp) (Q : VK) (E : XK) (h : sp_is_thing K vs H Q E) : t_is_thing K E { nx := fun _ H' => Q .non H', rt := Q } (start ["text", "sign"] vs) H := by
  obtain ⟨t, rfl, ht, q⟩ := h
  unfold isTh at q
  walk_at "go"
  refine iteEI (fun c => ?_) fun c1 => ?_
  · rw [decide_eq_false (by omega)] at q
    exact q
  rw [decide_eq_true (show 1 ≤ t.length by omega)] at q
  walk_at "go"
  refine iteD (fun c => ?_) fun c2 => ?_
  · rw [decide_eq_false (by omega)] at q
    exact q
  rw [decide_eq_true (show t.length ≤ 12 by omega)] at q
  walk_at "go"
  refine for_fix walk_strF (fun j σ' => (∀ m, m < j → t.cps.toList.getD m 0 ∈ SGN.cps.toList) ∧ ∃ x1, σ' = [some (.str t), x1]) trivial ⟨fun m hm => absurd hm (Nat.not_lt_zero _), _, rfl⟩ ?_ ?_
  · rintro j σ' hj ⟨hall, x1, rfl⟩
    have hj2 : j < t.cps.toList.length := by rw [Array.length_toList]; exact hj
    walk_at "go"
    refine iteDN (fun c => ?_) fun c => ?_
    · have : (t.cps.toList.all fun c => decide (c ∈ SGN.cps.toList)) = false := by
        rw [Bool.eq_false_iff]
        intro z
        have z2 := of_decide_eq_true (List.all_eq_true.mp z _ (List.getElem_mem hj2))
        rw [List.getD_eq_getElem?_getD, List.getElem?_eq_getElem hj2] at c
        exact c z2
      rw [this] at q
      exact q
    · refine ⟨rfl, fun m hm => ?_, _, rfl⟩
      rcases Nat.lt_succ_iff_lt_or_eq.mp hm with z | z
      · exact hall m z
      · rw [z]; exact c
  · rintro σ' ⟨hall, x1, rfl⟩
    have : (t.cps.toList.all fun c => decide (c ∈ SGN.cps.toList)) = true := List.all_eq_true.mpr fun c hc => by
      obtain ⟨m, hm, rfl⟩ := List.mem_iff_getElem.mp hc
      have := hall m (by rw [Array.length_toList] at hm; exact hm)
      rw [List.getD_eq_getElem?_getD, List.getElem?_eq_getElem hm] at this
      exact decide_eq_true this
    rw [this] at q
    walk_at "go"
    exact q
/-! ### Shelf___init__ -/
def sp_Shelf___init__ (K : PySem.W.Frag) : Sp := fun vs H Q E => ∃ (p dx : Addr) (L : Int), vs = [.ref p, .int L] ∧ H p = some (.ins (He.ga K "Shelf") dx []) ∧ Clo H ∧
  (¬ (2 ≤ L ∧ L ≤ 26) → E (.ref (He.ga K "NoLetters")) none H) ∧
  (2 ≤ L → L ≤ 26 → ∀ lt lm H', lt ≠ lm → H lt = none → H lm = none → (∀ a o, a ≠ p → H a = some o → H' a = some o) → Clo H' → IsShelf K H' p lt lm L [] [] → Q .non H')
def t_Shelf___init__ (K : PySem.W.Frag) (E : XK) : TS :=
  (tTrim (tSeq (tDrop (tCall (sp_ask_letters K) [] E (tCons (tVar 1) (tCons (tC (.int 1)) tNil))))
    (tSeq (sFld K (tVar 0) (tVar 1) "letters")
    (tSeq (sFld K (tVar 0) (tLst tNil) "row_things")
    (sFld K (tVar 0) (tLst tNil) "row_marks")))))
theorem len_Shelf___init__ {K : PySem.W.Frag} (vs : List V) (H : Hp) (Q : VK) (E : XK) : sp_Shelf___init__ K vs H Q E → vs.length = (["self", "letters"] : List Str).length := by
  walk_at "len"

theorem pure_Shelf___init__ {K : PySem.W.Frag} (T : Kx K) (vs : List V) (H : Hp) (Q : VK) (E : XK) (h : sp_Shelf___init__ K vs H Q E) : t_Shelf___init__ K E { nx := fun _ H' => Q .non H', rt := Q } (start ["self", "letters"] vs) H := by
  obtain ⟨p, dx, L, rfl, hp, hC, q1, q2⟩ := h
  walk_at "go"
  refine ⟨fun z => ?_, fun z => q1 fun y => z ⟨y.1, y.2, by omega, by omega⟩⟩
  have q := q2 z.1 z.2.1
  clear q1 q2
  have hdx : H dx = some (.own p) := hC _ _ hp
  have hdp : dx ≠ p := fun e => by rw [e, hp] at hdx; cases hdx
  walk_at "go"
  refine ⟨p, _, dx, _, rfl, hp, T.c_Shelf, T.a_Shelf_letters, by decide, ?_⟩
  obtain ⟨H1, e1⟩ : ∃ H1, H1 = upd H p (.ins (He.ga K "Shelf") dx (putF ("letters" : Str) (.int L) [])) := ⟨_, rfl⟩
  rw [← e1]
  have hp1 : H1 p = some (.ins (He.ga K "Shelf") dx (putF ("letters" : Str) (.int L) [])) := by rw [e1]; exact upd_same
  have hn1 : ∀ a, a ≠ p → H1 a = H a := fun a ha => by rw [e1]; exact upd_ne ha
  walk_at "go"
  intro lt hlt
  have hlp : lt ≠ p := fun e => by rw [e, hp1] at hlt; cases hlt
  refine ⟨_, rfl, ?_⟩
  refine ⟨p, _, dx, _, rfl, (by rw [upd_ne hlp.symm]; exact hp1), T.c_Shelf, T.a_Shelf_row_things, (by have := length_putF ("letters" : Str) (.int L) []; rw [List.length_nil] at this; omega), ?_⟩
  obtain ⟨H2, e2⟩ : ∃ H2, H2 = upd (upd H1 lt (.lst [])) p (.ins (He.ga K "Shelf") dx (putF ("row_things" : Str) (.ref lt) (putF ("letters" : Str) (.int L) []))) := ⟨_, rfl⟩
  rw [← e2]
  have hp2 : H2 p = some (.ins (He.ga K "Shelf") dx (putF ("row_things" : Str) (.ref lt) (putF ("letters" : Str) (.int L) []))) := by rw [e2]; exact upd_same
  have hn2 : ∀ a, a ≠ p → a ≠ lt → H2 a = H a := fun a ha hb => by rw [e2, upd_ne ha, upd_ne hb]; exact hn1 a ha
  have hl2 : H2 lt = some (.lst []) := by rw [e2, upd_ne hlp]; exact upd_same
  walk_at "go"
  intro lm hlm
  have hmp : lm ≠ p := fun e => by rw [e, hp2] at hlm; cases hlm
  have hml : lm ≠ lt := fun e => by rw [e, hl2] at hlm; cases hlm
  refine ⟨_, rfl, ?_⟩
  refine ⟨p, _, dx, _, rfl, (by rw [upd_ne hmp.symm]; exact hp2), T.c_Shelf, T.a_Shelf_row_marks, (by have := length_putF ("letters" : Str) (.int L) []; have := length_putF ("row_things" : Str) (.ref lt) (putF ("letters" : Str) (.int L) []); rw [List.length_nil] at *; omega), ?_⟩
  obtain ⟨H3, e3⟩ : ∃ H3, H3 = upd (upd H2 lm (.lst [])) p (.ins (He.ga K "Shelf") dx (putF ("row_marks" : Str) (.ref lm) (putF ("row_things" : Str) (.ref lt) (putF ("letters" : Str) (.int L) [])))) := ⟨_, rfl⟩
  rw [← e3]
  have hp3 : H3 p = some (.ins (He.ga K "Shelf") dx (shF L lt lm)) := by rw [e3]; exact upd_same
  have hn3 : ∀ a, a ≠ p → a ≠ lt → a ≠ lm → H3 a = H a := fun a ha hb hc => by rw [e3, upd_ne ha, upd_ne hc]; exact hn2 a ha hb
  have hl3 : H3 lt = some (.lst []) := by rw [e3, upd_ne hlp, upd_ne hml.symm]; exact hl2
  have hm3 : H3 lm = some (.lst []) := by rw [e3, upd_ne hmp]; exact upd_same
  have hlt0 : H lt = none := by rw [← hn1 lt hlp]; exact hlt
  have hlm0 : H lm = none := by rw [← hn2 lm hmp hml]; exact hlm
  have hkeep : ∀ a o, a ≠ p → H a = some o → H3 a = some o := fun a o ha e => by
    rw [hn3 a ha (ne_of_none e hlt0) (ne_of_none e hlm0)]; exact e
  have hC3 : Clo H3 := fun a o e => by
    by_cases ha : a = p
    · rw [ha, hp3] at e
      cases e
      rw [ha]
      exact hkeep dx _ hdp hdx
    · by_cases hb : a = lt
      · rw [hb, hl3] at e; cases e; trivial
      · by_cases hc : a = lm
        · rw [hc, hm3] at e; cases e; trivial
        · rw [hn3 a ha hb hc] at e
          have z := hC a o e
          clear e
          induction o with
          | dT _ => exact z
          | ins C dx' fs =>
            have z' : H dx' = some (.own a) := z
            exact hkeep dx' _ (fun y => by rw [y, hp] at z'; cases z') z'
          | frz ob v ih => exact ih z
          | _ => trivial
  refine ⟨_, ⟨fun a o e => e, fun a xs e => ?_, fun a o u e => ?_, fun a ps e => ⟨#[], ?_⟩, hC3⟩, q lt lm H3 hml.symm hlt0 hlm0 hkeep hC3 ⟨⟨dx, hp3⟩, hl3, hm3⟩⟩
  · exact hkeep a _ (fun y => by rw [y, hp] at e; cases e) e
  · exact hkeep a _ (fun y => by rw [y, hp] at e; cases e) e
  · rw [hkeep a _ (fun y => by rw [y, hp] at e; cases e) e, Array.append_empty]
/-! ### Shelf_ask_put -/
/-- things that may come to n others -/
def ThOk (n : Nat) (some : List Str) : Prop := some ≠ [] ∧ n + some.length ≤ 300 ∧ ∀ t ∈ some, isTh t = true
def sp_Shelf_ask_put (K : PySem.W.Frag) : Sp := fun vs H Q E => ∃ (p lt lm ps : Addr) (L : Nat) (i : Int) (ts ms some : List Str), vs = [.ref p, .int i, .ref ps] ∧ IsShelf K H p lt lm L ts ms ∧ H ps = Option.some (.lst (some.map V.str)) ∧ ts.length ≤ 1000000 ∧ some.length ≤ 1000000 ∧ (∀ t ∈ some, t.length ≤ 1000000) ∧ Clo H ∧
  (¬ ThOk ts.length some → E (.ref (He.ga K "NoThing")) none H) ∧ (ThOk ts.length some → ¬ (0 ≤ i ∧ i ≤ ts.length) → E (.ref (He.ga K "NoPlace")) none H) ∧ (ThOk ts.length some → 0 ≤ i → i ≤ ts.length → Q .non H)
def t_Shelf_ask_put (K : PySem.W.Frag) (E : XK) : TS :=
  (tSeq (tIfS (tOr (tTest (tOp rEq (tCB (rLenQ K) (tCons (tVar 2) tNil)) (tC (.int 0)))) (tTest (tOp rGtI (tOp rAddI (tCB (rLenQ K) (tCons (tFld K (tVar 0) "row_things") tNil)) (tCB (rLenQ K) (tCons (tVar 2) tNil))) (tC (.int 300)))))
    (tRaiseO K "NoThing" (fun c d _ H => E c d H))
    tNext)
    (tSeq (tFor (iList K (tVar 2)) (gName 3)
    (tIfS (tNot (tB (tCall (sp_is_thing K) [] E (tCons (tVar 3) tNil))))
    (tRaiseO K "NoThing" (fun c d _ H => E c d H))
    tNext))
    (tIfS (tOr (tTest (tOp rLtI (tVar 1) (tC (.int 0)))) (tTest (tOp rGtI (tVar 1) (tCB (rLenQ K) (tCons (tFld K (tVar 0) "row_things") tNil)))))
    (tRaiseO K "NoPlace" (fun c d _ H => E c d H))
    tNext)))
theorem len_Shelf_ask_put {K : PySem.W.Frag} (vs : List V) (H : Hp) (Q : VK) (E : XK) : sp_Shelf_ask_put K vs H Q E → vs.length = (["self", "place", "some"] : List Str).length := by
  walk_at "len"

theorem pure_Shelf_ask_put {K : PySem.W.Frag} (T : Kx K) (vs : List V) (H : Hp) (Q : VK) (E : XK) (h : sp_Shelf_ask_put K vs H Q E) : t_Shelf_ask_put K E { nx := fun _ H' => Q .non H', rt := Q } (start ["self", "place", "some", "thing"] vs) H := by
  obtain ⟨p, lt, lm, ps, L, i, ts, ms, som, rfl, hsh, hps, hl1, hl2, htl, hC, q1, q2, q3⟩ := h
  have hSp : SqL K H ps (som.map V.str) := .inl (.inl hps)
  have hSt : SqL K H lt (ts.map V.str) := .inl (.inl hsh.lt)
  have e1 : (som.map V.str).length = som.length := List.length_map _
  have e2 : (ts.map V.str).length = ts.length := List.length_map _
  walk_at "go"
  refine iteEI (fun c => q1 fun z => z.1 (List.length_eq_zero_iff.mp (by omega))) fun c1 => ?_
  walk_at "go"
  refine ⟨_, _, _, shF _ lt lm, .ref lt, rfl, hsh.at_.choose_spec, T.c_Shelf, T.a_Shelf_row_things, rfl, ?_⟩
  refine ⟨_, _, rfl, Or.inl hSt, ?_⟩
  walk_at "go"
  refine iteD (fun c => q1 fun z => by have := z.2.1; omega) fun c2 => ?_
  walk_at "go"
  refine ⟨⟨_, hSp⟩, ?_⟩
  refine for_fix walk_listF (fun j σ' => (∀ m, m < j → isTh (som.getD m "") = true) ∧ ∃ x3, σ' = [some (.ref p), some (.int i), some (.ref ps), x3]) hSp ⟨fun m hm => absurd hm (Nat.not_lt_zero _), _, rfl⟩ ?_ ?_
  · rintro j σ' hj ⟨hall, x3, rfl⟩
    have hj2 : j < som.length := by omega
    have e3 : (som.map V.str).getD j .non = .str (som.getD j "") := by
      rw [List.getD_eq_getElem?_getD, List.getElem?_map, List.getElem?_eq_getElem hj2, List.getD_eq_getElem?_getD, List.getElem?_eq_getElem hj2]; rfl
    have hm : som.getD j "" ∈ som := by
      rw [List.getD_eq_getElem?_getD, List.getElem?_eq_getElem hj2]
      exact List.getElem_mem hj2
    have htj := htl _ hm
    rw [e3]
    walk_at "go"
    refine ite2 (fun c => ?_) fun c => ?_
    · exact q1 fun z => by
        rw [z.2.2 _ hm] at c
        cases c
    · refine ⟨rfl, fun m hm => ?_, _, rfl⟩
      rcases Nat.lt_succ_iff_lt_or_eq.mp hm with z | z
      · exact hall m z
      · rw [z]; simpa using c
  · rintro σ' ⟨hall, x3, rfl⟩
    have hok : ThOk ts.length som := by
      refine ⟨fun z => c1 (by rw [e1, z]; rfl), by omega, fun t ht => ?_⟩
      obtain ⟨m, hm, rfl⟩ := List.mem_iff_getElem.mp ht
      have := hall m (by omega)
      rw [List.getD_eq_getElem?_getD, List.getElem?_eq_getElem hm] at this
      exact this
    walk_at "go"
    refine iteD (fun c => q2 hok fun z => by omega) fun c3 => ?_
    walk_at "go"
    refine ⟨_, _, _, shF _ lt lm, .ref lt, rfl, hsh.at_.choose_spec, T.c_Shelf, T.a_Shelf_row_things, rfl, ?_⟩
    refine ⟨_, _, rfl, Or.inl hSt, ?_⟩
    walk_at "go"
    refine iteD (fun c => q2 hok fun z => by omega) fun c4 => ?_
    exact q3 hok (by omega) (by omega)
/-! ### Shelf_marks_round -/
def sp_Shelf_marks_round (K : PySem.W.Frag) : Sp := fun vs H Q E => ∃ (p lt lm : Addr) (L n : Nat) (ts : List Str) (M : List (List Nat)), vs = [.ref p, .int n] ∧ IsShelf K H p lt lm L ts (M.map txt) ∧ n ≤ M.length ∧ M.length ≤ 1000000 ∧ Clo H ∧
  ∀ a, H a = none → Q (.ref a) (upd H a (.tup [optV (lowAt M n), optV M[n]?]))
def t_Shelf_marks_round (K : PySem.W.Frag) (E : XK) : TS :=
  (tTrim (tSeq (tAsg (tC .non) (gName 2))
    (tSeq (tAsg (tC .non) (gName 3))
    (tMeet (tIfS (tTest (tOp rGtI (tVar 1) (tC (.int 0))))
    (tAsg (tOp (rIxL K) (tFld K (tVar 0) "row_marks") (tOp rSubI (tVar 1) (tC (.int 1)))) (gName 2))
    tNext)
    (tMeet (tIfS (tTest (tOp rLtI (tVar 1) (tCB (rLenQ K) (tCons (tFld K (tVar 0) "row_marks") tNil))))
    (tAsg (tOp (rIxL K) (tFld K (tVar 0) "row_marks") (tVar 1)) (gName 3))
    tNext)
    (tRet (tTup (tCons (tVar 2) (tCons (tVar 3) tNil)))))))))
theorem len_Shelf_marks_round {K : PySem.W.Frag} (vs : List V) (H : Hp) (Q : VK) (E : XK) : sp_Shelf_marks_round K vs H Q E → vs.length = (["self", "place"] : List Str).length := by
  walk_at "len"

theorem pure_Shelf_marks_round {K : PySem.W.Frag} (T : Kx K) (vs : List V) (H : Hp) (Q : VK) (E : XK) (h : sp_Shelf_marks_round K vs H Q E) : t_Shelf_marks_round K E { nx := fun _ H' => Q .non H', rt := Q } (start ["self", "place", "low", "high"] vs) H := by
  obtain ⟨p, lt, lm, L, n, ts, M, rfl, hsh, hn, hl, hC, q⟩ := h
  have hSm : SqL K H lm ((M.map txt).map V.str) := .inl (.inl hsh.lm)
  have e1 : ((M.map txt).map V.str).length = M.length := by rw [List.length_map, List.length_map]
  walk_at "go"
  refine meet_fix (fun σ' => σ' = [some (.ref p), some (.int n), some (optV (lowAt M n)), some .non]) ?_ ?_
  · walk_at "go"
    refine iteD (fun c => ?_) fun c => ?_
    · walk_at "go"
      refine ⟨_, _, _, shF _ lt lm, .ref lm, rfl, hsh.at_.choose_spec, T.c_Shelf, T.a_Shelf_row_marks, rfl, ?_⟩
      have hx : atI ((M.map txt).map V.str) ((n : Int) - 1) = some (optV (lowAt M n)) := by
        rw [show (n : Int) - 1 = ((n - 1 : Nat) : Int) by omega]
        refine atI_nat ?_
        unfold lowAt
        rw [if_neg (by omega), List.getElem?_map, List.getElem?_map, List.getElem?_eq_getElem (by omega)]; rfl
      walk_at "go"
      rfl
    · have : n = 0 := by omega
      subst this
      exact ⟨rfl, rfl⟩
  rintro _ rfl
  refine meet_fix (fun σ' => σ' = [some (.ref p), some (.int n), some (optV (lowAt M n)), some (optV M[n]?)]) ?_ ?_
  · walk_at "go"
    refine ⟨_, _, _, shF _ lt lm, .ref lm, rfl, hsh.at_.choose_spec, T.c_Shelf, T.a_Shelf_row_marks, rfl, ?_⟩
    refine ⟨_, _, rfl, Or.inl hSm, ?_⟩
    walk_at "go"
    refine iteD (fun c => ?_) fun c => ?_
    · walk_at "go"
      refine ⟨_, _, _, shF _ lt lm, .ref lm, rfl, hsh.at_.choose_spec, T.c_Shelf, T.a_Shelf_row_marks, rfl, ?_⟩
      have hx : atI ((M.map txt).map V.str) (n : Int) = some (optV M[n]?) := by
        refine atI_nat ?_
        rw [List.getElem?_map, List.getElem?_map, List.getElem?_eq_getElem (by omega)]; rfl
      walk_at "go"
      rfl
    · rw [List.getElem?_eq_none (by omega)]
      exact ⟨rfl, rfl⟩
  rintro _ rfl
  walk_at "go"
  intro a ha
  exact ⟨_, Trim.last (Rst.refl H) (Ex.refl H) ha hC rfl, q a ha⟩
/-! ### Shelf_put -/
/-- what is to be known of it -/
structure BetwMk (L : Nat) (F : List Nat) (lo hi : Option (List Nat)) (k : Nat) (M : List Nat) : Prop where
  len : M.length = k
  mk0 : Mk0 L M
  ne : M ≠ []
  last : M.getD (k - 1) 0 ∈ F
  betw : Betw lo hi M
  lo_le : lowN L lo k ≤ whole L M k
  hi_lt : whole L M k < pastN L hi k
  num : below L F (whole L M k) = below L F (lowN L lo k) + pickN lo hi (roomN L F lo hi k)
theorem betwMk_ok {L h d k : Nat} {lo hi : Option (List Nat)} (hL : 2 ≤ L) (hd : d < h) (hh : h < L) (he : Ends2 L lo hi) (hk : LeastK L (ends L h d) lo hi 1 k) : BetwMk L (ends L h d) lo hi k (betwMk L (ends L h d) lo hi k) := by
  have hF := figs_ends hd hh
  obtain ⟨j, rfl⟩ : ∃ j, k = j + 1 := ⟨k - 1, by have := hk.one; omega⟩
  have hroom := hk.room
  have hpick : pickN lo hi (roomN L (ends L h d) lo hi (j + 1)) < roomN L (ends L h d) lo hi (j + 1) := by
    unfold pickN
    split <;> omega
  unfold roomN at hroom hpick
  obtain ⟨n, hn⟩ : ∃ n, n = nth L (ends L h d) (below L (ends L h d) (lowN L lo (j + 1)) + pickN lo hi (roomN L (ends L h d) lo hi (j + 1))) := ⟨_, rfl⟩
  have hbn := below_nth hF (show 0 < L by omega) (below L (ends L h d) (lowN L lo (j + 1)) + pickN lo hi (roomN L (ends L h d) lo hi (j + 1)))
  have hnm := nth_mod hF (below L (ends L h d) (lowN L lo (j + 1)) + pickN lo hi (roomN L (ends L h d) lo hi (j + 1)))
  rw [← hn] at hbn hnm
  have h0 : n % L ≠ 0 := fun z => ends_0 L h d (z ▸ hnm)
  have hM : betwMk L (ends L h d) lo hi (j + 1) = digs L n (j + 1) := by
    unfold betwMk
    rw [← hn, mark_digs (by omega) h0]
  have hbs := below_succ hF (show 0 < L by omega) n
  rw [if_pos hnm] at hbs
  have hlow : lowN L lo (j + 1) ≤ n := by
    refine Nat.not_lt.mp fun z => ?_
    have := below_mono hF (show 0 < L by omega) (show n + 1 ≤ lowN L lo (j + 1) by omega)
    omega
  have hhi : n < pastN L hi (j + 1) := by
    refine Nat.not_le.mp fun z => ?_
    have := below_mono hF (show 0 < L by omega) z
    unfold roomN at hbn
    omega
  have hpast := past_le (k := j + 1) (by omega) he
  have hw : whole L (digs L n (j + 1)) (j + 1) = n := by rw [whole_digs, Nat.mod_eq_of_lt (by omega)]
  rw [hM]
  have hne : digs L n (j + 1) ≠ [] := by rw [digs_succ]; simp
  have hmk := mk0_digs (L := L) (n := n) (k := j) (by omega) h0
  refine ⟨digs_len _ _ _, hmk, hne, ?_, ?_, by rw [hw]; exact hlow, by rw [hw]; exact hhi, by rw [hw]; exact hbn⟩
  · rw [Nat.add_sub_cancel, digs_last]; exact hnm
  · exact (betw_iff (by omega) he hmk (Nat.le_of_eq (digs_len _ _ _)) hne).mpr ⟨by rw [hw]; exact hlow, by rw [hw]; exact hhi⟩
/-- what stands on a shelf: marks, rising, not too long -/
structure GoodMs (L B : Nat) (M : List (List Nat)) : Prop where
  all : ∀ m ∈ M, Mk0 L m ∧ m ≠ [] ∧ m.length ≤ B
  up : M.Pairwise (· < ·)
theorem GoodMs.mono {L B C : Nat} {M : List (List Nat)} (h : GoodMs L B M) (hBC : B ≤ C) : GoodMs L C M := ⟨fun m hm => ⟨(h.all m hm).1, (h.all m hm).2.1, Nat.le_trans (h.all m hm).2.2 hBC⟩, h.up⟩
theorem GoodMs.nil (L B : Nat) : GoodMs L B [] := ⟨fun _ h => (nomatch h), .nil⟩
theorem lowAt_mem {α : Type} {M : List α} {i : Nat} {a : α} (h : lowAt M i = some a) : a ∈ M := by
  unfold lowAt at h
  split at h
  · cases h
  · exact List.mem_of_getElem? h
theorem GoodMs.ends3 {L B i : Nat} {M : List (List Nat)} (h : GoodMs L B M) (hB : B ≤ 80000) : Ends3 L (lowAt M i) M[i]? :=
  ⟨⟨fun a e => ⟨(h.all a (lowAt_mem e)).1, (h.all a (lowAt_mem e)).2.1⟩, fun b e => ⟨(h.all b (List.mem_of_getElem? e)).1, (h.all b (List.mem_of_getElem? e)).2.1⟩⟩,
    fun a e => by have := (h.all a (lowAt_mem e)).2.2; omega, fun b e => by have := (h.all b (List.mem_of_getElem? e)).2.2; omega⟩
theorem GoodMs.right {L B i : Nat} {M : List (List Nat)} (h : GoodMs L B M) : Right (lowAt M i) M[i]? := fun a b ha hb => by
  unfold lowAt at ha
  split at ha
  · cases ha
  · obtain ⟨h1, e1⟩ := List.getElem?_eq_some_iff.mp ha
    obtain ⟨h2, e2⟩ := List.getElem?_eq_some_iff.mp hb
    rw [← e1, ← e2]
    exact List.pairwise_iff_getElem.mp h.up _ _ h1 h2 (by omega)
theorem GoodMs.room {L B i : Nat} {M : List (List Nat)} (hL : 2 ≤ L) (h : GoodMs L B M) (hB : B ≤ 80000) : 1 ≤ roomN L (ends L 1 0) (lowAt M i) M[i]? (B + 1) := by
  have := room_ex (k := B) hL (show 0 < 1 by omega) (show 1 < L by omega) (h.ends3 (i := i) hB).e h.right (fun a e => (h.all a (lowAt_mem e)).2.2) (fun b e => (h.all b (List.mem_of_getElem? e)).2.2)
  unfold roomN
  omega
/-- the mark between fits in -/
theorem GoodMs.put {L B i k : Nat} {M : List (List Nat)} (hL : 2 ≤ L) (h : GoodMs L B M) (hB : B ≤ 80000) (hi : i ≤ M.length) (hk : LeastK L (ends L 1 0) (lowAt M i) M[i]? 1 k) : GoodMs L (B + 1) (insL M i (betwMk L (ends L 1 0) (lowAt M i) M[i]? k)) := by
  have x := betwMk_ok hL (show 0 < 1 by omega) (show 1 < L by omega) (h.ends3 (i := i) hB).e hk
  have hkB := hk.le (by omega) (h.room hL hB)
  generalize betwMk L (ends L 1 0) (lowAt M i) M[i]? k = m at x
  obtain ⟨hb1, hb2⟩ := x.betw
  refine ⟨fun y hy => ?_, ?_⟩
  · unfold insL at hy
    rcases List.mem_append.mp hy with hy | hy
    · rcases List.mem_append.mp hy with hy | hy
      · obtain ⟨a, b, c⟩ := h.all y (List.mem_of_mem_take hy)
        exact ⟨a, b, by omega⟩
      · rw [List.mem_singleton.mp hy]
        exact ⟨x.mk0, x.ne, by rw [x.len]; exact hkB⟩
    · obtain ⟨a, b, c⟩ := h.all y (List.mem_of_mem_drop hy)
      exact ⟨a, b, by omega⟩
  · have hdrop : ∀ y ∈ M.drop i, m < y := fun y hy => by
      obtain ⟨j, hj, rfl⟩ := List.mem_iff_getElem.mp hy
      rw [List.getElem_drop]
      have hj2 : j < M.length - i := by simpa using hj
      have hmi := hb2 M[i] (List.getElem?_eq_getElem (by omega))
      rcases Nat.eq_zero_or_pos j with z | z
      · subst z; exact hmi
      · exact List.lt_trans hmi (List.pairwise_iff_getElem.mp h.up _ _ (by omega) (by omega) (by omega))
    have htake : ∀ y ∈ M.take i, y < m := fun y hy => by
      obtain ⟨j, hj, rfl⟩ := List.mem_iff_getElem.mp hy
      rw [List.getElem_take]
      have hj2 : j < i := by
        have : j < min i M.length := by simpa using hj
        omega
      have hmi := hb1 (M[i - 1]'(by omega)) (by unfold lowAt; rw [if_neg (by omega)]; exact List.getElem?_eq_getElem (by omega))
      by_cases z : j = i - 1
      · subst z; exact hmi
      · exact List.lt_trans (List.pairwise_iff_getElem.mp h.up _ _ (by omega) (by omega) (by omega)) hmi
    unfold insL
    rw [List.append_assoc]
    refine List.pairwise_append.mpr ⟨h.up.sublist (List.take_sublist _ _), ?_, fun a ha b hb => ?_⟩
    · exact List.pairwise_cons.mpr ⟨hdrop, h.up.sublist (List.drop_sublist _ _)⟩
    · rcases List.mem_cons.mp hb with rfl | hb
      · exact htake a ha
      · exact List.lt_trans (htake a ha) (hdrop b hb)
def sp_Shelf_put (K : PySem.W.Frag) : Sp := fun vs H Q E => ∃ (p lt lm : Addr) (L B : Nat) (i : Int) (t : Str) (ts : List Str) (M : List (List Nat)), vs = [.ref p, .int i, .str t] ∧ IsShelf K H p lt lm L ts (M.map txt) ∧ lt ≠ lm ∧ Clo H ∧ 2 ≤ L ∧ L ≤ 26 ∧ GoodMs L B M ∧ B ≤ 80000 ∧ ts.length = M.length ∧ ts.length ≤ 300 ∧ t.length ≤ 1000000 ∧ -(2 ^ 62) ≤ i ∧ i < 2 ^ 62 ∧
  (¬ ThOk ts.length [t] → ∀ H', Ex H H' → Clo H' → E (.ref (He.ga K "NoThing")) none H') ∧
  (ThOk ts.length [t] → ¬ (0 ≤ i ∧ i ≤ ts.length) → ∀ H', Ex H H' → Clo H' → E (.ref (He.ga K "NoPlace")) none H') ∧
  (ThOk ts.length [t] → 0 ≤ i → i ≤ ts.length → ∀ k, LeastK L (ends L 1 0) (lowAt M i.toNat) M[i.toNat]? 1 k →
    Q (.str (txt (betwMk L (ends L 1 0) (lowAt M i.toNat) M[i.toNat]? k))) (upd (upd H lt (.lst ((insL ts i.toNat t).map V.str))) lm (.lst (((insL M i.toNat (betwMk L (ends L 1 0) (lowAt M i.toNat) M[i.toNat]? k)).map txt).map V.str))))
def t_Shelf_put (K : PySem.W.Frag) (E : XK) : TS :=
  (tTrim (tSeq (tDrop (tTrimE (tMeth (He.ga K "Shelf") "ask_put" (sp_Shelf_ask_put K) [] E (tVar 0) (tCons (tVar 1) (tCons (tLst (tCons (tVar 2) tNil)) tNil)))))
    (tSeq (tTrim (tAsg (tMeth (He.ga K "Shelf") "marks_round" (sp_Shelf_marks_round K) [] E (tVar 0) (tCons (tVar 1) tNil)) (gTup K 2 (gCons (gName 3) (gCons (gName 4) gNil)))))
    (tSeq (tAsg (tCall (sp_mark_between K) [] E (tCons (tFld K (tVar 0) "letters") (tCons (tC (.int 1)) (tCons (tC (.int 0)) (tCons (tVar 3) (tCons (tVar 4) tNil)))))) (gName 5))
    (tSeq (tDrop (tBM K "list" rInsert (tFld K (tVar 0) "row_things") (tCons (tVar 1) (tCons (tVar 2) tNil))))
    (tSeq (tDrop (tBM K "list" rInsert (tFld K (tVar 0) "row_marks") (tCons (tVar 1) (tCons (tVar 5) tNil))))
    (tRet (tVar 5))))))))
theorem len_Shelf_put {K : PySem.W.Frag} (vs : List V) (H : Hp) (Q : VK) (E : XK) : sp_Shelf_put K vs H Q E → vs.length = (["self", "place", "thing"] : List Str).length := by
  walk_at "len"

theorem pure_Shelf_put {K : PySem.W.Frag} (T : Kx K) (vs : List V) (H : Hp) (Q : VK) (E : XK) (h : sp_Shelf_put K vs H Q E) : t_Shelf_put K E { nx := fun _ H' => Q .non H', rt := Q } (start ["self", "place", "thing", "low", "high", "mark"] vs) H := by
  obtain ⟨p, lt, lm, L, B, i, t, ts, M, rfl, hsh, hne, hC, hL, hL2, hM, hB, hlen, hl3, htl, hi1, hi2, q1, q2, q3⟩ := h
  walk_at "go"
  refine sh_meth hsh (by decide +kernel) (by decide +kernel) (by decide +kernel) ?_
  walk_at "go"
  intro pl hpl
  have hex := Ex.new (o := .lst [V.str t]) (Ex.refl H) hpl
  have hC1 := clo_new (o := .lst [V.str t]) hC hpl rfl
  refine ⟨p, lt, lm, pl, L, i, ts, _, [t], rfl, hsh.ex hex, upd_same, by omega, by show 1 ≤ _; omega, fun y hy => by rw [List.mem_singleton.mp hy]; exact htl, hC1, fun z => q1 z _ hex hC1, fun z1 z2 => q2 z1 z2 _ hex hC1, fun z1 z2 z3 => ?_⟩
  have q := q3 z1 z2 z3
  clear q1 q2 q3
  obtain ⟨n, rfl⟩ := Int.eq_ofNat_of_zero_le z2
  rw [Int.toNat_natCast] at q
  have hn : n ≤ ts.length := by omega
  refine ⟨_, Trim.back hex hC, ?_⟩
  walk_at "go"
  refine sh_meth hsh (by decide +kernel) (by decide +kernel) (by decide +kernel) ?_
  walk_at "go"
  refine ⟨p, lt, lm, L, n, ts, M, rfl, hsh, by omega, by omega, hC, fun a ha => ?_⟩
  refine gTupN2 sqT_at ?_
  refine ⟨_, Trim.back (by walk_at "ex") hC, ?_⟩
  walk_at "go"
  refine ⟨_, _, _, shF _ lt lm, .int L, rfl, hsh.at_.choose_spec, T.c_Shelf, T.a_Shelf_letters, rfl, ?_⟩
  walk_at "go"
  refine ⟨L, 1, 0, lowAt M n, M[n]?, rfl, hL, hL2, by omega, by omega, hM.ends3 hB, hC, fun _ => ⟨B + 1, by omega, by omega, hM.room hL hB⟩, fun _ k hk => ?_, fun z => absurd hM.right z⟩
  have q := q k hk
  walk_at "go"
  refine ⟨_, _, _, shF _ lt lm, .ref lt, rfl, hsh.at_.choose_spec, T.c_Shelf, T.a_Shelf_row_things, rfl, ?_⟩
  refine ⟨tyV_list hsh.lt, ?_⟩
  walk_at "b"
  refine ⟨_, rfl, _, rfl, ?_⟩
  refine ⟨lt, _, n, .str t, rfl, rfl, hsh.lt, by rw [List.length_map, sz]; omega, by omega, by omega, ?_⟩
  rw [Int.toNat_natCast, insL_map]
  have hsh2 := hsh.set_t (ts' := insL ts n t) hne
  walk_at "go"
  refine ⟨_, _, _, shF _ lt lm, .ref lm, rfl, hsh2.at_.choose_spec, T.c_Shelf, T.a_Shelf_row_marks, rfl, ?_⟩
  refine ⟨tyV_list hsh2.lm, ?_⟩
  walk_at "b"
  refine ⟨_, rfl, _, rfl, ?_⟩
  refine ⟨lm, _, n, _, rfl, rfl, hsh2.lm, by rw [List.length_map, List.length_map, sz]; omega, by omega, by omega, ?_⟩
  rw [Int.toNat_natCast, insL_map, insL_map']
  refine ⟨_, rfl, ?_⟩
  have k1 : Kp H _ := Kp.set (o := .lst ((insL ts n t).map V.str)) hC hsh.lt rfl
  exact ⟨_, k1.trans (Kp.set k1.clo hsh2.lm rfl), q⟩
/-! ### Shelf_take -/
theorem seqIndex_nat {n m : Nat} (h : n < m) : seqIndex? (n : Int) m = some n := by
  unfold seqIndex?
  dsimp only
  rw [if_neg (show ¬ (n : Int) < 0 by omega), decide_eq_true (show (0 : Int) ≤ n by omega), decide_eq_true (show (n : Int) < (m : Int) by omega)]
  rfl
def sp_Shelf_take (K : PySem.W.Frag) : Sp := fun vs H Q E => ∃ (p lt lm : Addr) (L : Int) (i : Int) (ts ms : List Str), vs = [.ref p, .int i] ∧ IsShelf K H p lt lm L ts ms ∧ lt ≠ lm ∧ ts.length = ms.length ∧ ts.length ≤ 1000000 ∧
  (¬ (0 ≤ i ∧ i < ts.length) → E (.ref (He.ga K "NoPlace")) none H) ∧
  (∀ n : Nat, i = n → ∀ h : n < ts.length, Q (.str ts[n]) (upd (upd H lm (.lst ((ms.eraseIdx n).map V.str))) lt (.lst ((ts.eraseIdx n).map V.str))))
def t_Shelf_take (K : PySem.W.Frag) (E : XK) : TS :=
  (tSeq (tIfS (tOr (tTest (tOp rLtI (tVar 1) (tC (.int 0)))) (tTest (tOp rGeI (tVar 1) (tCB (rLenQ K) (tCons (tFld K (tVar 0) "row_things") tNil)))))
    (tRaiseO K "NoPlace" (fun c d _ H => E c d H))
    tNext)
    (tSeq (tDrop (tBM K "list" rPopAt (tFld K (tVar 0) "row_marks") (tCons (tVar 1) tNil)))
    (tRet (tBM K "list" rPopAt (tFld K (tVar 0) "row_things") (tCons (tVar 1) tNil)))))
theorem len_Shelf_take {K : PySem.W.Frag} (vs : List V) (H : Hp) (Q : VK) (E : XK) : sp_Shelf_take K vs H Q E → vs.length = (["self", "place"] : List Str).length := by
  walk_at "len"

theorem pure_Shelf_take {K : PySem.W.Frag} (T : Kx K) (vs : List V) (H : Hp) (Q : VK) (E : XK) (h : sp_Shelf_take K vs H Q E) : t_Shelf_take K E { nx := fun _ H' => Q .non H', rt := Q } (start ["self", "place"] vs) H := by
  obtain ⟨p, lt, lm, L, i, ts, ms, rfl, hsh, hne, hlen, hl, q1, q2⟩ := h
  have hSt : SqL K H lt (ts.map V.str) := .inl (.inl hsh.lt)
  have e2 : (ts.map V.str).length = ts.length := List.length_map _
  have e3 : (ms.map V.str).length = ms.length := List.length_map _
  walk_at "go"
  refine iteD (fun c => q1 fun z => by omega) fun c1 => ?_
  walk_at "go"
  refine ⟨_, _, _, shF _ lt lm, .ref lt, rfl, hsh.at_.choose_spec, T.c_Shelf, T.a_Shelf_row_things, rfl, ?_⟩
  refine ⟨_, _, rfl, Or.inl hSt, ?_⟩
  walk_at "go"
  refine iteD (fun c => q1 fun z => by omega) fun c2 => ?_
  obtain ⟨n, rfl⟩ := Int.eq_ofNat_of_zero_le (show 0 ≤ i by omega)
  have hn : n < ts.length := by omega
  have q := q2 n rfl hn
  walk_at "go"
  refine ⟨_, _, _, shF _ lt lm, .ref lm, rfl, hsh.at_.choose_spec, T.c_Shelf, T.a_Shelf_row_marks, rfl, ?_⟩
  refine ⟨tyV_list hsh.lm, ?_⟩
  walk_at "b"
  refine ⟨_, rfl, ?_⟩
  refine ⟨lm, _, n, n, .str (ms[n]'(by omega)), rfl, rfl, hsh.lm, by omega, by omega, seqIndex_nat (by omega), by rw [List.getElem?_map, List.getElem?_eq_getElem (by omega)]; rfl, ?_⟩
  rw [eraseIdx_mapL]
  have hsh2 := hsh.set_m (ms' := ms.eraseIdx n) hne
  refine ⟨_, rfl, ?_⟩
  refine ⟨_, _, _, shF _ lt lm, .ref lt, rfl, hsh2.at_.choose_spec, T.c_Shelf, T.a_Shelf_row_things, rfl, ?_⟩
  refine ⟨tyV_list hsh2.lt, ?_⟩
  walk_at "b"
  refine ⟨_, rfl, ?_⟩
  refine ⟨lt, _, n, n, .str ts[n], rfl, rfl, hsh2.lt, by omega, by omega, seqIndex_nat (by omega), by rw [List.getElem?_map, List.getElem?_eq_getElem hn]; rfl, ?_⟩
  rw [eraseIdx_mapL]
  exact q
/-! ### Shelf_renew -/
def sp_Shelf_renew (K : PySem.W.Frag) : Sp := fun vs H Q E => ∃ (p lt lm : Addr) (L : Nat) (ts ms : List Str), vs = [.ref p] ∧ IsShelf K H p lt lm L ts ms ∧ Clo H ∧ 2 ≤ L ∧ L ≤ 26 ∧ ts.length ≤ 90000 ∧
  ∀ k nm r H', Long L ts.length k → H nm = none → H r = none → nm ≠ r → (∀ a o, a ≠ p → H a = some o → H' a = some o) → IsShelf K H' p lt nm L ts ((rens L ts.length k).map txt) → H' r = some (.lst (((rens L ts.length k).map txt).map V.str)) → Clo H' → Kp H H' → Q (.ref r) H'
def t_Shelf_renew (K : PySem.W.Frag) (E : XK) : TS :=
  (tTrim (tSeq (sFld K (tVar 0) (tCall (sp_renewed K) [] E (tCons (tFld K (tVar 0) "letters") (tCons (tCB (rLenQ K) (tCons (tFld K (tVar 0) "row_things") tNil)) tNil))) "row_marks")
    (tRet (tCB (rListQ K) (tCons (tFld K (tVar 0) "row_marks") tNil)))))
theorem len_Shelf_renew {K : PySem.W.Frag} (vs : List V) (H : Hp) (Q : VK) (E : XK) : sp_Shelf_renew K vs H Q E → vs.length = (["self"] : List Str).length := by
  walk_at "len"

theorem pure_Shelf_renew {K : PySem.W.Frag} (T : Kx K) (vs : List V) (H : Hp) (Q : VK) (E : XK) (h : sp_Shelf_renew K vs H Q E) : t_Shelf_renew K E { nx := fun _ H' => Q .non H', rt := Q } (start ["self"] vs) H := by
  obtain ⟨p, lt, lm, L, ts, ms, rfl, hsh, hC, hL, hL2, hl, q⟩ := h
  have hSt : SqL K H lt (ts.map V.str) := .inl (.inl hsh.lt)
  have e2 : (ts.map V.str).length = ts.length := List.length_map _
  obtain ⟨dx, hp⟩ := hsh.at_
  walk_at "go"
  refine ⟨_, _, _, shF _ lt lm, .int L, rfl, hp, T.c_Shelf, T.a_Shelf_letters, rfl, ?_⟩
  walk_at "go"
  refine ⟨_, _, _, shF _ lt lm, .ref lt, rfl, hp, T.c_Shelf, T.a_Shelf_row_things, rfl, ?_⟩
  refine ⟨_, _, rfl, Or.inl hSt, ?_⟩
  rw [e2]
  refine ⟨L, ts.length, rfl, hL, hL2, by omega, hC, fun k nm hk hnm => ?_⟩
  have q := fun r H' => q k nm r H' hk hnm
  generalize (rens L ts.length k).map txt = R at q ⊢
  have hnp : nm ≠ p := fun e => by rw [e, hp] at hnm; cases hnm
  have hdx : H dx = some (.own p) := hC _ _ hp
  have hdp : dx ≠ p := fun e => by rw [e, hp] at hdx; cases hdx
  walk_at "go"
  refine ⟨p, _, dx, _, rfl, (by rw [upd_ne hnp.symm]; exact hp), T.c_Shelf, T.a_Shelf_row_marks, (by show 3 < 1000; omega), ?_⟩
  obtain ⟨H1, e1⟩ : ∃ H1, H1 = upd (upd H nm (.lst (R.map V.str))) p (.ins (He.ga K "Shelf") dx (putF ("row_marks" : Str) (.ref nm) (shF L lt lm))) := ⟨_, rfl⟩
  rw [← e1]
  have hp1 : H1 p = some (.ins (He.ga K "Shelf") dx (shF L lt nm)) := by rw [e1]; exact upd_same
  have hm1 : H1 nm = some (.lst (R.map V.str)) := by rw [e1, upd_ne hnp]; exact upd_same
  have hk1 : ∀ a o, a ≠ p → H a = some o → H1 a = some o := fun a o ha e => by rw [e1, upd_ne ha, upd_ne (ne_of_none e hnm)]; exact e
  have hl1 : H1 lt = some (.lst (ts.map V.str)) := hk1 _ _ (fun e => by have := hsh.lt; rw [e, hp] at this; cases this) hsh.lt
  have hn1 : ∀ a, a ≠ p → a ≠ nm → H1 a = H a := fun a ha hb => by rw [e1, upd_ne ha, upd_ne hb]
  have hC1 : Clo H1 := fun a o e => by
    by_cases ha : a = p
    · rw [ha, hp1] at e
      cases e
      rw [ha]
      exact hk1 dx _ hdp hdx
    · by_cases hb : a = nm
      · rw [hb, hm1] at e; cases e; trivial
      · rw [hn1 a ha hb] at e
        have z := hC a o e
        clear e
        induction o with
        | dT _ => exact z
        | ins C dx' fs =>
          have z' : H dx' = some (.own a) := z
          exact hk1 dx' _ (fun y => by rw [y, hp] at z'; cases z') z'
        | frz ob v ih => exact ih z
        | _ => trivial
  have hkp1 : Kp H H1 := by
    refine ⟨fun _ _ h => h, fun a xs e => ?_, fun a o u e => ?_, fun a ps e => ⟨#[], ?_⟩, hC1⟩
    · exact hk1 a _ (fun y => by rw [y, hp] at e; cases e) e
    · exact hk1 a _ (fun y => by rw [y, hp] at e; cases e) e
    · rw [hk1 a _ (fun y => by rw [y, hp] at e; cases e) e, Array.append_empty]
  clear e1
  walk_at "go"
  refine ⟨_, _, _, shF _ lt nm, .ref nm, rfl, hp1, T.c_Shelf, T.a_Shelf_row_marks, rfl, ?_⟩
  refine ⟨_, _, rfl, Or.inl (.inl (.inl hm1)), fun r hr => ?_⟩
  have hrn : nm ≠ r := fun e => by rw [e, hr] at hm1; cases hm1
  have hrp : r ≠ p := fun e => by rw [e, hp1] at hr; cases hr
  have ex2 := Ex.new (o := .lst (R.map V.str)) (Ex.refl H1) hr
  have hC2 := clo_new (o := .lst (R.map V.str)) hC1 hr rfl
  refine ⟨_, hkp1.trans (Kp.ex ex2 hC2), q r _ (by rw [← hn1 r hrp hrn.symm]; exact hr) hrn (fun a o ha e => ex2 _ _ (hk1 a o ha e)) ⟨⟨dx, ex2 _ _ hp1⟩, ex2 _ _ hl1, ex2 _ _ hm1⟩ upd_same hC2 (hkp1.trans (Kp.ex ex2 hC2))⟩
/-! ### Shelf_marks -/
def sp_Shelf_marks (K : PySem.W.Frag) : Sp := fun vs H Q E => ∃ (p lt lm : Addr) (L : Int) (ts ms : List Str), vs = [.ref p] ∧ IsShelf K H p lt lm L ts ms ∧ Clo H ∧ ∀ a, H a = none → Q (.ref a) (upd H a (.lst (ms.map V.str)))
def t_Shelf_marks (K : PySem.W.Frag) (E : XK) : TS :=
  (tTrim (tRet (tCB (rListQ K) (tCons (tFld K (tVar 0) "row_marks") tNil))))
theorem len_Shelf_marks {K : PySem.W.Frag} (vs : List V) (H : Hp) (Q : VK) (E : XK) : sp_Shelf_marks K vs H Q E → vs.length = (["self"] : List Str).length := by
  walk_at "len"

theorem pure_Shelf_marks {K : PySem.W.Frag} (T : Kx K) (vs : List V) (H : Hp) (Q : VK) (E : XK) (h : sp_Shelf_marks K vs H Q E) : t_Shelf_marks K E { nx := fun _ H' => Q .non H', rt := Q } (start ["self"] vs) H := by
  obtain ⟨p, lt, lm, L, ts, ms, rfl, hsh, hC, q⟩ := h
  have hS : SqL K H lm (ms.map V.str) := .inl (.inl hsh.lm)
  walk_at "go"
  obtain ⟨dx, e⟩ := hsh.at_
  refine ⟨p, He.ga K "Shelf", dx, shF L lt lm, .ref lm, rfl, e, T.c_Shelf, T.a_Shelf_row_marks, rfl, ?_⟩
  refine ⟨_, _, rfl, Or.inl hS, fun a ha => ?_⟩
  exact ⟨_, Trim.last (Rst.refl H) (Ex.refl H) ha hC rfl, q a ha⟩
/-! ### Shelf_things -/
def sp_Shelf_things (K : PySem.W.Frag) : Sp := fun vs H Q E => ∃ (p lt lm : Addr) (L : Int) (ts ms : List Str), vs = [.ref p] ∧ IsShelf K H p lt lm L ts ms ∧ Clo H ∧ ∀ a, H a = none → Q (.ref a) (upd H a (.lst (ts.map V.str)))
def t_Shelf_things (K : PySem.W.Frag) (E : XK) : TS :=
  (tTrim (tRet (tCB (rListQ K) (tCons (tFld K (tVar 0) "row_things") tNil))))
theorem len_Shelf_things {K : PySem.W.Frag} (vs : List V) (H : Hp) (Q : VK) (E : XK) : sp_Shelf_things K vs H Q E → vs.length = (["self"] : List Str).length := by
  walk_at "len"

theorem pure_Shelf_things {K : PySem.W.Frag} (T : Kx K) (vs : List V) (H : Hp) (Q : VK) (E : XK) (h : sp_Shelf_things K vs H Q E) : t_Shelf_things K E { nx := fun _ H' => Q .non H', rt := Q } (start ["self"] vs) H := by
  obtain ⟨p, lt, lm, L, ts, ms, rfl, hsh, hC, q⟩ := h
  have hS : SqL K H lt (ts.map V.str) := .inl (.inl hsh.lt)
  walk_at "go"
  refine ⟨_, _, _, shF _ lt lm, .ref lt, rfl, hsh.at_.choose_spec, T.c_Shelf, T.a_Shelf_row_things, rfl, ?_⟩
  refine ⟨_, _, rfl, Or.inl hS, fun a ha => ?_⟩
  exact ⟨_, Trim.last (Rst.refl H) (Ex.refl H) ha hC rfl, q a ha⟩
/-! ### Shelf_longest -/
theorem isTh_ok {t : Str} (h : isTh t = true) : PyData.strOk t = true := by
  have e : t = S t.cps.toList := str_ext rfl
  rw [e]
  refine strOk_S fun c hc => ?_
  unfold isTh at h
  rw [Bool.and_eq_true, Bool.and_eq_true] at h
  have := of_decide_eq_true (List.all_eq_true.mp h.2.2 c hc)
  have h2 : ∀ c ∈ SGN.cps.toList, c < 1000 := by decide +kernel
  have := h2 c this
  omega
theorem GoodMs.ok {L B : Nat} (hL : L ≤ 26) {M : List (List Nat)} (h : GoodMs L B M) : ∀ y ∈ M.map txt, PyData.strOk y = true := fun y hy => by
  obtain ⟨x, hx, rfl⟩ := List.mem_map.mp hy
  exact strOk_txt fun d hd => by have := (h.all x hx).1.lt d hd; omega
theorem MaxOf.uniq {d : Int} {ns : List Int} {a b : Int} (x : MaxOf d ns a) (y : MaxOf d ns b) : a = b := by
  rcases x with ⟨x1, x2⟩ | ⟨x1, x2⟩ <;> rcases y with ⟨y1, y2⟩ | ⟨y1, y2⟩
  · rw [x2, y2]
  · rw [x1] at y1; cases y1
  · rw [y1] at x1; cases x1
  · have := x2 b y1
    have := y2 a x1
    omega
/-- how long the longest is -/
def LongOf (M : List (List Nat)) (m : Int) : Prop := MaxOf 0 (M.map fun x => (x.length : Int)) m
theorem lens_V (M : List (List Nat)) : (List.range ((M.map txt).map V.str).length).map (fun i => V.int ((((M.getD i [])).length : Nat) : Int)) = (M.map fun x => (x.length : Int)).map V.int := by
  rw [List.length_map, List.length_map, List.map_map]
  exact range_mapF M [] fun x => V.int (x.length : Int)
def sp_Shelf_longest (K : PySem.W.Frag) : Sp := fun vs H Q E => ∃ (p lt lm : Addr) (L : Int) (ts : List Str) (M : List (List Nat)), vs = [.ref p] ∧ IsShelf K H p lt lm L ts (M.map txt) ∧ M.length ≤ 900000 ∧ (∀ x ∈ M, x.length ≤ 1000000) ∧ Clo H ∧ ∀ m, LongOf M m → Q (.int m) H
def t_Shelf_longest (K : PySem.W.Frag) (E : XK) : TS :=
  (tTrim (tRet (tTrimE (tCKw (rMaxDef K) (tCons (tLc (iList K (tFld K (tVar 0) "row_marks")) (gName 1) tYes (tCB rLenS1 (tCons (tVar 1) tNil)) [1]) tNil) (tCons (tC (.int 0)) tNil)))))
theorem len_Shelf_longest {K : PySem.W.Frag} (vs : List V) (H : Hp) (Q : VK) (E : XK) : sp_Shelf_longest K vs H Q E → vs.length = (["self"] : List Str).length := by
  walk_at "len"

theorem marks_at {M : List (List Nat)} {i : Nat} (h : i < M.length) : ((M.map txt).map V.str).getD i .non = .str (txt (M.getD i [])) := by
  rw [List.getD_eq_getElem?_getD, List.getElem?_map, List.getElem?_map, List.getElem?_eq_getElem h, List.getD_eq_getElem?_getD, List.getElem?_eq_getElem h]; rfl
theorem getD_memN {M : List (List Nat)} {i : Nat} (h : i < M.length) : M.getD i [] ∈ M := by
  rw [List.getD_eq_getElem?_getD, List.getElem?_eq_getElem h]
  exact List.getElem_mem h
theorem pure_Shelf_longest {K : PySem.W.Frag} (T : Kx K) (vs : List V) (H : Hp) (Q : VK) (E : XK) (h : sp_Shelf_longest K vs H Q E) : t_Shelf_longest K E { nx := fun _ H' => Q .non H', rt := Q } (start ["self", "mark"] vs) H := by
  obtain ⟨p, lt, lm, L, ts, M, rfl, hsh, hl, hlen, hC, q⟩ := h
  have hS : SqL K H lm ((M.map txt).map V.str) := .inl (.inl hsh.lm)
  have e1 : ((M.map txt).map V.str).length = M.length := by rw [List.length_map, List.length_map]
  walk_at "go"
  refine ⟨_, _, _, shF _ lt lm, .ref lm, rfl, hsh.at_.choose_spec, T.c_Shelf, T.a_Shelf_row_marks, rfl, ?_⟩
  refine ⟨_, rfl, ⟨_, hS⟩, fun D hD => ?_⟩
  refine lc_fn walk_listF (fun _ => true) (fun i => .int (((M.getD i []).length : Nat) : Int)) (by omega) (fun acc => sqL_new hS hD) ?_ ?_
  · intro i acc hi ha N hN _
    have hi2 : i < M.length := by omega
    have hx := hlen _ (getD_memN hi2)
    have h4 := txt_len (M.getD i [])
    rw [marks_at hi2]
    walk_at "go"
    rw [show ((txt (M.getD i [])).length : Int) = ((M.getD i []).length : Int) by omega]
    exact lc_end ha (by omega) (hN rfl)
  · rw [filt_all, lens_V]
    walk_at "b"
    refine ⟨D, _, 0, rfl, rfl, sqL_at, fun m hm => ?_⟩
    refine ⟨_, Trim.back (by walk_at "ex") hC, ?_⟩
    exact ⟨_, Trim.refl hC, q m hm⟩
/-! ### a shelf and lists of one's own, as it changes -/
abbrev strV (T : List Str) : List V := T.map V.str
abbrev mkV (M : List (List Nat)) : List V := (M.map txt).map V.str
theorem mkV_len (M : List (List Nat)) : (mkV M).length = M.length := by rw [List.length_map, List.length_map]
theorem ins_keep {H : Hp} {p q C : Addr} {fs : List (Str × V)} {xs : List V} {o : HO} (h : ∃ dx, H p = some (.ins C dx fs)) (hq : H q = some (.lst xs)) : ∃ dx, upd H q o p = some (.ins C dx fs) := by
  obtain ⟨dx, h⟩ := h
  exact ⟨dx, by rw [upd_ne (ins_ne_lst h hq)]; exact h⟩
theorem ins_ex {H H' : Hp} {p C : Addr} {fs : List (Str × V)} (h : ∃ dx, H p = some (.ins C dx fs)) (e : Ex H H') : ∃ dx, H' p = some (.ins C dx fs) := by
  obtain ⟨dx, h⟩ := h
  exact ⟨dx, e _ _ h⟩
structure St1 (K : PySem.W.Frag) (H H' : Hp) (L : Nat) (x lt lm : Addr) (qs : List Addr) (cs : List (List V)) (B : Nat) (T : List Str) (M : List (List Nat)) : Prop where
  b : Box H H' (lt :: lm :: qs) (strV T :: mkV M :: cs)
  x0 : H x = none
  at_ : ∃ dx, H' x = some (.ins (He.ga K "Shelf") dx (shF L lt lm))
  L2 : 2 ≤ L
  L26 : L ≤ 26
  gm : GoodMs L B M
  len : T.length = M.length
  th : ∀ t ∈ T, isTh t = true
section
variable {K : PySem.W.Frag} {H H' : Hp} {L B : Nat} {x lt lm : Addr} {qs : List Addr} {cs : List (List V)} {T : List Str} {M : List (List Nat)}
theorem St1.sh (st : St1 K H H' L x lt lm qs cs B T M) : IsShelf K H' x lt lm L T (M.map txt) := ⟨st.at_, st.b.at_ 0 _ _ rfl rfl, st.b.at_ 1 _ _ rfl rfl⟩
theorem St1.ne (st : St1 K H H' L x lt lm qs cs B T M) : lt ≠ lm := st.b.ne 0 1 (by decide) rfl rfl
theorem St1.mono {C : Nat} (st : St1 K H H' L x lt lm qs cs B T M) (h : B ≤ C) : St1 K H H' L x lt lm qs cs C T M := ⟨st.b, st.x0, st.at_, st.L2, st.L26, st.gm.mono h, st.len, st.th⟩
theorem St1.ext {H2 : Hp} (st : St1 K H H' L x lt lm qs cs B T M) (e : Ex H' H2) (c : Clo H2) : St1 K H H2 L x lt lm qs cs B T M := ⟨st.b.ext e c, st.x0, ins_ex st.at_ e, st.L2, st.L26, st.gm, st.len, st.th⟩
/-- a further list of one's own -/
theorem St1.add {H2 : Hp} {p : Addr} {c : List V} (st : St1 K H H' L x lt lm qs cs B T M) (hl : qs.length = cs.length) (hp : H' p = none) (e : Ex H' H2) (h : H2 p = some (.lst c)) (hc : Clo H2) : St1 K H H2 L x lt lm (qs ++ [p]) (cs ++ [c]) B T M :=
  ⟨st.b.add (by simp only [List.length_cons, hl]) hp e h hc, st.x0, ins_ex st.at_ e, st.L2, st.L26, st.gm, st.len, st.th⟩
/-- one's own i-th list is changed -/
theorem St1.set {p : Addr} {c y : List V} (st : St1 K H H' L x lt lm qs cs B T M) (i : Nat) (hi : qs[i]? = some p) (hc : cs[i]? = some c) : St1 K H (upd H' p (.lst y)) L x lt lm qs (cs.set i y) B T M :=
  ⟨st.b.set (i + 2) hi hc, st.x0, ins_keep st.at_ (st.b.at_ (i + 2) p c hi hc), st.L2, st.L26, st.gm, st.len, st.th⟩
theorem St1.own {p : Addr} {c : List V} (st : St1 K H H' L x lt lm qs cs B T M) (i : Nat) (hi : qs[i]? = some p) (hc : cs[i]? = some c) : H' p = some (.lst c) := st.b.at_ (i + 2) p c hi hc
theorem St1.meth {m : Str} {Z : Prop} (st : St1 K H H' L x lt lm qs cs B T M) (h1 : (m == "letters") = false) (h2 : (m == "row_things") = false) (h3 : (m == "row_marks") = false) (q : Z) : ∃ a dx fs, V.ref x = .ref a ∧ H' a = some (.ins (He.ga K "Shelf") dx fs) ∧ fs.lookup m = none ∧ Z := sh_meth st.sh h1 h2 h3 q
theorem mkV_erase (M : List (List Nat)) (n : Nat) : (mkV M).eraseIdx n = mkV (M.eraseIdx n) := by rw [eraseIdx_mapL, eraseIdx_mapL]
theorem GoodMs.erase {L B : Nat} {M : List (List Nat)} (h : GoodMs L B M) (n : Nat) : GoodMs L B (M.eraseIdx n) := ⟨fun m hm => h.all m (List.mem_of_mem_eraseIdx hm), h.up.sublist (List.eraseIdx_sublist _ _)⟩
theorem LeastK.same {L : Nat} {F : List Nat} {lo hi : Option (List Nat)} {m j k : Nat} (x : LeastK L F lo hi m j) (y : LeastK L F lo hi m k) : j = k := Nat.le_antisymm (x.le y.one y.room) (y.le x.one x.room)
theorem isTh_len {t : Str} (ht : isTh t = true) : t.length ≤ 12 := by
  unfold isTh at ht
  rw [Bool.and_eq_true, Bool.and_eq_true] at ht
  exact of_decide_eq_true ht.2.1
theorem insL_mem {α : Type} {l : List α} {n : Nat} {y z : α} (h : z ∈ insL l n y) : z ∈ l ∨ z = y := by
  unfold insL at h
  rcases List.mem_append.mp h with h | h
  · rcases List.mem_append.mp h with h | h
    · exact .inl (List.mem_of_mem_take h)
    · exact .inr (List.mem_singleton.mp h)
  · exact .inl (List.mem_of_mem_drop h)
theorem sp_make {P : Hp → Prop} {E : XK} {dx : Addr} {H1 : Hp} (b : Box H H1 qs cs) (hl : qs.length = cs.length) (hL : 2 ≤ L) (hL2 : L ≤ 26) (nx : H1 x = none) (ndx : H1 dx = none) (nd : dx ≠ x)
    (q : ∀ lt lm H', Ex H1 H' → St1 K H H' L x lt lm qs cs B [] [] → P H') : sp_Shelf___init__ K [.ref x, .int L] (upd (upd H1 dx (.own x)) x (.ins (He.ga K "Shelf") dx [])) (fun v H2 => v = .non ∧ P H2) E := by
  refine ⟨x, dx, L, rfl, upd_same, clo_made b.clo nx ndx nd, fun z => absurd ⟨by omega, by omega⟩ z, fun _ _ lt lm H' ne hlt hlm hk hC hsh => ⟨rfl, ?_⟩⟩
  have ex : Ex H1 H' := fun a o e => hk a o (ne_of_none e nx) (ex_made nx ndx a o e)
  have hlt1 := (ex_made (C := He.ga K "Shelf") nx ndx).back hlt
  have hlm1 := (ex_made (C := He.ga K "Shelf") nx ndx).back hlm
  have n1 := b.notin hl hlt1
  have n2 := b.notin hl hlm1
  have b' := b.ext ex hC
  refine q lt lm H' ex ⟨⟨?_, fun z hz => ?_, fun i p c h1 h2 => ?_, b'.ex, hC⟩, b.ex.back nx, hsh.at_, hL, hL2, GoodMs.nil _ _, rfl, fun _ h => (nomatch h)⟩
  · refine List.nodup_cons.mpr ⟨fun h => ?_, List.nodup_cons.mpr ⟨fun h => n2 _ h rfl, b.nd⟩⟩
    rcases List.mem_cons.mp h with h | h
    · exact ne h
    · exact n1 _ h rfl
  · rcases List.mem_cons.mp hz with rfl | hz
    · exact b.ex.back hlt1
    · rcases List.mem_cons.mp hz with rfl | hz
      · exact b.ex.back hlm1
      · exact b.fresh z hz
  · match i, h1, h2 with
    | 0, h1, h2 => cases h1; cases h2; exact hsh.lt
    | 1, h1, h2 => cases h1; cases h2; exact hsh.lm
    | i + 2, h1, h2 => exact b'.at_ i p c h1 h2
end
theorem St1.putK {K : PySem.W.Frag} {H H' : Hp} {L B n : Nat} {x lt lm : Addr} {qs : List Addr} {cs : List (List V)} {T : List Str} {M : List (List Nat)} {t : Str} {Q : VK} {E : XK} (st : St1 K H H' L x lt lm qs cs B T M) (hB : B ≤ 80000) (hn : n ≤ M.length) (hm : M.length < 300) (ht : isTh t = true)
    (q : ∀ j H2, LeastK L (ends L 1 0) (lowAt M n) M[n]? 1 j → St1 K H H2 L x lt lm qs cs (B + 1) (insL T n t) (insL M n (betwMk L (ends L 1 0) (lowAt M n) M[n]? j)) → Kp H' H2 → Q (.str (txt (betwMk L (ends L 1 0) (lowAt M n) M[n]? j))) H2) : sp_Shelf_put K [.ref x, .int n, .str t] H' Q E := by
  have hl := st.len
  have htl := isTh_len ht
  have hto : ThOk T.length [t] := ⟨by simp, by show T.length + 1 ≤ 300; omega, fun y hy => by rw [List.mem_singleton.mp hy]; exact ht⟩
  refine ⟨x, lt, lm, L, B, n, t, T, M, rfl, st.sh, st.ne, st.b.clo, st.L2, st.L26, st.gm, hB, hl, by omega, by omega, by omega, by omega, fun y => absurd hto y, fun _ y => absurd ⟨by omega, by omega⟩ y, fun _ _ _ j hj => ?_⟩
  rw [Int.toNat_natCast] at hj ⊢
  have b1 := st.b.set (x := strV (insL T n t)) 0 rfl rfl
  have i1 := ins_keep (o := .lst (strV (insL T n t))) st.at_ (st.b.at_ 0 _ _ rfl rfl)
  have b2 := b1.set (x := mkV (insL M n (betwMk L (ends L 1 0) (lowAt M n) M[n]? j))) 1 rfl rfl
  have i2 := ins_keep (o := .lst (mkV (insL M n (betwMk L (ends L 1 0) (lowAt M n) M[n]? j)))) i1 (b1.at_ 1 _ _ rfl rfl)
  exact q j _ hj ⟨b2, st.x0, i2, st.L2, st.L26, st.gm.put st.L2 hB hn hj, by rw [insL_len (by omega), insL_len hn]; omega, fun y hy => by
    rcases insL_mem hy with h | h
    · exact st.th y h
    · rw [h]; exact ht⟩ ((st.b.kp 0 rfl rfl rfl).trans (b1.kp 1 rfl rfl rfl))
theorem St1.put {K : PySem.W.Frag} {H H' : Hp} {L B n : Nat} {x lt lm : Addr} {qs : List Addr} {cs : List (List V)} {T : List Str} {M : List (List Nat)} {t : Str} {Q : VK} {E : XK} (st : St1 K H H' L x lt lm qs cs B T M) (hB : B ≤ 80000) (hn : n ≤ M.length) (hm : M.length < 300) (ht : isTh t = true)
    (q : ∀ j H2, LeastK L (ends L 1 0) (lowAt M n) M[n]? 1 j → St1 K H H2 L x lt lm qs cs (B + 1) (insL T n t) (insL M n (betwMk L (ends L 1 0) (lowAt M n) M[n]? j)) → Q (.str (txt (betwMk L (ends L 1 0) (lowAt M n) M[n]? j))) H2) : sp_Shelf_put K [.ref x, .int n, .str t] H' Q E :=
  st.putK hB hn hm ht fun j H2 hj s _ => q j H2 hj s
theorem St1.takeK {K : PySem.W.Frag} {H H' : Hp} {L B n : Nat} {x lt lm : Addr} {qs : List Addr} {cs : List (List V)} {T : List Str} {M : List (List Nat)} {Q : VK} {E : XK} (st : St1 K H H' L x lt lm qs cs B T M) (hn : n < M.length) (hm : M.length ≤ 1000)
    (q : ∀ H2 (h : n < T.length), St1 K H H2 L x lt lm qs cs B (T.eraseIdx n) (M.eraseIdx n) → Kp H' H2 → Q (.str T[n]) H2) : sp_Shelf_take K [.ref x, .int n] H' Q E := by
  have hl := st.len
  refine ⟨x, lt, lm, L, n, T, M.map txt, rfl, st.sh, st.ne, by rw [List.length_map]; exact hl, by omega, fun y => absurd ⟨by omega, by omega⟩ y, fun m e h => ?_⟩
  obtain rfl : n = m := by omega
  rw [eraseIdx_mapL]
  have b1 := st.b.set (x := mkV (M.eraseIdx n)) 1 rfl rfl
  have i1 := ins_keep (o := .lst (mkV (M.eraseIdx n))) st.at_ (st.b.at_ 1 _ _ rfl rfl)
  have b2 := b1.set (x := strV (T.eraseIdx n)) 0 rfl rfl
  have i2 := ins_keep (o := .lst (strV (T.eraseIdx n))) i1 (b1.at_ 0 _ _ rfl rfl)
  exact q _ h ⟨b2, st.x0, i2, st.L2, st.L26, st.gm.erase n, by rw [List.length_eraseIdx, List.length_eraseIdx, if_pos h, if_pos hn]; omega, fun y hy => st.th y (List.mem_of_mem_eraseIdx hy)⟩ ((st.b.kp 1 rfl rfl rfl).trans (b1.kp 0 rfl rfl rfl))
theorem St1.take {K : PySem.W.Frag} {H H' : Hp} {L B n : Nat} {x lt lm : Addr} {qs : List Addr} {cs : List (List V)} {T : List Str} {M : List (List Nat)} {Q : VK} {E : XK} (st : St1 K H H' L x lt lm qs cs B T M) (hn : n < M.length) (hm : M.length ≤ 1000)
    (q : ∀ H2 (h : n < T.length), St1 K H H2 L x lt lm qs cs B (T.eraseIdx n) (M.eraseIdx n) → Q (.str T[n]) H2) : sp_Shelf_take K [.ref x, .int n] H' Q E :=
  st.takeK hn hm fun H2 h s _ => q H2 h s
/-- what lies between at a length is not empty, at none less -/
structure LeastS (L : Nat) (lo hi : Option (List Nat)) (k : Nat) : Prop where
  one : 1 ≤ k
  some : lowN L lo k < pastN L hi k
  none : ∀ j, 1 ≤ j → j < k → pastN L hi j ≤ lowN L lo j
theorem mem_ends1 {L f : Nat} : f ∈ ends L 1 0 ↔ 1 ≤ f ∧ f < L := by
  rw [ends_mem, Nat.mod_one]
  exact ⟨fun h => ⟨h.1, h.2.1⟩, fun h => ⟨h.1, h.2, rfl⟩⟩
/-- all that lies between at the least length ends with no a -/
theorem LeastS.nomult {L k : Nat} {lo hi : Option (List Nat)} (hL : 2 ≤ L) (he : Ends2 L lo hi) (h : LeastS L lo hi k) : ∀ n, lowN L lo k ≤ n → n < pastN L hi k → n % L ∈ ends L 1 0 := by
  intro n h1 h2
  rw [mem_ends1]
  refine ⟨Nat.pos_of_ne_zero fun z => ?_, Nat.mod_lt _ (by omega)⟩
  have hp := past_le (k := k) (show 0 < L by omega) he
  have hn0 : 0 < n := Nat.lt_of_lt_of_le (low_pos L lo k) h1
  obtain ⟨m, rfl⟩ : ∃ m, n = m * L := ⟨n / L, (Nat.div_mul_cancel (Nat.dvd_of_mod_eq_zero z)).symm⟩
  have hm0 : 0 < m := Nat.pos_of_ne_zero fun e => by rw [e, Nat.zero_mul] at hn0; omega
  obtain ⟨j, rfl⟩ : ∃ j, k = j + 1 := ⟨k - 1, by have := h.one; omega⟩
  have hmj : m < L ^ j := by
    have e : L ^ (j + 1) = L ^ j * L := Nat.pow_succ ..
    have : m * L < L ^ j * L := by omega
    exact Nat.lt_of_mul_lt_mul_right this
  have hj : 1 ≤ j := by
    rcases Nat.eq_zero_or_pos j with e | e
    · rw [e, Nat.pow_zero] at hmj; omega
    · exact e
  have x0 := mk0_markOf (L := L) (n := m) (k := j) (by omega)
  have xl := markOf_len L m j
  have xw := whole_mark hmj
  have xne : markOf L m j ≠ [] := mark_ne hm0 hmj
  have w2 : whole L (markOf L m j) (j + 1) = m * L := by
    show whole L (markOf L m j) j * L + (markOf L m j).getD j 0 = _
    rw [xw, List.getD_eq_getElem?_getD, List.getElem?_eq_none xl]; rfl
  have b := (betw_iff (k := j + 1) (by omega) he x0 (by omega) xne).mpr ⟨by rw [w2]; exact h1, by rw [w2]; exact h2⟩
  have c := (betw_iff (k := j) (by omega) he x0 xl xne).mp b
  have := h.none j hj (by omega)
  omega
theorem below_run {L : Nat} {F : List Nat} (hF : Figs L F) (hL : 0 < L) {a : Nat} : ∀ i, (∀ n, a ≤ n → n < a + i → n % L ∈ F) → below L F (a + i) = below L F a + i
  | 0, _ => rfl
  | i + 1, h => by
    rw [← Nat.add_assoc, below_succ hF hL, if_pos (h (a + i) (by omega) (by omega)), below_run hF hL i fun n h1 h2 => h n h1 (by omega)]
    omega
theorem LeastS.room {L k : Nat} {lo hi : Option (List Nat)} (hL : 2 ≤ L) (he : Ends2 L lo hi) (h : LeastS L lo hi k) : roomN L (ends L 1 0) lo hi k = pastN L hi k - lowN L lo k := by
  have hF := figs_ends (show 0 < 1 by omega) (show 1 < L by omega)
  have := below_run hF (show 0 < L by omega) (a := lowN L lo k) (pastN L hi k - lowN L lo k) fun n h1 h2 => h.nomult hL he n h1 (by omega)
  have hs := h.some
  rw [show lowN L lo k + (pastN L hi k - lowN L lo k) = pastN L hi k by omega] at this
  unfold roomN
  omega
theorem LeastS.nth {L k i : Nat} {lo hi : Option (List Nat)} (hL : 2 ≤ L) (he : Ends2 L lo hi) (h : LeastS L lo hi k) (hi2 : i < pastN L hi k - lowN L lo k) : nth L (ends L 1 0) (below L (ends L 1 0) (lowN L lo k) + i) = lowN L lo k + i := by
  have hF := figs_ends (show 0 < 1 by omega) (show 1 < L by omega)
  rw [← below_run hF (show 0 < L by omega) (a := lowN L lo k) i fun n h1 h2 => h.nomult hL he n h1 (by omega)]
  exact nth_below hF (h.nomult hL he _ (by omega) (by omega))
theorem LeastS.least {L k : Nat} {lo hi : Option (List Nat)} (hL : 2 ≤ L) (he : Ends2 L lo hi) (h : LeastS L lo hi k) : LeastK L (ends L 1 0) lo hi 1 k := by
  have hF := figs_ends (show 0 < 1 by omega) (show 1 < L by omega)
  refine ⟨h.one, ?_, fun j h1 h2 => ?_⟩
  · rw [h.room hL he]
    have := h.some
    omega
  · have := below_mono hF (show 0 < L by omega) (h.none j h1 h2)
    unfold roomN
    omega
/-- the number that the law takes -/
def spanN (L : Nat) (lo hi : Option (List Nat)) (k : Nat) : Nat := match lo, hi with
  | some _, none => lowN L lo k
  | none, some _ => pastN L hi k - 1
  | _, _ => (lowN L lo k + pastN L hi k - 1) / 2
theorem LeastS.mark {L k : Nat} {lo hi : Option (List Nat)} (hL : 2 ≤ L) (he : Ends2 L lo hi) (h : LeastS L lo hi k) : betwMk L (ends L 1 0) lo hi k = markOf L (spanN L lo hi k) k := by
  have hs := h.some
  unfold betwMk
  rw [h.room hL he, h.nth hL he (by unfold pickN; split <;> omega)]
  congr 1
  unfold pickN spanN
  split <;> (try dsimp only) <;> omega

/-! ### the marks at an end -/
def topM (L p d : Nat) : List Nat := List.replicate p (L - 1) ++ [d]
def botM (p d : Nat) : List Nat := List.replicate p 0 ++ [d]
theorem whole_top {L p : Nat} {t : List Nat} (hL : 1 ≤ L) : ∀ j, j ≤ p → whole L (List.replicate p (L - 1) ++ t) j = L ^ j - 1
  | 0, _ => by rw [Nat.pow_zero]; rfl
  | j + 1, h => by
    show whole L _ j * L + (List.replicate p (L - 1) ++ t).getD j 0 = _
    rw [whole_top hL j (by omega), List.getD_eq_getElem?_getD, List.getElem?_append_left (by rw [List.length_replicate]; omega), List.getElem?_replicate, if_pos (by omega)]
    have h1 : 1 ≤ L ^ j := Nat.pow_pos hL
    have h2 : L ^ (j + 1) = L ^ j * L := Nat.pow_succ ..
    have h3 : (L ^ j - 1) * L = L ^ j * L - L := by rw [Nat.sub_mul, Nat.one_mul]
    have h4 : L ≤ L ^ j * L := Nat.le_mul_of_pos_left _ h1
    show _ + (L - 1) = _
    omega
theorem whole_bot {L p : Nat} {t : List Nat} : ∀ j, j ≤ p → whole L (List.replicate p 0 ++ t) j = 0
  | 0, _ => rfl
  | j + 1, h => by
    show whole L _ j * L + (List.replicate p 0 ++ t).getD j 0 = _
    rw [whole_bot j (by omega), List.getD_eq_getElem?_getD, List.getElem?_append_left (by rw [List.length_replicate]; omega), List.getElem?_replicate, if_pos (by omega)]
    show 0 * L + 0 = 0
    omega
theorem snoc_getD {α : Type} (l : List α) (x d : α) : (l ++ [x]).getD l.length d = x := by
  rw [List.getD_eq_getElem?_getD, List.getElem?_append_right (Nat.le_refl _), Nat.sub_self]; rfl
theorem topM_len (L p d : Nat) : (topM L p d).length = p + 1 := by unfold topM; rw [List.length_append, List.length_replicate]; rfl
theorem botM_len (p d : Nat) : (botM p d).length = p + 1 := by unfold botM; rw [List.length_append, List.length_replicate]; rfl
theorem whole_topM {L p d : Nat} (hL : 1 ≤ L) : whole L (topM L p d) (p + 1) = (L ^ p - 1) * L + d := by
  show whole L (topM L p d) p * L + (topM L p d).getD p 0 = _
  unfold topM
  rw [whole_top hL p (Nat.le_refl _)]
  have := snoc_getD (List.replicate p (L - 1)) d 0
  rw [List.length_replicate] at this
  rw [this]
theorem whole_botM {L p d : Nat} : whole L (botM p d) (p + 1) = d := by
  show whole L (botM p d) p * L + (botM p d).getD p 0 = _
  unfold botM
  rw [whole_bot p (Nat.le_refl _)]
  have := snoc_getD (List.replicate p 0) d 0
  rw [List.length_replicate] at this
  rw [this, Nat.zero_mul, Nat.zero_add]
theorem snoc_last {α : Type} (l : List α) (x : α) (h : l ++ [x] ≠ []) : (l ++ [x]).getLast h = x := by simp
theorem topM_mk {L p d : Nat} (hd : 1 ≤ d) (hd2 : d < L) : Mk0 L (topM L p d) := ⟨fun x hx => by
  rcases List.mem_append.mp hx with h | h
  · rw [(List.mem_replicate.mp h).2]; omega
  · rw [List.mem_singleton.mp h]; exact hd2, fun h => by rw [show (topM L p d).getLast h = d from snoc_last _ _ h]; omega⟩
theorem botM_mk {L p d : Nat} (hd : 1 ≤ d) (hd2 : d < L) : Mk0 L (botM p d) := ⟨fun x hx => by
  rcases List.mem_append.mp hx with h | h
  · rw [(List.mem_replicate.mp h).2]; omega
  · rw [List.mem_singleton.mp h]; exact hd2, fun h => by rw [show (botM p d).getLast h = d from snoc_last _ _ h]; omega⟩
theorem snoc_ne {α : Type} (l : List α) (x : α) : l ++ [x] ≠ [] := by simp
theorem top_ends {L p d : Nat} (hd : 1 ≤ d) (hd2 : d < L) : Ends2 L (some (topM L p d)) none := ⟨fun a e => by cases e; exact ⟨topM_mk hd hd2, snoc_ne _ _⟩, fun b e => nomatch e⟩
theorem bot_ends {L p d : Nat} (hd : 1 ≤ d) (hd2 : d < L) : Ends2 L none (some (botM p d)) := ⟨fun b e => (nomatch e), fun a e => by cases e; exact ⟨botM_mk hd hd2, snoc_ne _ _⟩⟩
/-- the next one behind -/
def topNext (L p d : Nat) : Nat × Nat := if d + 1 < L then (p, d + 1) else (p + 1, 1)
def botNext (L p d : Nat) : Nat × Nat := if 1 < d then (p, d - 1) else (p + 1, L - 1)
theorem pow_lt_of {L p d : Nat} (hL : 2 ≤ L) (hd2 : d < L) : (L ^ p - 1) * L + d < L ^ (p + 1) := by
  have h1 : 1 ≤ L ^ p := Nat.pow_pos (by omega)
  have h2 : L ^ (p + 1) = L ^ p * L := Nat.pow_succ ..
  have h3 : (L ^ p - 1) * L = L ^ p * L - L := by rw [Nat.sub_mul, Nat.one_mul]
  have h4 : L ≤ L ^ p * L := Nat.le_mul_of_pos_left _ h1
  omega
theorem top_step {L p d k : Nat} (hL : 2 ≤ L) (hd : 1 ≤ d) (hd2 : d < L) (hk : LeastK L (ends L 1 0) (some (topM L p d)) none 1 k) : betwMk L (ends L 1 0) (some (topM L p d)) none k = topM L (topNext L p d).1 (topNext L p d).2 := by
  have he := top_ends (p := p) hd hd2
  have hw := whole_topM (p := p) (d := d) (show 1 ≤ L by omega)
  have hlt := pow_lt_of (p := p) hL hd2
  have hemp : ∀ j, j ≤ p → pastN L none j ≤ lowN L (some (topM L p d)) j := fun j hj => by
    show L ^ j ≤ whole L (topM L p d) j + 1
    unfold topM
    rw [whole_top (by omega) j hj]
    have : 1 ≤ L ^ j := Nat.pow_pos (by omega)
    omega
  unfold topNext
  by_cases c : d + 1 < L
  · rw [if_pos c]
    have s : LeastS L (some (topM L p d)) none (p + 1) := ⟨by omega, by
      show whole L (topM L p d) (p + 1) + 1 < L ^ (p + 1)
      have := pow_lt_of (p := p) hL c
      omega, fun j h1 h2 => hemp j (by omega)⟩
    obtain rfl := Nat.le_antisymm (hk.le (s.least hL he).one (s.least hL he).room) ((s.least hL he).le hk.one hk.room)
    rw [s.mark hL he]
    show markOf L (whole L (topM L p d) (p + 1) + 1) (p + 1) = topM L p (d + 1)
    rw [hw, Nat.add_assoc, ← whole_topM (p := p) (d := d + 1) (show 1 ≤ L by omega)]
    exact mark_whole (by omega) (topM_mk (by omega) c) (Nat.le_of_eq (topM_len _ _ _))
  · rw [if_neg c]
    obtain rfl : d = L - 1 := by omega
    have e : topM L p (L - 1) = List.replicate (p + 1) (L - 1) := by unfold topM; rw [List.replicate_succ']
    have hw2 : whole L (topM L p (L - 1)) (p + 1) = L ^ (p + 1) - 1 := by
      have := whole_top (p := p + 1) (t := []) (show 1 ≤ L by omega) (p + 1) (Nat.le_refl _)
      rw [List.append_nil] at this
      rw [e, this]
    have hw3 : whole L (topM L p (L - 1)) (p + 1 + 1) = (L ^ (p + 1) - 1) * L := by
      show whole L (topM L p (L - 1)) (p + 1) * L + (topM L p (L - 1)).getD (p + 1) 0 = _
      rw [hw2, List.getD_eq_getElem?_getD, List.getElem?_eq_none (by rw [topM_len]; omega)]; rfl
    have s : LeastS L (some (topM L p (L - 1))) none (p + 1 + 1) := ⟨by omega, by
      show whole L (topM L p (L - 1)) (p + 1 + 1) + 1 < L ^ (p + 1 + 1)
      have := pow_lt_of (p := p + 1) (d := 1) hL (by omega)
      omega, fun j h1 h2 => by
        rcases Nat.lt_succ_iff_lt_or_eq.mp h2 with z | z
        · exact hemp j (by omega)
        · rw [z]
          show L ^ (p + 1) ≤ whole L (topM L p (L - 1)) (p + 1) + 1
          omega⟩
    obtain rfl := Nat.le_antisymm (hk.le (s.least hL he).one (s.least hL he).room) ((s.least hL he).le hk.one hk.room)
    rw [s.mark hL he]
    show markOf L (whole L (topM L p (L - 1)) (p + 1 + 1) + 1) (p + 1 + 1) = topM L (p + 1) 1
    rw [hw3, ← whole_topM (p := p + 1) (d := 1) (show 1 ≤ L by omega)]
    exact mark_whole (by omega) (topM_mk (by omega) (by omega)) (Nat.le_of_eq (topM_len _ _ _))
theorem bot_step {L p d k : Nat} (hL : 2 ≤ L) (hd : 1 ≤ d) (hd2 : d < L) (hk : LeastK L (ends L 1 0) none (some (botM p d)) 1 k) : betwMk L (ends L 1 0) none (some (botM p d)) k = botM (botNext L p d).1 (botNext L p d).2 := by
  have he := bot_ends (p := p) hd hd2
  have hw := whole_botM (L := L) (p := p) (d := d)
  have hpast : ∀ j, pastN L (some (botM p d)) j = if (botM p d).length ≤ j then whole L (botM p d) j else whole L (botM p d) j + 1 := fun j => rfl
  have hemp : ∀ j, j ≤ p → pastN L (some (botM p d)) j ≤ lowN L none j := fun j hj => by
    rw [hpast, botM_len, if_neg (by omega)]
    unfold botM
    rw [whole_bot j hj]
    exact Nat.le_refl _
  have hp1 : pastN L (some (botM p d)) (p + 1) = d := by rw [hpast, botM_len, if_pos (Nat.le_refl _), hw]
  unfold botNext
  by_cases c : 1 < d
  · rw [if_pos c]
    have s : LeastS L none (some (botM p d)) (p + 1) := ⟨by omega, by rw [hp1]; exact c, fun j h1 h2 => hemp j (by omega)⟩
    obtain rfl := Nat.le_antisymm (hk.le (s.least hL he).one (s.least hL he).room) ((s.least hL he).le hk.one hk.room)
    rw [s.mark hL he]
    show markOf L (pastN L (some (botM p d)) (p + 1) - 1) (p + 1) = botM p (d - 1)
    rw [hp1, ← whole_botM (L := L) (p := p) (d := d - 1), whole_botM (L := L) (p := p) (d := d - 1)]
    have := mark_whole (L := L) (by omega) (botM_mk (L := L) (p := p) (d := d - 1) (by omega) (by omega)) (k := p + 1) (Nat.le_of_eq (botM_len _ _))
    rw [whole_botM] at this
    exact this
  · rw [if_neg c]
    obtain rfl : d = 1 := by omega
    have hp2 : pastN L (some (botM p 1)) (p + 1 + 1) = L := by
      rw [hpast, botM_len, if_pos (by omega)]
      show whole L (botM p 1) (p + 1) * L + (botM p 1).getD (p + 1) 0 = L
      rw [hw, List.getD_eq_getElem?_getD, List.getElem?_eq_none (by rw [botM_len]; omega), Nat.one_mul]; rfl
    have s : LeastS L none (some (botM p 1)) (p + 1 + 1) := ⟨by omega, by rw [hp2]; exact hL, fun j h1 h2 => by
      rcases Nat.lt_succ_iff_lt_or_eq.mp h2 with z | z
      · exact hemp j (by omega)
      · rw [z, hp1]; exact Nat.le_refl _⟩
    obtain rfl := Nat.le_antisymm (hk.le (s.least hL he).one (s.least hL he).room) ((s.least hL he).le hk.one hk.room)
    rw [s.mark hL he]
    show markOf L (pastN L (some (botM p 1)) (p + 1 + 1) - 1) (p + 1 + 1) = botM (p + 1) (L - 1)
    rw [hp2]
    have := mark_whole (L := L) (by omega) (botM_mk (L := L) (p := p + 1) (d := L - 1) (by omega) (by omega)) (k := p + 1 + 1) (Nat.le_of_eq (botM_len _ _))
    rw [whole_botM] at this
    exact this
theorem none_ends (L : Nat) : Ends2 L none none := ⟨fun b e => (nomatch e), fun b e => (nomatch e)⟩
theorem first_step {L k : Nat} (hL : 2 ≤ L) (hk : LeastK L (ends L 1 0) none none 1 k) : betwMk L (ends L 1 0) none none k = [L / 2] := by
  have he := none_ends L
  have s : LeastS L none none 1 := ⟨Nat.le_refl _, by show 1 < L ^ 1; rw [Nat.pow_one]; exact hL, fun j h1 h2 => by omega⟩
  obtain rfl := Nat.le_antisymm (hk.le (s.least hL he).one (s.least hL he).room) ((s.least hL he).le hk.one hk.room)
  rw [s.mark hL he]
  show markOf L ((1 + L ^ 1 - 1) / 2) 1 = _
  rw [Nat.pow_one, show 1 + L - 1 = L by omega]
  have m : Mk0 L [L / 2] := ⟨fun x hx => by rw [List.mem_singleton.mp hx]; omega, fun _ => by show L / 2 ≠ 0; omega⟩
  have := mark_whole (L := L) (by omega) m (k := 1) (Nat.le_refl _)
  rw [show whole L [L / 2] 1 = L / 2 by show 0 * L + L / 2 = L / 2; omega] at this
  exact this
def relR (L n p d : Nat) : Prop := (p = 0 ∧ d = L / 2 + (n - 1)) ∨ (1 ≤ p ∧ n = 1 + (L - 1) / 2 + (p - 1) * (L - 1) + d)
def relL (L n p d : Nat) : Prop := (p = 0 ∧ d + (n - 1) = L / 2) ∨ (1 ≤ p ∧ n = 1 + (L - 2) / 2 + (p - 1) * (L - 1) + (L - d))
theorem relR_next {L n p d : Nat} (hL : 2 ≤ L) (hn : 1 ≤ n) (hd2 : d < L) (h : relR L n p d) : relR L (n + 1) (topNext L p d).1 (topNext L p d).2 := by
  unfold topNext
  split
  · rcases h with ⟨h1, h2⟩ | ⟨h1, h2⟩
    · exact .inl ⟨h1, by omega⟩
    · exact .inr ⟨h1, by show n + 1 = 1 + (L - 1) / 2 + (p - 1) * (L - 1) + (d + 1); omega⟩
  · rcases h with ⟨h1, h2⟩ | ⟨h1, h2⟩
    · subst h1
      refine .inr ⟨by omega, ?_⟩
      show n + 1 = 1 + (L - 1) / 2 + (0 + 1 - 1) * (L - 1) + 1
      rw [Nat.zero_add, Nat.sub_self, Nat.zero_mul]
      omega
    · refine .inr ⟨by omega, ?_⟩
      show n + 1 = 1 + (L - 1) / 2 + (p + 1 - 1) * (L - 1) + 1
      obtain ⟨r, rfl⟩ : ∃ r, p = r + 1 := ⟨p - 1, by omega⟩
      rw [Nat.add_sub_cancel] at h2 ⊢
      rw [Nat.add_mul, Nat.one_mul]
      omega
theorem relL_next {L n p d : Nat} (hL : 2 ≤ L) (hn : 1 ≤ n) (hd : 1 ≤ d) (hd2 : d < L) (h : relL L n p d) : relL L (n + 1) (botNext L p d).1 (botNext L p d).2 := by
  unfold botNext
  split
  · rcases h with ⟨h1, h2⟩ | ⟨h1, h2⟩
    · exact .inl ⟨h1, by show d - 1 + (n + 1 - 1) = L / 2; omega⟩
    · exact .inr ⟨h1, by show n + 1 = 1 + (L - 2) / 2 + (p - 1) * (L - 1) + (L - (d - 1)); omega⟩
  · rcases h with ⟨h1, h2⟩ | ⟨h1, h2⟩
    · subst h1
      refine .inr ⟨by omega, ?_⟩
      show n + 1 = 1 + (L - 2) / 2 + (0 + 1 - 1) * (L - 1) + (L - (L - 1))
      rw [Nat.zero_add, Nat.sub_self, Nat.zero_mul]
      omega
    · refine .inr ⟨by omega, ?_⟩
      show n + 1 = 1 + (L - 2) / 2 + (p + 1 - 1) * (L - 1) + (L - (L - 1))
      obtain ⟨r, rfl⟩ : ∃ r, p = r + 1 := ⟨p - 1, by omega⟩
      rw [Nat.add_sub_cancel] at h2 ⊢
      rw [Nat.add_mul, Nat.one_mul]
      omega
theorem rel_small {a b c n : Nat} (hb : 1 ≤ b) (h : n = c + (a - 1) * b) : a ≤ n + 1 := by
  have : (a - 1) * 1 ≤ (a - 1) * b := Nat.mul_le_mul_left _ hb
  omega

/-! ### how long marks grow -/
theorem log_posG {L : Nat} (h : 2 ≤ L) : 1 ≤ Nat.log2 L := (Nat.le_log2 (by omega)).mpr h
def lngN (f n : Nat) : Nat := if n < 2 then n else 2 + (n - 2) / f
def slack (f n : Nat) : Nat := f - 1 - (n - 2) % f
theorem lng_mono {f n : Nat} (hf : 1 ≤ f) : lngN f n ≤ lngN f (n + 1) := by
  unfold lngN
  by_cases h : n < 2
  · rw [if_pos h]
    split
    · omega
    · exact Nat.le_trans (show n ≤ 2 by omega) (Nat.le_add_right _ _)
  · rw [if_neg h, if_neg (by omega)]
    have := Nat.div_le_div_right (c := f) (show n - 2 ≤ n + 1 - 2 by omega)
    omega
/-- from one putting to the next: as long, half the slack; or one longer -/
theorem lng_step {f n : Nat} (hf : 1 ≤ f) (hn : 2 ≤ n) : (lngN f (n + 1) = lngN f n ∧ slack f n = slack f (n + 1) + 1) ∨ (lngN f (n + 1) = lngN f n + 1 ∧ slack f (n + 1) = f - 1) := by
  have h1 := Nat.div_add_mod (n - 2) f
  have h2 := Nat.mod_lt (n - 2) (show 0 < f by omega)
  unfold lngN slack
  rw [if_neg (by omega), if_neg (by omega), show n + 1 - 2 = n - 2 + 1 by omega]
  by_cases c : (n - 2) % f + 1 = f
  · have e1 : (n - 2 + 1) / f = (n - 2) / f + 1 := by
      rw [show n - 2 + 1 = f * ((n - 2) / f + 1) by rw [Nat.mul_add]; omega, Nat.mul_div_cancel_left _ (by omega)]
    have e2 : (n - 2 + 1) % f = 0 := by
      rw [show n - 2 + 1 = f * ((n - 2) / f + 1) by rw [Nat.mul_add]; omega, Nat.mul_mod_right]
    right
    rw [e1, e2]
    omega
  · have e1 : (n - 2 + 1) / f = (n - 2) / f := by
      rw [show n - 2 + 1 = ((n - 2) % f + 1) + f * ((n - 2) / f) by omega, Nat.add_mul_div_left _ _ (by omega), Nat.div_eq_of_lt (by omega), Nat.zero_add]
    have e2 : (n - 2 + 1) % f = (n - 2) % f + 1 := by
      rw [show n - 2 + 1 = ((n - 2) % f + 1) + f * ((n - 2) / f) by omega, Nat.add_mul_mod_self_left, Nat.mod_eq_of_lt (by omega)]
    left
    rw [e1, e2]
    omega
theorem insL_get {α : Type} {M : List α} {n : Nat} {m : α} (hn : n ≤ M.length) (j : Nat) : (insL M n m)[j]? = if j < n then M[j]? else if j = n then some m else M[j - 1]? := by
  unfold insL
  have h1 : (M.take n).length = n := by rw [List.length_take]; omega
  rw [List.append_assoc]
  by_cases c : j < n
  · rw [if_pos c, List.getElem?_append_left (by omega), List.getElem?_take, if_pos c]
  · rw [if_neg c, List.getElem?_append_right (by omega), h1]
    by_cases c2 : j = n
    · rw [if_pos c2, c2, Nat.sub_self]; rfl
    · rw [if_neg c2, List.getElem?_append_right (by show 1 ≤ _; omega)]
      show (M.drop n)[j - n - 1]? = _
      rw [List.getElem?_drop, show n + (j - n - 1) = j - 1 by omega]
/-- neighbours: no shorter mark between, and so far apart at the length K -/
structure Nbr (L K c : Nat) (a b : List Nat) : Prop where
  J : ∀ j, (j < a.length ∨ j < b.length) → pastN L (some b) j ≤ lowN L (some a) j
  D : whole L a K + c ≤ whole L b K
structure Grow (L n : Nat) (M : List (List Nat)) : Prop where
  gm : GoodMs L (lngN (Nat.log2 L) n) M
  len : M.length = n
  one : 1 ≤ n
  nb : ∀ i a b, M[i]? = some a → M[i + 1]? = some b → Nbr L (lngN (Nat.log2 L) n) (2 ^ slack (Nat.log2 L) n) a b
  R : ∃ e p d, 1 ≤ e ∧ e ≤ n ∧ 1 ≤ d ∧ d < L ∧ relR L e p d ∧ M[n - 1]? = some (topM L p d)
  F : ∃ e p d, 1 ≤ e ∧ e ≤ n ∧ 1 ≤ d ∧ d < L ∧ relL L e p d ∧ M[0]? = some (botM p d)
theorem Nbr.mono {L K c c' : Nat} {a b : List Nat} (h : Nbr L K c a b) (hc : c' ≤ c) : Nbr L K c' a b := ⟨h.J, by have := h.D; omega⟩
/-- one letter more -/
theorem Nbr.up {L K c c' : Nat} {a b : List Nat} (h : Nbr L K c a b) (ha : a.length ≤ K) (hb : b.length ≤ K) (hc : c' ≤ c * L) : Nbr L (K + 1) c' a b := by
  refine ⟨h.J, ?_⟩
  have e1 := whole_pad (L := L) ha 1
  have e2 := whole_pad (L := L) hb 1
  rw [Nat.pow_one] at e1 e2
  rw [e1, e2]
  have := Nat.mul_le_mul_right L h.D
  rw [Nat.add_mul] at this
  omega
/-- at a length beyond both, past is the number of the one behind -/
theorem past_whole {L k : Nat} {b : List Nat} (hb : b.length ≤ k) : pastN L (some b) k = whole L b k := by
  show (if b.length ≤ k then _ else _) = _
  rw [if_pos hb]
/-- what lies between a mark and one between: less than between the two -/
theorem sub_left {L j : Nat} {a m b : List Nat} (hL : 0 < L) (mm : Mk0 L m) (mb : Mk0 L b) (hmb : m < b) (hj : j < m.length) (h : pastN L (some b) j ≤ lowN L (some a) j) : pastN L (some m) j ≤ lowN L (some a) j := by
  refine Nat.le_trans ?_ h
  show (if m.length ≤ j then _ else whole L m j + 1) ≤ _
  rw [if_neg (by omega)]
  show _ ≤ if b.length ≤ j then whole L b j else whole L b j + 1
  split
  · exact (ltG_whole hL mm.lt mb (by assumption)).mp hmb
  · refine Nat.succ_le_succ (Nat.not_lt.mp fun z => ?_)
    exact List.lt_asymm hmb (trunc_lt (k := j) hL mb.lt mm.lt z)
theorem sub_right {L j : Nat} {a m b : List Nat} (hL : 0 < L) (ma : Mk0 L a) (mm : Mk0 L m) (ham : a < m) (h : pastN L (some b) j ≤ lowN L (some a) j) : pastN L (some b) j ≤ lowN L (some m) j := by
  refine Nat.le_trans h ?_
  show whole L a j + 1 ≤ whole L m j + 1
  refine Nat.succ_le_succ (Nat.not_lt.mp fun z => ?_)
  exact List.lt_asymm ham (trunc_lt (k := j) hL mm.lt ma.lt z)
theorem least_ex {P : Nat → Prop} : ∀ K, 1 ≤ K → P K → ∃ k, 1 ≤ k ∧ P k ∧ ∀ j, 1 ≤ j → j < k → ¬ P j := by
  intro K
  induction K using Nat.strongRecOn with
  | ind K ih =>
    intro h1 h2
    by_cases c : ∃ j, 1 ≤ j ∧ j < K ∧ P j
    · obtain ⟨j, j1, j2, j3⟩ := c
      exact ih j j2 j1 j3
    · exact ⟨K, h1, h2, fun j j1 j2 j3 => c ⟨j, j1, j2, j3⟩⟩
/-- a mark put in between two -/
theorem grow_in {L K s k : Nat} {a b : List Nat} (hL : 2 ≤ L) (ma : Mk0 L a) (mb : Mk0 L b) (na : a ≠ []) (nb : b ≠ []) (ha : a.length ≤ K) (hb : b.length ≤ K) (h : Nbr L K (2 ^ (s + 1)) a b) (hs : 2 ^ s ≤ L) (hk : LeastK L (ends L 1 0) (some a) (some b) 1 k) :
    k ≤ K ∧ Nbr L K (2 ^ s) a (betwMk L (ends L 1 0) (some a) (some b) k) ∧ Nbr L K (2 ^ s) (betwMk L (ends L 1 0) (some a) (some b) k) b := by
  have he : Ends2 L (some a) (some b) := ⟨fun x e => by cases e; exact ⟨ma, na⟩, fun x e => by cases e; exact ⟨mb, nb⟩⟩
  -- the least length with anything between
  have hD := h.D
  have h2 : 2 ≤ 2 ^ (s + 1) := by
    have := Nat.pow_le_pow_right (show 0 < 2 by omega) (show 1 ≤ s + 1 by omega)
    omega
  have hK : lowN L (some a) K < pastN L (some b) K := by
    rw [past_whole hb]
    show whole L a K + 1 < whole L b K
    omega
  obtain ⟨kk, hls⟩ : ∃ kk, LeastS L (some a) (some b) kk := by
    obtain ⟨kk, h1, h2, h3⟩ := least_ex (P := fun j => lowN L (some a) j < pastN L (some b) j) K (by have := List.length_pos_iff.mpr na; omega) hK
    exact ⟨kk, h1, h2, fun j j1 j2 => Nat.not_lt.mp (h3 j j1 j2)⟩
  obtain rfl : k = kk := Nat.le_antisymm (hk.le (hls.least hL he).one (hls.least hL he).room) ((hls.least hL he).le hk.one hk.room)
  have hkK : k ≤ K := Nat.not_lt.mp fun z => by
    have := hls.none K (by have := List.length_pos_iff.mpr na; omega) z
    omega
  have hsome := hls.some
  have hka : a.length ≤ k := Nat.not_lt.mp fun z => by have := h.J k (.inl z); omega
  have hkb : b.length ≤ k := Nat.not_lt.mp fun z => by have := h.J k (.inr z); omega
  have x := betwMk_ok hL (show 0 < 1 by omega) (show 1 < L by omega) he hk
  have hM := hls.mark hL he
  generalize betwMk L (ends L 1 0) (some a) (some b) k = m at x hM ⊢
  rw [past_whole hkb] at hsome
  have hsome : whole L a k + 1 < whole L b k := hsome
  have hml := x.len
  have hN : spanN L (some a) (some b) k = (whole L a k + whole L b k) / 2 := by
    show (lowN L (some a) k + pastN L (some b) k - 1) / 2 = _
    rw [past_whole hkb]
    show (whole L a k + 1 + whole L b k - 1) / 2 = _
    congr 1
    omega
  have hbk := whole_lt (show 0 < L by omega) mb.lt k
  have hw : whole L m k = (whole L a k + whole L b k) / 2 := by
    rw [hM, hN, whole_mark (by omega)]
  obtain ⟨t, ht⟩ : ∃ t, K = k + t := ⟨K - k, by omega⟩
  have ea : whole L a K = whole L a k * L ^ t := by rw [ht, whole_pad hka]
  have eb : whole L b K = whole L b k * L ^ t := by rw [ht, whole_pad hkb]
  have em : whole L m K = whole L m k * L ^ t := by rw [ht, whole_pad (Nat.le_of_eq hml)]
  have hb1 := x.betw.1 a rfl
  have hb2 := x.betw.2 b rfl
  refine ⟨hkK, ⟨fun j hj => ?_, ?_⟩, ⟨fun j hj => ?_, ?_⟩⟩
  · have hjk : j < k := by omega
    rcases Nat.eq_zero_or_pos j with z | z
    · subst z
      show (if m.length ≤ 0 then _ else whole L m 0 + 1) ≤ whole L a 0 + 1
      rw [if_neg (by have := hk.one; omega)]
      exact Nat.le_refl _
    · exact sub_left (by omega) x.mk0 mb hb2 (by omega) (hls.none j z hjk)
  · rw [ea, em, hw]
    by_cases ct : t = 0
    · subst ct
      rw [ea, eb, Nat.pow_zero, Nat.mul_one, Nat.mul_one] at hD
      rw [Nat.pow_zero, Nat.mul_one, Nat.mul_one]
      have := Nat.pow_succ (m := s) (n := 2)
      omega
    · have hLt : L ≤ L ^ t := by
        have := Nat.pow_le_pow_right (show 0 < L by omega) (show 1 ≤ t by omega)
        rw [Nat.pow_one] at this; exact this
      have h3 := Nat.mul_le_mul_right (L ^ t) (show whole L a k + 1 ≤ (whole L a k + whole L b k) / 2 by omega)
      rw [Nat.add_mul, Nat.one_mul] at h3
      omega
  · have hjk : j < k := by omega
    rcases Nat.eq_zero_or_pos j with z | z
    · subst z
      show (if b.length ≤ 0 then _ else whole L b 0 + 1) ≤ whole L m 0 + 1
      rw [if_neg (by have := List.length_pos_iff.mpr nb; omega)]
      exact Nat.le_refl _
    · exact sub_right (by omega) ma x.mk0 hb1 (hls.none j z hjk)
  · rw [eb, em, hw]
    by_cases ct : t = 0
    · subst ct
      rw [ea, eb, Nat.pow_zero, Nat.mul_one, Nat.mul_one] at hD
      rw [Nat.pow_zero, Nat.mul_one, Nat.mul_one]
      have := Nat.pow_succ (m := s) (n := 2)
      omega
    · have hLt : L ≤ L ^ t := by
        have := Nat.pow_le_pow_right (show 0 < L by omega) (show 1 ≤ t by omega)
        rw [Nat.pow_one] at this; exact this
      have h3 := Nat.mul_le_mul_right (L ^ t) (show (whole L a k + whole L b k) / 2 + 1 ≤ whole L b k by omega)
      rw [Nat.add_mul, Nat.one_mul] at h3
      omega

theorem half_free {L : Nat} (hL : 2 ≤ L) : Nat.log2 L - 1 ≤ (L - 2) / 2 := by
  have h1 : 2 ^ Nat.log2 L ≤ L := (Nat.le_log2 (by omega)).mp (Nat.le_refl _)
  have hf := log_posG hL
  obtain ⟨g, hg⟩ : ∃ g, Nat.log2 L = g + 1 := ⟨Nat.log2 L - 1, by omega⟩
  rw [hg, Nat.pow_succ] at h1
  have h2 : g < 2 ^ g := Nat.lt_two_pow_self
  omega
/-- at an end: a mark is no longer than the bound, and where it is that long no slack is left -/
theorem end_bound {L n k e c : Nat} (hL : 2 ≤ L) (hn : 1 ≤ n) (hc : Nat.log2 L - 1 ≤ c) (he : e ≤ n + 1) (hk : 2 ≤ k) (h : e = 1 + c + (k - 2) * (L - 1) + 1 ∨ ∃ d, 1 ≤ d ∧ e = 1 + c + (k - 2) * (L - 1) + d) : k < lngN (Nat.log2 L) (n + 1) ∨ (k = lngN (Nat.log2 L) (n + 1) ∧ slack (Nat.log2 L) (n + 1) = 0) := by
  have hf := log_posG hL
  have h1 : 2 ^ Nat.log2 L ≤ L := (Nat.le_log2 (by omega)).mp (Nat.le_refl _)
  have h2 : Nat.log2 L < 2 ^ Nat.log2 L := Nat.lt_two_pow_self
  generalize Nat.log2 L = f at *
  have hge : 2 + c + (k - 2) * (L - 1) ≤ n + 1 := by
    rcases h with h | ⟨d, hd, h⟩ <;> omega
  unfold lngN slack
  rw [if_neg (by omega)]
  have h3 := Nat.div_add_mod (n + 1 - 2) f
  have h4 := Nat.mod_lt (n + 1 - 2) (show 0 < f by omega)
  generalize (n + 1 - 2) / f = q at *
  generalize (n + 1 - 2) % f = r at *
  have h5 : (k - 2) * f ≤ (k - 2) * (L - 1) := Nat.mul_le_mul_left _ (by omega)
  rcases Nat.lt_trichotomy (k - 2) q with z | z | z
  · left; omega
  · right
    subst z
    rw [Nat.mul_comm] at h3
    omega
  · exfalso
    have h6 : (q + 1) * f ≤ (k - 2) * f := Nat.mul_le_mul_right _ z
    rw [Nat.add_mul, Nat.one_mul, Nat.mul_comm q f] at h6
    omega
theorem leastS_of {L k : Nat} {lo hi : Option (List Nat)} (hL : 2 ≤ L) (he : Ends2 L lo hi) (hk : LeastK L (ends L 1 0) lo hi 1 k) : LeastS L lo hi k := by
  have hF := figs_ends (show 0 < 1 by omega) (show 1 < L by omega)
  have hs : lowN L lo k < pastN L hi k := Nat.not_le.mp fun z => by
    have := below_mono hF (show 0 < L by omega) z
    have h1 := hk.room
    unfold roomN at h1
    omega
  obtain ⟨kk, h1, h2, h3⟩ := least_ex (P := fun j => lowN L lo j < pastN L hi j) k hk.one hs
  have hls : LeastS L lo hi kk := ⟨h1, h2, fun j j1 j2 => Nat.not_lt.mp (h3 j j1 j2)⟩
  obtain rfl : k = kk := Nat.le_antisymm (hk.le (hls.least hL he).one (hls.least hL he).room) ((hls.least hL he).le hk.one hk.room)
  exact hls
theorem pow_log {L : Nat} (hL : 2 ≤ L) : 2 ^ Nat.log2 L ≤ L := (Nat.le_log2 (by omega)).mp (Nat.le_refl _)
theorem slack_lt {f n : Nat} (hf : 1 ≤ f) : slack f n + 1 ≤ f := by unfold slack; omega
theorem pow_slack {L n : Nat} (hL : 2 ≤ L) : 2 ^ slack (Nat.log2 L) n ≤ L := Nat.le_trans (Nat.pow_le_pow_right (by omega) (by have := slack_lt (n := n) (log_posG hL); omega)) (pow_log hL)
theorem Nbr.next {L n : Nat} {a b : List Nat} (hL : 2 ≤ L) (hn : 2 ≤ n) (ha : a.length ≤ lngN (Nat.log2 L) n) (hb : b.length ≤ lngN (Nat.log2 L) n) (h : Nbr L (lngN (Nat.log2 L) n) (2 ^ slack (Nat.log2 L) n) a b) : Nbr L (lngN (Nat.log2 L) (n + 1)) (2 ^ (slack (Nat.log2 L) (n + 1) + 1)) a b := by
  have hf := log_posG hL
  rcases lng_step hf hn with ⟨e1, e2⟩ | ⟨e1, e2⟩
  · rw [e1, ← e2]; exact h
  · rw [e1, e2]
    refine h.up ha hb ?_
    rw [show Nat.log2 L - 1 + 1 = Nat.log2 L by omega]
    refine Nat.le_trans (pow_log hL) (Nat.le_mul_of_pos_left _ (Nat.pow_pos (by omega)))
/-- at the end behind -/
theorem grow_top {L n k e p d : Nat} (hL : 2 ≤ L) (hn : 1 ≤ n) (he1 : 1 ≤ e) (he : e ≤ n) (hd : 1 ≤ d) (hd2 : d < L) (r : relR L e p d) (hk : LeastK L (ends L 1 0) (some (topM L p d)) none 1 k) :
    k ≤ lngN (Nat.log2 L) (n + 1) ∧ Nbr L (lngN (Nat.log2 L) (n + 1)) (2 ^ slack (Nat.log2 L) (n + 1)) (topM L p d) (betwMk L (ends L 1 0) (some (topM L p d)) none k) := by
  have hE := top_ends (p := p) hd hd2
  have ls := leastS_of hL hE hk
  have x := betwMk_ok hL (show 0 < 1 by omega) (show 1 < L by omega) hE hk
  have ht := top_step hL hd hd2 hk
  have rn := relR_next hL he1 hd2 r
  generalize betwMk L (ends L 1 0) (some (topM L p d)) none k = m at x ht ⊢
  have hkp : k = (topNext L p d).1 + 1 := by rw [← x.len, ht, topM_len]
  have hpk : (topM L p d).length ≤ k := by
    rw [topM_len, hkp]
    unfold topNext
    split <;> (try dsimp only) <;> omega
  have hbd : k < lngN (Nat.log2 L) (n + 1) ∨ (k = lngN (Nat.log2 L) (n + 1) ∧ slack (Nat.log2 L) (n + 1) = 0) := by
    by_cases c : k < 2
    · left
      unfold lngN
      rw [if_neg (by omega)]
      exact Nat.lt_of_lt_of_le c (Nat.le_add_right _ _)
    · refine end_bound hL hn (c := (L - 1) / 2) (by have := half_free hL; omega) (show e + 1 ≤ n + 1 by omega) (by omega) (.inr ⟨(topNext L p d).2, ?_, ?_⟩)
      · unfold topNext; split <;> (try dsimp only) <;> omega
      · rcases rn with ⟨z, _⟩ | ⟨_, z⟩
        · omega
        · rw [hkp, show (topNext L p d).1 + 1 - 2 = (topNext L p d).1 - 1 by omega]; exact z
  have hkl : k ≤ lngN (Nat.log2 L) (n + 1) := by omega
  refine ⟨hkl, fun j hj => ?_, ?_⟩
  · have hjk : j < k := by
      have := x.len
      omega
    show (if m.length ≤ j then _ else whole L m j + 1) ≤ whole L (topM L p d) j + 1
    rw [if_neg (by rw [x.len]; omega)]
    rcases Nat.eq_zero_or_pos j with z | z
    · subst z; exact Nat.le_refl _
    · have h1 := ls.none j z hjk
      have h1 : L ^ j ≤ whole L (topM L p d) j + 1 := h1
      have h2 := whole_lt (show 0 < L by omega) x.mk0.lt j
      omega
  · have hlt := (ltG_whole (k := k) (show 0 < L by omega) (topM_mk (p := p) hd hd2).lt x.mk0 (Nat.le_of_eq x.len)).mp (x.betw.1 _ rfl)
    obtain ⟨t, e⟩ : ∃ t, lngN (Nat.log2 L) (n + 1) = k + t := ⟨_, (Nat.add_sub_cancel' hkl).symm⟩
    rw [e, whole_pad hpk, whole_pad (Nat.le_of_eq x.len)]
    have h3 := Nat.mul_le_mul_right (L ^ t) (show whole L (topM L p d) k + 1 ≤ whole L m k from hlt)
    rw [Nat.add_mul, Nat.one_mul] at h3
    rcases Nat.eq_zero_or_pos t with z | z
    · subst z
      have hs : slack (Nat.log2 L) (n + 1) = 0 := by omega
      rw [hs]
      rw [Nat.pow_zero] at h3 ⊢
      exact h3
    · have h4 := Nat.pow_le_pow_right (show 0 < L by omega) z
      rw [Nat.pow_one] at h4
      have h5 := pow_slack (n := n + 1) hL
      omega
theorem grow_bot {L n k e p d : Nat} (hL : 2 ≤ L) (hn : 1 ≤ n) (he1 : 1 ≤ e) (he : e ≤ n) (hd : 1 ≤ d) (hd2 : d < L) (r : relL L e p d) (hk : LeastK L (ends L 1 0) none (some (botM p d)) 1 k) :
    k ≤ lngN (Nat.log2 L) (n + 1) ∧ Nbr L (lngN (Nat.log2 L) (n + 1)) (2 ^ slack (Nat.log2 L) (n + 1)) (betwMk L (ends L 1 0) none (some (botM p d)) k) (botM p d) := by
  have hE := bot_ends (p := p) hd hd2
  have ls := leastS_of hL hE hk
  have x := betwMk_ok hL (show 0 < 1 by omega) (show 1 < L by omega) hE hk
  have ht := bot_step hL hd hd2 hk
  have rn := relL_next hL he1 hd hd2 r
  generalize betwMk L (ends L 1 0) none (some (botM p d)) k = m at x ht ⊢
  have hkp : k = (botNext L p d).1 + 1 := by rw [← x.len, ht, botM_len]
  have hpk : (botM p d).length ≤ k := by
    rw [botM_len, hkp]
    unfold botNext
    split <;> (try dsimp only) <;> omega
  have hbd : k < lngN (Nat.log2 L) (n + 1) ∨ (k = lngN (Nat.log2 L) (n + 1) ∧ slack (Nat.log2 L) (n + 1) = 0) := by
    by_cases c : k < 2
    · left
      unfold lngN
      rw [if_neg (by omega)]
      exact Nat.lt_of_lt_of_le c (Nat.le_add_right _ _)
    · refine end_bound hL hn (c := (L - 2) / 2) (half_free hL) (show e + 1 ≤ n + 1 by omega) (by omega) (.inr ⟨L - (botNext L p d).2, ?_, ?_⟩)
      · unfold botNext; split <;> (try dsimp only) <;> omega
      · rcases rn with ⟨z, _⟩ | ⟨_, z⟩
        · omega
        · rw [hkp, show (botNext L p d).1 + 1 - 2 = (botNext L p d).1 - 1 by omega]; exact z
  have hkl : k ≤ lngN (Nat.log2 L) (n + 1) := by omega
  refine ⟨hkl, fun j hj => ?_, ?_⟩
  · have hjk : j < k := by
      have := x.len
      omega
    rcases Nat.eq_zero_or_pos j with z | z
    · subst z
      show (if (botM p d).length ≤ 0 then _ else whole L (botM p d) 0 + 1) ≤ whole L m 0 + 1
      rw [if_neg (by rw [botM_len]; omega)]
      exact Nat.le_refl _
    · have h1 := ls.none j z hjk
      have h1 : pastN L (some (botM p d)) j ≤ 1 := h1
      show _ ≤ whole L m j + 1
      omega
  · have hlt := (ltG_whole (k := k) (show 0 < L by omega) x.mk0.lt (botM_mk (L := L) (p := p) hd hd2) hpk).mp (x.betw.2 _ rfl)
    obtain ⟨t, e⟩ : ∃ t, lngN (Nat.log2 L) (n + 1) = k + t := ⟨_, (Nat.add_sub_cancel' hkl).symm⟩
    rw [e, whole_pad hpk, whole_pad (Nat.le_of_eq x.len)]
    have h3 := Nat.mul_le_mul_right (L ^ t) (show whole L m k + 1 ≤ whole L (botM p d) k from hlt)
    rw [Nat.add_mul, Nat.one_mul] at h3
    rcases Nat.eq_zero_or_pos t with z | z
    · subst z
      have hs : slack (Nat.log2 L) (n + 1) = 0 := by omega
      rw [hs]
      rw [Nat.pow_zero] at h3 ⊢
      exact h3
    · have h4 := Nat.pow_le_pow_right (show 0 < L by omega) z
      rw [Nat.pow_one] at h4
      have h5 := pow_slack (n := n + 1) hL
      omega
theorem Grow.step {L n i k : Nat} {M : List (List Nat)} (hL : 2 ≤ L) (g : Grow L n M) (hB : lngN (Nat.log2 L) n ≤ 80000) (hi : i ≤ n) (hk : LeastK L (ends L 1 0) (lowAt M i) M[i]? 1 k) : Grow L (n + 1) (insL M i (betwMk L (ends L 1 0) (lowAt M i) M[i]? k)) := by
  have hf := log_posG hL
  have hlen := g.len
  have hone := g.one
  have gp := g.gm.put hL hB (show i ≤ M.length by omega) hk
  have x := betwMk_ok hL (show 0 < 1 by omega) (show 1 < L by omega) (g.gm.ends3 (i := i) hB).e hk
  obtain ⟨e, p, d, e1, e2, d1, d2, r, hR⟩ := g.R
  obtain ⟨e', p', d', e1', e2', d1', d2', r', hF⟩ := g.F
  -- the new one is not too long, and stands well beside its neighbours
  have key : k ≤ lngN (Nat.log2 L) (n + 1) ∧ (∀ a, lowAt M i = some a → Nbr L (lngN (Nat.log2 L) (n + 1)) (2 ^ slack (Nat.log2 L) (n + 1)) a (betwMk L (ends L 1 0) (lowAt M i) M[i]? k)) ∧
      (∀ b, M[i]? = some b → Nbr L (lngN (Nat.log2 L) (n + 1)) (2 ^ slack (Nat.log2 L) (n + 1)) (betwMk L (ends L 1 0) (lowAt M i) M[i]? k) b) ∧
      (i = n → ∃ e p d, 1 ≤ e ∧ e ≤ n + 1 ∧ 1 ≤ d ∧ d < L ∧ relR L e p d ∧ betwMk L (ends L 1 0) (lowAt M i) M[i]? k = topM L p d) ∧
      (i = 0 → ∃ e p d, 1 ≤ e ∧ e ≤ n + 1 ∧ 1 ≤ d ∧ d < L ∧ relL L e p d ∧ betwMk L (ends L 1 0) (lowAt M i) M[i]? k = botM p d) := by
    by_cases c0 : i = 0
    · subst c0
      have h1 : lowAt M 0 = none := rfl
      rw [h1, hF] at hk ⊢
      obtain ⟨k1, k2⟩ := grow_bot hL hone e1' e2' d1' d2' r' hk
      refine ⟨k1, fun a z => (nomatch z), fun b z => by cases z; exact k2, fun z => by omega, fun _ => ⟨e' + 1, (botNext L p' d').1, (botNext L p' d').2, by omega, by omega, ?_, ?_, relL_next hL e1' d1' d2' r', bot_step hL d1' d2' hk⟩⟩
      · unfold botNext; split <;> (try dsimp only) <;> omega
      · unfold botNext; split <;> (try dsimp only) <;> omega
    · by_cases c1 : i = n
      · subst c1
        have h1 : lowAt M i = some (topM L p d) := by unfold lowAt; rw [if_neg c0]; exact hR
        have h2 : M[i]? = none := List.getElem?_eq_none (by omega)
        rw [h1, h2] at hk ⊢
        obtain ⟨k1, k2⟩ := grow_top hL hone e1 e2 d1 d2 r hk
        refine ⟨k1, fun a z => by cases z; exact k2, fun b z => (nomatch z), fun _ => ⟨e + 1, (topNext L p d).1, (topNext L p d).2, by omega, by omega, ?_, ?_, relR_next hL e1 d2 r, top_step hL d1 d2 hk⟩, fun z => absurd z c0⟩
        · unfold topNext; split <;> (try dsimp only) <;> omega
        · unfold topNext; split <;> (try dsimp only) <;> omega
      · have ea : M[i - 1]? = some (M[i - 1]'(by omega)) := List.getElem?_eq_getElem (by omega)
        have eb : M[i]? = some (M[i]'(by omega)) := List.getElem?_eq_getElem (by omega)
        have h1 : lowAt M i = some (M[i - 1]'(by omega)) := by unfold lowAt; rw [if_neg c0]; exact ea
        have nb := g.nb (i - 1) _ _ ea (by rw [show i - 1 + 1 = i by omega]; exact eb)
        rw [h1, eb] at hk ⊢
        obtain ⟨a1, a2, a3⟩ := g.gm.all _ (List.getElem_mem (show i - 1 < M.length by omega))
        obtain ⟨b1, b2, b3⟩ := g.gm.all _ (List.getElem_mem (show i < M.length by omega))
        have hm := lng_mono (n := n) hf
        obtain ⟨k1, k2, k3⟩ := grow_in hL a1 b1 a2 b2 (Nat.le_trans a3 hm) (Nat.le_trans b3 hm) (nb.next hL (by omega) a3 b3) (pow_slack hL) hk
        exact ⟨k1, fun a z => by cases z; exact k2, fun b z => by cases z; exact k3, fun z => absurd z c1, fun z => absurd z c0⟩
  obtain ⟨key1, key2, key3, key4, key5⟩ := key
  generalize betwMk L (ends L 1 0) (lowAt M i) M[i]? k = m at x gp key2 key3 key4 key5 ⊢
  have hget := insL_get (m := m) (show i ≤ M.length by omega)
  refine ⟨⟨fun y hy => ?_, gp.up⟩, by rw [insL_len (by omega)]; omega, by omega, fun j a b ha hb => ?_, ?_, ?_⟩
  · rcases insL_mem hy with h | h
    · obtain ⟨a, b, c⟩ := g.gm.all y h
      exact ⟨a, b, Nat.le_trans c (lng_mono hf)⟩
    · rw [h]; exact ⟨x.mk0, x.ne, by rw [x.len]; exact key1⟩
  · rw [hget] at ha hb
    have old : ∀ i a b, M[i]? = some a → M[i + 1]? = some b → Nbr L (lngN (Nat.log2 L) (n + 1)) (2 ^ slack (Nat.log2 L) (n + 1)) a b := fun i a b ha hb => by
      have hlt := (List.getElem?_eq_some_iff.mp hb).1
      exact ((g.nb i a b ha hb).next hL (by omega) (g.gm.all a (List.mem_of_getElem? ha)).2.2 (g.gm.all b (List.mem_of_getElem? hb)).2.2).mono (Nat.pow_le_pow_right (by omega) (by omega))
    by_cases c1 : j + 1 < i
    · rw [if_pos (by omega)] at ha
      rw [if_pos c1] at hb
      exact old j a b ha hb
    · by_cases c2 : j + 1 = i
      · rw [if_pos (by omega)] at ha
        rw [if_neg (by omega), if_pos c2] at hb
        cases hb
        exact key2 a (by unfold lowAt; rw [if_neg (by omega), show i - 1 = j by omega]; exact ha)
      · by_cases c3 : j = i
        · rw [if_neg (by omega), if_pos c3] at ha
          rw [if_neg (by omega), if_neg (by omega), Nat.add_sub_cancel, c3] at hb
          cases ha
          exact key3 b hb
        · rw [if_neg (by omega), if_neg c3] at ha
          rw [if_neg (by omega), if_neg (by omega), Nat.add_sub_cancel] at hb
          exact old (j - 1) a b ha (by rw [show j - 1 + 1 = j by omega]; exact hb)
  · rw [Nat.add_sub_cancel, hget]
    by_cases c : i = n
    · obtain ⟨e, p, d, h1, h2, h3, h4, h5, h6⟩ := key4 c
      exact ⟨e, p, d, h1, h2, h3, h4, h5, by rw [if_neg (by omega), if_pos c.symm, h6]⟩
    · exact ⟨e, p, d, e1, by omega, d1, d2, r, by rw [if_neg (by omega), if_neg (by omega)]; exact hR⟩
  · rw [hget]
    by_cases c : i = 0
    · obtain ⟨e, p, d, h1, h2, h3, h4, h5, h6⟩ := key5 c
      exact ⟨e, p, d, h1, h2, h3, h4, h5, by rw [if_neg (by omega), if_pos c.symm, h6]⟩
    · exact ⟨e', p', d', e1', by omega, d1', d2', r', by rw [if_pos (by omega)]; exact hF⟩
/-- the first putting -/
theorem Grow.first {L k : Nat} (hL : 2 ≤ L) (hk : LeastK L (ends L 1 0) (lowAt ([] : List (List Nat)) 0) ([] : List (List Nat))[0]? 1 k) : Grow L 1 (insL [] 0 (betwMk L (ends L 1 0) (lowAt ([] : List (List Nat)) 0) ([] : List (List Nat))[0]? k)) := by
  have e : insL ([] : List (List Nat)) 0 (betwMk L (ends L 1 0) (lowAt ([] : List (List Nat)) 0) ([] : List (List Nat))[0]? k) = [[L / 2]] := by
    have := first_step hL hk
    show [_] = _
    exact congrArg (fun z => [z]) this
  rw [e]
  have m : Mk0 L [L / 2] := ⟨fun x hx => by rw [List.mem_singleton.mp hx]; omega, fun _ => by show L / 2 ≠ 0; omega⟩
  refine ⟨⟨fun y hy => by rw [List.mem_singleton.mp hy]; exact ⟨m, by simp, Nat.le_refl _⟩, List.pairwise_singleton _ _⟩, rfl, Nat.le_refl _, fun i a b ha hb => ?_, ⟨1, 0, L / 2, by omega, by omega, by omega, by omega, .inl ⟨rfl, by omega⟩, rfl⟩, ⟨1, 0, L / 2, by omega, by omega, by omega, by omega, .inl ⟨rfl, by omega⟩, rfl⟩⟩
  have h1 := (List.getElem?_eq_some_iff.mp hb).1
  have : i + 1 < 1 := h1
  omega
/-- n puttings, none yet or some -/
def GrowZ (L n : Nat) (M : List (List Nat)) : Prop := (n = 0 ∧ M = []) ∨ Grow L n M
theorem lng_small {f n : Nat} (hf : 1 ≤ f) : lngN f n ≤ n + 2 := by
  unfold lngN
  split
  · omega
  · have := Nat.div_le_self (n - 2) f
    omega
theorem GrowZ.step {L n i k : Nat} {M : List (List Nat)} (hL : 2 ≤ L) (g : GrowZ L n M) (hn : n ≤ 1000) (hi : i ≤ n) (hk : LeastK L (ends L 1 0) (lowAt M i) M[i]? 1 k) : GrowZ L (n + 1) (insL M i (betwMk L (ends L 1 0) (lowAt M i) M[i]? k)) := by
  rcases g with ⟨rfl, rfl⟩ | g
  · obtain rfl : i = 0 := by omega
    exact .inr (Grow.first hL hk)
  · exact .inr (g.step hL (by have := lng_small (n := n) (log_posG hL); omega) hi hk)
theorem GrowZ.long {L n : Nat} {M : List (List Nat)} (g : GrowZ L n M) : ∀ x ∈ M, x.length ≤ lngN (Nat.log2 L) n := by
  rcases g with ⟨rfl, rfl⟩ | g
  · exact fun _ h => (nomatch h)
  · exact fun x hx => (g.gm.all x hx).2.2
/-! ### law_draw -/
def sp_law_draw (K : PySem.W.Frag) : Sp := fun vs H Q _ => ∃ (a : Addr) (ns : List Int) (k many : Int), vs = [.ref a, .int k, .int many] ∧ SqL K H a (ns.map V.int) ∧ ns.length ≤ 63 ∧ 0 ≤ k ∧ k < 1000000 ∧ 0 < many ∧ many < 2 ^ 63 ∧
  ∀ d : Int, 0 ≤ d → d < many → Q (.int d) H
def t_law_draw (K : PySem.W.Frag) (E : XK) : TS :=
  (tMeet (tAsg (tIf (tTest (tOp rGtI (tCB (rLenQ K) (tCons (tVar 0) tNil)) (tC (.int 0)))) (tOp (rIxL K) (tVar 0) (tOp rModI (tVar 1) (tCB (rLenQ K) (tCons (tVar 0) tNil)))) (tC (.int 0))) (gName 3))
    (tMeet (tIfS (tAnd (tTest (tOp rGtI (tCB (rLenQ K) (tCons (tVar 0) tNil)) (tC (.int 0)))) (tTest (tOp rEq (tOp rModI (tOp (rIxL K) (tVar 0) (tC (.int 0))) (tC (.int 2))) (tC (.int 1)))))
    (tRet (tOp rModI (tOp rModI (tOp rShrI (tVar 3) (tOp rAddI (tOp rMulW (tC (.int 20)) (tOp rDivW (tVar 1) (tCB (rLenQ K) (tCons (tVar 0) tNil)))) (tC (.int 1)))) (tC (.int 1048576))) (tVar 2)))
    tNext)
    (tSeq (tAsg (tOp rAddI (tOp rAddI (tOp rModI (tVar 3) (tC (.int 1000003))) (tOp rMulW (tOp rMulW (tC (.int 31)) (tVar 1)) (tVar 1))) (tC (.int 1))) (gName 4))
    (tRet (tOp rModI (tOp rModI (tOp rMulW (tOp rModI (tOp rMulW (tVar 4) (tC (.int 48271))) (tC (.int 999983))) (tC (.int 7919))) (tC (.int 524287))) (tVar 2))))))
theorem len_law_draw {K : PySem.W.Frag} (vs : List V) (H : Hp) (Q : VK) (E : XK) : sp_law_draw K vs H Q E → vs.length = (["script", "k", "many"] : List Str).length := by
  walk_at "len"

theorem pure_law_draw {K : PySem.W.Frag} (T : Kx K) (vs : List V) (H : Hp) (Q : VK) (E : XK) (h : sp_law_draw K vs H Q E) : t_law_draw K E { nx := fun _ H' => Q .non H', rt := Q } (start ["script", "k", "many", "cell", "seed"] vs) H := by
  obtain ⟨a, ns, k, many, rfl, hS, hl, h0, h1, hm, hm2, q⟩ := h
  have hk : 0 ≤ 31 * k * k ∧ 31 * k * k < 2 ^ 60 := by
    have e : 31 * k * k ≤ 31 * 1000000 * 1000000 := Int.mul_le_mul (by omega) (by omega) h0 (by omega)
    exact ⟨Int.mul_nonneg (by omega) h0, by omega⟩
  have hd : ∀ j : Int, 0 ≤ j → j < (ns.map V.int).length → ∃ x, atI (ns.map V.int) j = some (.int x) := fun j j0 j1 => by
    obtain ⟨n, rfl⟩ := Int.eq_ofNat_of_zero_le j0
    rw [List.length_map] at j1
    exact ⟨ns[n]'(by omega), atI_nat (by rw [List.getElem?_map, List.getElem?_eq_getElem (by omega)]; rfl)⟩
  have el : (ns.map V.int).length ≤ 63 := by rw [List.length_map]; exact hl
  have fin : ∀ x : Int, Q (.int (x % many)) H := fun x => q _ (Int.emod_nonneg _ (by omega)) (Int.emod_lt_of_pos _ hm)
  refine ⟨fun σ' H' => ∃ c : Int, σ' = [some (.ref a), some (.int k), some (.int many), some (.int c), none] ∧ H = H', ?_, ?_⟩
  · walk_at "go"
    walk_at "if"
    · intro c
      obtain ⟨x, hx⟩ := hd (k % (ns.map V.int).length) (Int.emod_nonneg _ (by omega)) (Int.emod_lt_of_pos _ (by omega))
      walk_at "go"
      rfl
    · intro c
      exact ⟨0, rfl, rfl⟩
  · rintro _ _ ⟨c, rfl, rfl⟩
    refine ⟨fun σ' H' => σ' = [some (.ref a), some (.int k), some (.int many), some (.int c), none] ∧ H = H', ?_, ?_⟩
    · walk_at "go"
      walk_at "if"
      · intro c1
        obtain ⟨x, hx⟩ := hd 0 (by omega) (by omega)
        walk_at "go"
        walk_at "if"
        · intro _
          have e1 := Int.ediv_nonneg h0 (show (0 : Int) ≤ (ns.map V.int).length by omega)
          have e2 : k / (ns.map V.int).length ≤ k := Int.ediv_le_self _ h0
          walk_at "go"
          exact fin _
        · intro _
          exact ⟨rfl, rfl⟩
      · intro _
        exact ⟨rfl, rfl⟩
    · rintro _ _ ⟨rfl, rfl⟩
      walk_at "go"
      exact fin _
/-! ### law_place -/
def sp_law_place (K : PySem.W.Frag) : Sp := fun vs H Q E => ∃ (a : Addr) (ns : List Int) (k m l : Nat), vs = [.ref a, .int k, .int m, .int l] ∧ SqL K H a (ns.map V.int) ∧ ns.length ≤ 63 ∧ k ≤ 100 ∧ m ≤ 1000 ∧ l ≤ m ∧ ∀ i : Nat, i ≤ m → Q (.int i) H
def t_law_place (K : PySem.W.Frag) (E : XK) : TS :=
  (tSeq (tAsg (tCall (sp_law_draw K) [] E (tCons (tVar 0) (tCons (tOp rAddI (tC (.int 20)) (tOp rDivW (tVar 1) (tOp rAddI (tC (.int 1)) (tCall (sp_law_draw K) [] E (tCons (tVar 0) (tCons (tC (.int 1)) (tCons (tC (.int 32)) tNil))))))) (tCons (tC (.int 6)) tNil)))) (gName 4))
    (tSeq (tIfS (tTest (tOp rEq (tVar 4) (tC (.int 0))))
    (tRet (tVar 2))
    tNext)
    (tSeq (tIfS (tTest (tOp rEq (tVar 4) (tC (.int 1))))
    (tRet (tC (.int 0)))
    tNext)
    (tSeq (tIfS (tTest (tOp rEq (tVar 4) (tC (.int 2))))
    (tRet (tCB rMin2 (tCons (tVar 2) (tCons (tOp rAddI (tVar 3) (tC (.int 1))) tNil))))
    tNext)
    (tSeq (tIfS (tTest (tOp rEq (tVar 4) (tC (.int 3))))
    (tRet (tVar 3))
    tNext)
    (tSeq (tIfS (tTest (tOp rEq (tVar 4) (tC (.int 4))))
    (tRet (tCB rMin2 (tCons (tVar 2) (tCons (tOp rAddI (tC (.int 1)) (tCall (sp_law_draw K) [] E (tCons (tVar 0) (tCons (tC (.int 2)) (tCons (tC (.int 3)) tNil))))) tNil))))
    tNext)
    (tRet (tCall (sp_law_draw K) [] E (tCons (tVar 0) (tCons (tOp rAddI (tC (.int 60)) (tVar 1)) (tCons (tOp rAddI (tVar 2) (tC (.int 1))) tNil)))))))))))
theorem len_law_place {K : PySem.W.Frag} (vs : List V) (H : Hp) (Q : VK) (E : XK) : sp_law_place K vs H Q E → vs.length = (["script", "k", "many", "last"] : List Str).length := by
  walk_at "len"

theorem pure_law_place {K : PySem.W.Frag} (T : Kx K) (vs : List V) (H : Hp) (Q : VK) (E : XK) (h : sp_law_place K vs H Q E) : t_law_place K E { nx := fun _ H' => Q .non H', rt := Q } (start ["script", "k", "many", "last", "way"] vs) H := by
  obtain ⟨a, ns, k, m, l, rfl, hS, hl, hk, hm, hlm, q⟩ := h
  have fin : ∀ x : Int, 0 ≤ x → x ≤ m → Q (.int x) H := fun x h0 h1 => by
    obtain ⟨n, rfl⟩ := Int.eq_ofNat_of_zero_le h0
    exact q n (by omega)
  walk_at "go"
  walk_at "draw"
  intro d0 d00 d01
  have e1 : 0 ≤ (k : Int) / (1 + d0) := Int.ediv_nonneg (by omega) (by omega)
  have e2 : (k : Int) / (1 + d0) ≤ k := Int.ediv_le_self _ (by omega)
  walk_at "go"
  refine ⟨_, _, _, _, rfl, hS, hl, (by omega), (by omega), (by omega), (by omega), ?_⟩
  intro w w0 w1
  walk_at "go"
  refine iteEI (fun _ => ?_) fun _ => ?_
  · walk_at "go"
    exact fin _ (by omega) (by omega)
  walk_at "go"
  refine iteEI (fun _ => ?_) fun _ => ?_
  · walk_at "go"
    exact fin _ (by omega) (by omega)
  walk_at "go"
  refine iteEI (fun _ => ?_) fun _ => ?_
  · walk_at "go"
    exact fin _ (by split <;> (try dsimp only) <;> omega) (by split <;> (try dsimp only) <;> omega)
  walk_at "go"
  refine iteEI (fun _ => ?_) fun _ => ?_
  · walk_at "go"
    exact fin _ (by omega) (by omega)
  walk_at "go"
  refine iteEI (fun _ => ?_) fun _ => ?_
  · walk_at "go"
    walk_at "draw"
    intro d1 d10 d11
    walk_at "go"
    exact fin _ (by split <;> (try dsimp only) <;> omega) (by split <;> (try dsimp only) <;> omega)
  walk_at "go"
  refine ⟨_, _, _, _, rfl, hS, hl, (by omega), (by omega), (by omega), (by omega), ?_⟩
  intro d2 d20 d21
  exact fin _ (by omega) (by omega)
/-! ### law_whole -/
def sp_law_whole (K : PySem.W.Frag) : Sp := fun vs H Q _ => ∃ (L k : Nat) (ds : List Nat), vs = [.int L, .str (txt ds), .int k] ∧ L ≤ 26 ∧ (∀ d ∈ ds, d < 26) ∧ ds.length ≤ 1000000 ∧ k ≤ 100000 ∧ Q (.int (whole L ds k)) H
def t_law_whole (K : PySem.W.Frag) (E : XK) : TS :=
  (tSeq (tAsg (tC (.int 0)) (gName 3))
    (tSeq (tFor (iRng1 (tCons (tVar 2) tNil)) (gName 4)
    (tSeq (tAsg (tC (.int 0)) (gName 5))
    (tMeet (tIfS (tTest (tOp rLtI (tVar 4) (tCB rLenS1 (tCons (tVar 1) tNil))))
    (tAsg (tBMS K "str" rIndexS (tC (.str "abcdefghijklmnopqrstuvwxyz")) (tCons (tOp rIxS (tVar 1) (tVar 4)) tNil)) (gName 5))
    tNext)
    (tAsg (tOp rAddI (tOp rMulW (tVar 3) (tVar 0)) (tVar 5)) (gName 3)))))
    (tRet (tVar 3))))
theorem len_law_whole {K : PySem.W.Frag} (vs : List V) (H : Hp) (Q : VK) (E : XK) : sp_law_whole K vs H Q E → vs.length = (["letters", "mark", "long"] : List Str).length := by
  walk_at "len"

theorem pure_law_whole {K : PySem.W.Frag} (T : Kx K) (vs : List V) (H : Hp) (Q : VK) (E : XK) (h : sp_law_whole K vs H Q E) : t_law_whole K E { nx := fun _ H' => Q .non H', rt := Q } (start ["letters", "mark", "long", "whole", "k", "figure"] vs) H := by
  obtain ⟨L, k, ds, rfl, hL, hds, hl, hk, q⟩ := h
  walk_at "go"
  refine for_fix walk_range1 (fun i σ' => ∃ x4 x5, σ' = [some (.int L), some (.str (txt ds)), some (.int k), some (.int (whole L ds i)), x4, x5]) trivial ⟨_, _, rfl⟩ ?_ ?_
  · rintro i σ' hi ⟨x4, x5, rfl⟩
    have hi' : i < k := by simpa using hi
    have hw := whole_mulW (k := i) hL hds (by omega)
    have hlen := txt_len ds
    have hg := getD_lt (L := 26) (by decide) hds i
    walk_at "go"
    refine meet_fix (fun σ' => σ' = [some (.int L), some (.str (txt ds)), some (.int k), some (.int (whole L ds i)), some (.int i), some (.int (ds.getD i 0))]) ?_ ?_
    · walk_at "go"
      refine iteD (fun c => ?_) fun c => ?_
      · have hx := txt_at (ds := ds) (j := i) (by omega)
        have hix := idx_let (ds.getD i 0) hg
        walk_at "go"
        refine ⟨_, _, _, rfl, rfl, hix, ?_⟩
        exact ⟨rfl, rfl⟩
      · have e : ds.getD i 0 = 0 := by
          rw [List.getD_eq_getElem?_getD, List.getElem?_eq_none (by omega)]; rfl
        rw [e]
        exact ⟨rfl, rfl⟩
    · rintro _ rfl
      walk_at "go"
      exact ⟨_, _, rfl⟩
  · rintro σ' ⟨x4, x5, rfl⟩
    rw [Int.toNat_natCast]
    walk_at "go"
    exact q
/-! ### law_fewest -/
def txtO (o : Option (List Nat)) : Str := txt (o.getD [])
def sp_law_fewest (K : PySem.W.Frag) : Sp := fun vs H Q E => ∃ (L k : Nat) (lo hi : Option (List Nat)) (mk : List Nat), vs = [.int L, .str (txtO lo), .str (txt mk), .str (txtO hi)] ∧ 2 ≤ L ∧ L ≤ 26 ∧ Ends3 L lo hi ∧ LeastS L lo hi k ∧ mk.length = k ∧ k ≤ 1000 ∧ Betw lo hi mk ∧ Q (.bl true) H
def t_law_fewest (K : PySem.W.Frag) (E : XK) : TS :=
  (tMeet (tIfS (tOr (tAnd (tTest (tOp rNe (tVar 1) (tC (.str "")))) (tNot (tTest (tOp rLtS (tVar 1) (tVar 2))))) (tAnd (tTest (tOp rNe (tVar 3) (tC (.str "")))) (tNot (tTest (tOp rLtS (tVar 2) (tVar 3))))))
    (tRet (tC (.bl false)))
    tNext)
    (tSeq (tFor (iRng2 (tCons (tC (.int 1)) (tCons (tCB rLenS1 (tCons (tVar 2) tNil)) tNil))) (gName 4)
    (tSeq (tAsg (tC (.int 1)) (gName 5))
    (tSeq (tFor (iRng1 (tCons (tVar 4) tNil)) (gName 6)
    (tAsg (tOp rMulW (tVar 5) (tVar 0)) (gName 5)))
    (tMeet (tIfS (tTest (tOp rNe (tVar 3) (tC (.str ""))))
    (tAsg (tOp rAddI (tCall (sp_law_whole K) [] E (tCons (tVar 0) (tCons (tVar 3) (tCons (tVar 4) tNil)))) (tCB rInt1 (tCons (tOp rGtI (tCB rLenS1 (tCons (tVar 3) tNil)) (tVar 4)) tNil))) (gName 5))
    tNext)
    (tIfS (tTest (tOp rGtI (tOp rSubI (tVar 5) (tC (.int 1))) (tCall (sp_law_whole K) [] E (tCons (tVar 0) (tCons (tVar 1) (tCons (tVar 4) tNil))))))
    (tRet (tC (.bl false)))
    tNext)))))
    (tRet (tC (.bl true)))))
theorem len_law_fewest {K : PySem.W.Frag} (vs : List V) (H : Hp) (Q : VK) (E : XK) : sp_law_fewest K vs H Q E → vs.length = (["letters", "low", "mark", "high"] : List Str).length := by
  walk_at "len"

theorem txtO_ne {o : Option (List Nat)} (h : ∀ a, o = some a → a ≠ []) : (V.str (txtO o) = V.str "") ↔ o = none := by
  constructor
  · intro e
    have e2 : txt (o.getD []) = txt [] := (V.str.inj e).trans txt_nil.symm
    have e3 := txt_inj e2
    cases o with
    | none => rfl
    | some a => exact absurd e3 (h a rfl)
  · rintro rfl
    exact congrArg V.str txt_nil
theorem pure_law_fewest {K : PySem.W.Frag} (T : Kx K) (vs : List V) (H : Hp) (Q : VK) (E : XK) (h : sp_law_fewest K vs H Q E) : t_law_fewest K E { nx := fun _ H' => Q .non H', rt := Q } (start ["letters", "low", "mark", "high", "long", "most", "k"] vs) H := by
  obtain ⟨L, k, lo, hi, mk, rfl, hL, hL2, he, hs, hlen, hk, hb, q⟩ := h
  have hlo := txtO_ne (o := lo) fun a e => (he.e.lo a e).2
  have hhi := txtO_ne (o := hi) fun a e => (he.e.hi a e).2
  have hml := txt_len mk
  refine meet_fix (fun σ' => σ' = [some (.int L), some (.str (txtO lo)), some (.str (txt mk)), some (.str (txtO hi)), none, none, none]) ?_ ?_
  · have second : tAnd (tTest (tOp rNe (tVar 3) (tC (.str "")))) (tNot (tTest (tOp rLtS (tVar 2) (tVar 3)))) (start ["letters", "low", "mark", "high", "long", "most", "k"] [.int L, .str (txtO lo), .str (txt mk), .str (txtO hi)]) H fun b H1 => if b = true then tRet (tC (V.bl false)) { nx := fun σ1 H1 => H1 = H ∧ σ1 = [some (.int L), some (.str (txtO lo)), some (.str (txt mk)), some (.str (txtO hi)), none, none, none], rt := Q } (start ["letters", "low", "mark", "high", "long", "most", "k"] [.int L, .str (txtO lo), .str (txt mk), .str (txtO hi)]) H1 else tNext { nx := fun σ1 H1 => H1 = H ∧ σ1 = [some (.int L), some (.str (txtO lo)), some (.str (txt mk)), some (.str (txtO hi)), none, none, none], rt := Q } (start ["letters", "low", "mark", "high", "long", "most", "k"] [.int L, .str (txtO lo), .str (txt mk), .str (txtO hi)]) H1 := by
      walk_at "go"
      refine iteDN (fun c => ?_) fun c => ?_
      · cases hi with
        | none => exact absurd (hhi.mpr rfl) c
        | some b =>
          walk_at "go"
          show if (!decide ((txt mk).cps.toList < (txt b).cps.toList)) = true then _ else _
          rw [txt_lt, decide_eq_true (hb.2 b rfl)]
          refine iteF ?_
          exact ⟨rfl, rfl⟩
      · exact ⟨rfl, rfl⟩
    walk_at "go"
    refine iteDN (fun c => ?_) fun c => ?_
    · cases lo with
      | none => exact absurd (hlo.mpr rfl) c
      | some a =>
        walk_at "go"
        show if (!decide ((txt a).cps.toList < (txt mk).cps.toList)) = true then _ else _
        rw [txt_lt, decide_eq_true (hb.1 a rfl)]
        refine iteF ?_
        exact second
    · exact second
  rintro _ rfl
  walk_at "go"
  refine for_fix walk_rangeF (fun i σ' => ∃ x4 x5 x6, σ' = [some (.int L), some (.str (txtO lo)), some (.str (txt mk)), some (.str (txtO hi)), x4, x5, x6]) trivial ⟨_, _, _, rfl⟩ ?_ ?_
  · rintro i σ' hi' ⟨x4, x5, x6, rfl⟩
    have hik : 1 + i < k := by omega
    have hn := hs.none (1 + i) (by omega) hik
    rw [show (1 : Int) + (i : Int) = ((1 + i : Nat) : Int) by omega]
    generalize 1 + i = j at hn hik ⊢
    have hik2 : j ≤ 100000 := by omega
    walk_at "go"
    refine for_fix walk_range1 (fun i σ' => ∃ x6, σ' = [some (.int L), some (.str (txtO lo)), some (.str (txt mk)), some (.str (txtO hi)), some (.int j), some (.int ((L ^ i : Nat) : Int)), x6]) trivial ⟨_, rfl⟩ ?_ ?_
    · rintro i σ' hi2 ⟨x6, rfl⟩
      have hi3 : i < j := by simpa using hi2
      have hw := pow_mulW (k := i) hL2 (by omega)
      walk_at "go"
      refine ⟨some (.int i), ?_⟩
      rw [Nat.pow_succ]
      rfl
    rintro σ' ⟨x6, rfl⟩
    rw [Int.toNat_natCast]
    refine meet_fix (fun σ' => σ' = [some (.int L), some (.str (txtO lo)), some (.str (txt mk)), some (.str (txtO hi)), some (.int j), some (.int (pastN L hi j : Nat)), x6]) ?_ ?_
    · walk_at "go"
      refine iteDN (fun c => ?_) fun c => ?_
      · cases hi with
        | none => exact absurd (hhi.mpr rfl) c
        | some b =>
          have hm := (he.e.hi b rfl).1
          have hlb := he.hil b rfl
          have hlt : ∀ d ∈ b, d < 26 := fun d hd => Nat.lt_of_lt_of_le (hm.lt d hd) hL2
          have hlen2 : (txtO (some b)).length = b.length := txt_len b
          walk_at "go"
          have hlb1 : ((some b).getD []).length ≤ 1000000 := Nat.le_trans hlb (by omega)
          refine ⟨hlb1, hik2, ?_⟩
          walk_at "go"
          refine .inr ⟨_, rfl, ?_⟩
          have hp : pastN L (some b) j = if b.length ≤ j then whole L b j else whole L b j + 1 := rfl
          by_cases c2 : b.length ≤ j
          · rw [if_pos c2] at hp
            rw [hp, decide_eq_false (show ¬ (j : Int) < ((txtO (some b)).length : Int) by omega)]
            refine ⟨_, _, rfl, rfl, rfl, ?_⟩
            rw [show ((whole L b j : Nat) : Int) = ((whole L b j : Nat) : Int) + 0 by omega]
            rfl
          · rw [if_neg c2] at hp
            rw [hp, decide_eq_true (show (j : Int) < ((txtO (some b)).length : Int) by omega)]
            exact ⟨_, _, rfl, rfl, rfl, rfl⟩
      · rw [hhi.mp c]
        exact ⟨rfl, rfl⟩
    rintro _ rfl
    have hll : (lo.getD []).length ≤ 90000 ∧ ∀ d ∈ lo.getD [], d < 26 := by
      cases lo with
      | none => exact ⟨Nat.zero_le _, fun d h => (nomatch h)⟩
      | some a => exact ⟨he.lol a rfl, fun d hd => Nat.lt_of_lt_of_le ((he.e.lo a rfl).1.lt d hd) hL2⟩
    have hlw : lowN L lo j = whole L (lo.getD []) j + 1 := by
      cases lo with
      | none => show 1 = whole L [] j + 1; rw [whole_nil]
      | some a => rfl
    walk_at "go"
    refine ⟨hll.2, Nat.le_trans hll.1 (by omega), hik2, ?_⟩
    walk_at "go"
    refine iteD (fun c => absurd c (by omega)) fun _ => ?_
    exact ⟨rfl, _, _, _, rfl⟩
  rintro σ' ⟨x4, x5, x6, rfl⟩
  exact q
/-! ### law_bound -/
def sp_law_bound (K : PySem.W.Frag) : Sp := fun vs H Q E => ∃ (L n : Nat), vs = [.int L, .int n] ∧ 2 ≤ L ∧ L ≤ 26 ∧ n ≤ 1000 ∧ Q (.int (lngN (Nat.log2 L) n : Nat)) H
def t_law_bound (K : PySem.W.Frag) (E : XK) : TS :=
  (tSeq (tAsg (tC (.int 0)) (gName 2))
    (tSeq (tWhile (tTest (tOp rLeI (tOp rShl1 (tC (.int 1)) (tOp rAddI (tVar 2) (tC (.int 1)))) (tVar 0))) (tAsg (tOp rAddI (tVar 2) (tC (.int 1))) (gName 2)))
    (tSeq (tIfS (tTest (tOp rLtI (tVar 1) (tC (.int 2))))
    (tRet (tVar 1))
    tNext)
    (tRet (tOp rAddI (tC (.int 2)) (tOp rDivW (tOp rSubI (tVar 1) (tC (.int 2))) (tVar 2)))))))
theorem len_law_bound {K : PySem.W.Frag} (vs : List V) (H : Hp) (Q : VK) (E : XK) : sp_law_bound K vs H Q E → vs.length = (["letters", "many"] : List Str).length := by
  walk_at "len"

theorem log_two {L p : Nat} (hL : 2 ≤ L) : (2 ^ p ≤ L ↔ p ≤ Nat.log2 L) := (Nat.le_log2 (by omega)).symm
theorem log26 {L : Nat} (hL2 : L ≤ 26) (hL : 2 ≤ L) : Nat.log2 L ≤ 4 := by
  refine Nat.le_of_lt_succ ((Nat.log2_lt (by omega)).mpr ?_)
  have : (2 : Nat) ^ 5 = 32 := rfl
  omega
theorem pure_law_bound {K : PySem.W.Frag} (T : Kx K) (vs : List V) (H : Hp) (Q : VK) (E : XK) (h : sp_law_bound K vs H Q E) : t_law_bound K E { nx := fun _ H' => Q .non H', rt := Q } (start ["letters", "many", "times"] vs) H := by
  obtain ⟨L, n, rfl, hL, hL2, hn, q⟩ := h
  have hf := log_posG hL
  have hf4 := log26 hL2 hL
  walk_at "go"
  refine ⟨fun μ σ' H' => ∃ p : Nat, p ≤ Nat.log2 L ∧ μ = Nat.log2 L - p ∧ H' = H ∧ σ' = [some (.int L), some (.int n), some (.int p)], ⟨_, 0, Nat.zero_le _, rfl, rfl, rfl⟩, ?_⟩
  rintro μ σ' H1 ⟨p, hp2, rfl, e, rfl⟩
  subst e
  walk_at "go"
  refine ⟨p + 1, rfl, rfl, by omega, ?_⟩
  walk_at "go"
  have ecast : ((2 : Int) ^ (p + 1)) = ((2 ^ (p + 1) : Nat) : Int) := by rw [Int.natCast_pow]; rfl
  rw [ecast]
  refine iteD (fun c => ?_) fun c => ?_
  · have c2 : 2 ^ (p + 1) ≤ L := Int.ofNat_le.mp c
    have c3 := (log_two hL).mp c2
    refine ⟨_, fun _ _ z => z, ?_⟩
    walk_at "go"
    exact ⟨Nat.log2 L - (p + 1), by omega, p + 1, c3, rfl, rfl, rfl⟩
  have hpl : p = Nat.log2 L := by
    have : ¬ 2 ^ (p + 1) ≤ L := fun z => c (Int.ofNat_le.mpr z)
    rw [log_two hL] at this
    omega
  subst hpl
  unfold lngN at q
  walk_at "go"
  refine iteD (fun c => ?_) fun c => ?_
  · rw [if_pos (by omega)] at q
    walk_at "go"
    exact q
  · rw [if_neg (by omega)] at q
    walk_at "go"
    dsimp only
    rw [show (n : Int) - 2 = ((n - 2 : Nat) : Int) by omega]
    exact q
/-! ### law_renewed -/
theorem renN_lt2 {L m k i : Nat} (x : Long L m k) : renN L m k i < renN L m k (i + 1) := by
  unfold renN
  have h := x.gt
  have : (i + 1) * L ^ k / (m + 1) + 1 ≤ (i + 1 + 1) * L ^ k / (m + 1) := by
    rw [← Nat.add_div_right _ (show 0 < m + 1 by omega)]
    refine Nat.div_le_div_right ?_
    rw [Nat.add_mul (i + 1) 1, Nat.one_mul]
    omega
  omega
theorem rens_good {L m k : Nat} (hL : 2 ≤ L) (x : Long L m k) : GoodMs L k (rens L m k) := by
  refine ⟨fun y hy => ?_, ?_⟩
  · obtain ⟨i, hi, rfl⟩ := List.mem_map.mp hy
    obtain ⟨h1, h2⟩ := renN_lt x (List.mem_range.mp hi)
    exact ⟨mk0_markOf (by omega), mark_ne h1 h2, markOf_len _ _ _⟩
  · unfold rens
    refine List.pairwise_map.mpr ?_
    refine List.Pairwise.imp_of_mem (R := (· < ·)) (fun {a b} ha hb hab => ?_) List.pairwise_lt_range
    have h1 := (renN_lt x (List.mem_range.mp ha)).2
    have h2 := (renN_lt x (List.mem_range.mp hb)).2
    refine (lt_whole (k := k) (show 0 < L by omega) (mk0_markOf (by omega)) (mk0_markOf (by omega)) (markOf_len _ _ _) (markOf_len _ _ _)).mpr ?_
    rw [whole_mark h1, whole_mark h2]
    exact Nat.lt_of_lt_of_le (renN_lt2 x) (renN_mono hab)
def sp_law_renewed (K : PySem.W.Frag) : Sp := fun vs H Q E => ∃ (p lt lm : Addr) (L : Nat) (ts ms : List Str), vs = [.int L, .ref p] ∧ IsShelf K H p lt lm L ts ms ∧ Clo H ∧ 2 ≤ L ∧ L ≤ 26 ∧ ts.length ≤ 1000 ∧ (∀ t ∈ ts, isTh t = true) ∧ ∀ H', Kp H H' → Q (.bl true) H'
def t_law_renewed (K : PySem.W.Frag) (E : XK) : TS :=
  (tTrim (tSeq (tAsg (tMeth (He.ga K "Shelf") "things" (sp_Shelf_things K) [] E (tVar 1) tNil) (gName 2))
    (tSeq (tAsg (tC (.int 1)) (gName 3))
    (tSeq (tAsg (tC (.int 0)) (gName 4))
    (tSeq (tWhile (tTest (tOp rLtI (tOp rSubI (tVar 3) (tC (.int 1))) (tCB (rLenQ K) (tCons (tVar 2) tNil)))) (tSeq (tAsg (tOp rMulW (tVar 3) (tVar 0)) (gName 3))
    (tAsg (tOp rAddI (tVar 4) (tC (.int 1))) (gName 4))))
    (tSeq (tAsg (tMeth (He.ga K "Shelf") "renew" (sp_Shelf_renew K) [] E (tVar 1) tNil) (gName 5))
    (tSeq (tAsg (tMeth (He.ga K "Shelf") "marks" (sp_Shelf_marks K) [] E (tVar 1) tNil) (gName 6))
    (tSeq (tIfS (tOr (tTest (tOp (rNeD K) (tVar 5) (tVar 6))) (tOr (tTrimT (tTest (tOp (rNeD K) (tMeth (He.ga K "Shelf") "things" (sp_Shelf_things K) [] E (tVar 1) tNil) (tVar 2)))) (tOr (tTrimT (tTest (tOp (rNeD K) (tCB (rSortedSO K) (tCons (tVar 6) tNil)) (tVar 6)))) (tTest (tOp rNe (tCB (rLenQ K) (tCons (tVar 6) tNil)) (tCB (rLenQ K) (tCons (tVar 2) tNil)))))))
    (tRet (tC (.bl false)))
    tNext)
    (tRet (tTrimE (tAndV (tOp rEq (tCB (rLenQ K) (tCons (tLc (iList K (tVar 6)) (gName 7) (tOr (tTest (tOp rGtI (tBM K "list" (rCntS K) (tVar 6) (tCons (tVar 7) tNil)) (tC (.int 1)))) (tTest (tOp rEq (tVar 7) (tC (.str ""))))) (tVar 7) [7]) tNil)) (tC (.int 0))) (tOp rLeI (tMeth (He.ga K "Shelf") "longest" (sp_Shelf_longest K) [] E (tVar 1) tNil) (tVar 4)))))))))))))
theorem len_law_renewed {K : PySem.W.Frag} (vs : List V) (H : Hp) (Q : VK) (E : XK) : sp_law_renewed K vs H Q E → vs.length = (["letters", "shelf"] : List Str).length := by
  walk_at "len"

theorem cnt_one {R : List (List Nat)} (h : R.Pairwise (· < ·)) {x : List Nat} : (R.map txt).countP (fun z => z.cps.toList == (txt x).cps.toList) ≤ 1 := by
  induction h with
  | nil => exact Nat.zero_le _
  | cons ha hp ih =>
    rename_i a l
    rw [List.map_cons, List.countP_cons]
    by_cases c : ((txt a).cps.toList == (txt x).cps.toList) = true
    · have e : a = x := txt_inj (str_ext (eq_of_beq c))
      subst e
      have : (l.map txt).countP (fun z => z.cps.toList == (txt a).cps.toList) = 0 := by
        rw [List.countP_eq_zero]
        intro z hz c2
        obtain ⟨b, hb, rfl⟩ := List.mem_map.mp hz
        have e2 : b = a := txt_inj (str_ext (eq_of_beq c2))
        subst e2
        exact absurd (ha b hb) (List.lt_irrefl b)
      rw [this, if_pos c]
      exact Nat.le_refl _
    · rw [if_neg c]
      exact ih
theorem pure_law_renewed {K : PySem.W.Frag} (T : Kx K) (vs : List V) (H : Hp) (Q : VK) (E : XK) (h : sp_law_renewed K vs H Q E) : t_law_renewed K E { nx := fun _ H' => Q .non H', rt := Q } (start ["letters", "shelf", "things", "power", "long", "told", "marks", "mark"] vs) H := by
  obtain ⟨p, lt, lm, L, ts, ms, rfl, hsh, hC, hL, hL2, hl, hth, q⟩ := h
  have e2 : (ts.map V.str).length = ts.length := List.length_map _
  walk_at "go"
  refine sh_meth hsh (by decide +kernel) (by decide +kernel) (by decide +kernel) ?_
  walk_at "go"
  refine ⟨p, lt, lm, L, ts, ms, rfl, hsh, hC, fun A hA => ?_⟩
  have exA := Ex.new (o := .lst (strV ts)) (Ex.refl H) hA
  have hCA := clo_new (o := .lst (strV ts)) hC hA rfl
  have hshA := hsh.ex exA
  have hA1 : (upd H A (.lst (strV ts))) A = some (.lst (strV ts)) := upd_same
  have hkpA : Kp H (upd H A (.lst (strV ts))) := Kp.ex exA hCA
  generalize upd H A (.lst (strV ts)) = H1 at *
  have hSA : SqL K H1 A (ts.map V.str) := .inl (.inl hA1)
  walk_at "go"
  refine ⟨fun μ σ' H' => ∃ k : Nat, (∀ j, j < k → L ^ j ≤ ts.length) ∧ μ = ts.length + 1 - k ∧ H' = H1 ∧ σ' = [some (.int L), some (.ref p), some (.ref A), some (.int ((L ^ k : Nat) : Int)), some (.int k), none, none, none], ⟨_, 0, fun j h => by omega, rfl, rfl, rfl⟩, ?_⟩
  rintro μ σ' H2 ⟨k, hk, rfl, e, rfl⟩
  subst e
  have hSA2 : SqL K H2 A (ts.map V.str) := .inl (.inl hA1)
  walk_at "go"
  rw [e2]
  refine iteD (fun c => ?_) fun c => ?_
  · have c1 : L ^ k ≤ ts.length := by omega
    have hk2 : ∀ j, j < k + 1 → L ^ j ≤ ts.length := fun j hj => by
      rcases Nat.lt_succ_iff_lt_or_eq.mp hj with h | rfl
      · exact hk j h
      · exact c1
    have hle : k ≤ ts.length := by
      have h2 : k < 2 ^ k := Nat.lt_two_pow_self
      have h3 := Nat.pow_le_pow_left hL k
      omega
    have hw := pow_mulW (k := k) hL2 (by omega)
    refine ⟨_, fun _ _ z => z, ?_⟩
    walk_at "go"
    refine ⟨ts.length + 1 - (k + 1), by omega, k + 1, hk2, rfl, rfl, ?_⟩
    rw [Nat.pow_succ]
    rfl
  have hk : Long L ts.length k := ⟨by omega, hk⟩
  have hm := hk.le_m hL
  obtain ⟨dx, hp⟩ := hshA.at_
  have hAp : A ≠ p := (ins_ne_lst hp hA1).symm
  walk_at "go"
  refine sh_meth hshA (by decide +kernel) (by decide +kernel) (by decide +kernel) ?_
  walk_at "go"
  refine ⟨p, lt, lm, L, ts, ms, rfl, hshA, hCA, hL, hL2, by omega, fun k2 nm r H3 hk2 hnm hr hnr hkeep hsh1 hr1 hC1 hkp => ?_⟩
  obtain rfl := hk.uniq hk2
  have hpw := rens_pw (by omega) hk
  obtain ⟨R, hR⟩ : ∃ R, R = rens L ts.length k := ⟨_, rfl⟩
  have hG : GoodMs L k R := hR ▸ rens_good hL hk
  have hRl : R.length = ts.length := hR ▸ rens_len _ _ _
  rw [← hR] at hsh1 hr1 hpw
  have e1 : (mkV R).length = R.length := mkV_len R
  have hok1 := hG.ok hL2
  have hok2 : ∀ y ∈ ts, PyData.strOk y = true := fun y hy => isTh_ok (hth y hy)
  have hA3 := hkeep _ _ hAp hA1
  have hkp3 := hkpA.trans hkp
  walk_at "go"
  refine sh_meth hsh1 (by decide +kernel) (by decide +kernel) (by decide +kernel) ?_
  walk_at "go"
  refine ⟨p, lt, nm, L, ts, _, rfl, hsh1, hC1, fun d hd => ?_⟩
  have exd := Ex.new (o := .lst (mkV R)) (Ex.refl H3) hd
  have hCd := clo_new (o := .lst (mkV R)) hC1 hd rfl
  have hr4 := exd _ _ hr1
  have hd4 : (upd H3 d (.lst (mkV R))) d = some (.lst (mkV R)) := upd_same
  have hA4 := exd _ _ hA3
  have hsh4 := hsh1.ex exd
  have hkp4 := hkp3.trans (Kp.ex exd hCd)
  generalize upd H3 d (.lst (mkV R)) = H4 at *
  walk_at "go"
  walk_at "b"
  refine neD_same hr4 hd4 hok1 ?_
  walk_at "go"
  refine sh_meth hsh4 (by decide +kernel) (by decide +kernel) (by decide +kernel) ?_
  walk_at "go"
  refine ⟨p, lt, nm, L, ts, _, rfl, hsh4, hCd, fun f hf => ?_⟩
  have exf := Ex.new (o := .lst (strV ts)) (Ex.refl H4) hf
  walk_at "go"
  walk_at "b"
  refine neD_same upd_same (exf _ _ hA4) hok2 ?_
  refine ⟨_, rfl, _, Trim.back exf hCd, ?_⟩
  walk_at "go"
  refine ⟨_, _, rfl, .inl (.inl hd4), fun ys f2 hperm hsort hf2 => ?_⟩
  obtain rfl := sorted_eqP hperm hsort hpw
  have exf2 := Ex.new (o := .lst (mkV R)) (Ex.refl H4) hf2
  walk_at "go"
  walk_at "b"
  refine neD_same upd_same (exf2 _ _ hd4) hok1 ?_
  refine ⟨_, rfl, _, Trim.back exf2 hCd, ?_⟩
  have hSd : SqL K H4 d (mkV R) := .inl (.inl hd4)
  have hSA4 : SqL K H4 A (strV ts) := .inl (.inl hA4)
  walk_at "go"
  refine iteNI (fun c => absurd (show ((mkV R).length : Int) = ((strV ts).length : Int) by rw [e1, hRl, List.length_map]) c) fun _ => ?_
  walk_at "go"
  refine ⟨⟨_, hSd⟩, fun D hD => ?_⟩
  have exD := Ex.new (o := .lst []) (Ex.refl H4) hD
  have hlen : ∀ x ∈ R, x.length ≤ 1000000 := fun x hx => by have := (hG.all x hx).2.2; omega
  refine lc_fn walk_listF (fun _ => false) (fun i => .non) (by omega) (fun acc => sqL_new hSd hD) ?_ ?_
  · intro i acc hi ha N _ hN
    have hi2 : i < R.length := by omega
    have hx := cnt_one hG.up (x := R.getD i [])
    have hne := (hG.all _ (getD_memN hi2)).2.1
    have hSd2 : SqL K (upd H4 D (.lst acc)) d ((R.map txt).map V.str) := sqL_new hSd hD
    rw [marks_at hi2]
    have hd5 : (upd H4 D (.lst acc)) d = some (.lst (mkV R)) := by rw [upd_ne (ne_of_none hd4 hD)]; exact hd4
    walk_at "go"
    refine ⟨d, R.map txt, _, rfl, rfl, hSd2, ?_⟩
    generalize (R.map txt).countP (fun z => z.cps.toList == (txt (R.getD i [])).cps.toList) = cn at hx ⊢
    walk_at "go"
    refine iteD (fun c => absurd c (by omega)) fun _ => ?_
    walk_at "go"
    exact iteES (fun c => absurd (txt_inj (c.trans txt_nil.symm)) hne) fun _ => hN rfl
  rw [show (List.range (mkV R).length).filter (fun _ => false) = [] from List.filter_eq_nil_iff.mpr (fun _ _ h => nomatch h), List.map_nil]
  walk_at "go"
  walk_at "b"
  refine ⟨D, [], rfl, Or.inl sqL_at, ?_⟩
  walk_at "go"
  refine sh_meth (hsh4.ex exD) (by decide +kernel) (by decide +kernel) (by decide +kernel) ?_
  walk_at "go"
  refine ⟨p, lt, nm, L, ts, R, rfl, hsh4.ex exD, by omega, hlen, clo_new hCd hD rfl, fun m hm => ?_⟩
  obtain ⟨g, rfl, hg⟩ : ∃ g : Nat, m = g ∧ g ≤ k := by
    rcases hm with ⟨_, z⟩ | ⟨z, _⟩
    · exact ⟨0, z, Nat.zero_le _⟩
    · obtain ⟨x, hx, e⟩ := List.mem_map.mp z
      exact ⟨x.length, e.symm, (hG.all x hx).2.2⟩
  walk_at "go"
  refine ⟨_, hkp4, ?_⟩
  dsimp only
  rw [decide_eq_true (show (g : Int) ≤ (k : Int) by omega)]
  exact q _ hkp4
/-! ### law -/

def t_law (K : PySem.W.Frag) (E : XK) : TS :=
  (tSeq (tAsg (tTrimE (tOp (rIxL K) (tLst (tCons (tC (.int 2)) (tCons (tC (.int 3)) (tCons (tC (.int 4)) (tCons (tC (.int 7)) (tCons (tC (.int 10)) (tCons (tC (.int 26)) tNil))))))) (tCall (sp_law_draw K) [] E (tCons (tVar 0) (tCons (tC (.int 0)) (tCons (tC (.int 6)) tNil)))))) (gName 1))
    (tSeq (tAsg (tMake (He.ga K "Shelf") (sp_Shelf___init__ K) [] E (tCons (tVar 1) tNil)) (gName 2))
    (tSeq (tAsg (tLst tNil) (gName 3))
    (tSeq (tAsg (tLst tNil) (gName 4))
    (tSeq (tAsg (tC (.int 0)) (gName 5))
    (tSeq (tFor (iRng1 (tCons (tOp rAddI (tC (.int 1)) (tCall (sp_law_draw K) [] E (tCons (tVar 0) (tCons (tC (.int 3)) (tCons (tC (.int 32)) tNil))))) tNil)) (gName 6)
    (tSeq (tAsg (tCall (sp_law_place K) [] E (tCons (tVar 0) (tCons (tVar 6) (tCons (tCB (rLenQ K) (tCons (tVar 3) tNil)) (tCons (tVar 5) tNil))))) (gName 7))
    (tSeq (tAsg (tMeth (He.ga K "Shelf") "put" (sp_Shelf_put K) [] E (tVar 2) (tCons (tVar 7) (tCons (tOp rAddS1 (tC (.str "t")) (tCB rStrI (tCons (tVar 6) tNil))) tNil))) (gName 8))
    (tMeet (tAsg (tIf (tTest (tOp rGtI (tVar 7) (tC (.int 0)))) (tOp (rIxL K) (tVar 3) (tOp rSubI (tVar 7) (tC (.int 1)))) (tC (.str ""))) (gName 9))
    (tMeet (tAsg (tIf (tTest (tOp rLtI (tVar 7) (tCB (rLenQ K) (tCons (tVar 3) tNil)))) (tOp (rIxL K) (tVar 3) (tVar 7)) (tC (.str ""))) (gName 10))
    (tSeq (tIfS (tOr (tNot (tB (tCB (rIsi K) (tCons (tVar 8) (tCons (tC (.ty "str")) tNil))))) (tOr (tTest (tOp rEq (tVar 8) (tC (.str "")))) (tNot (tB (tCall (sp_law_fewest K) [] E (tCons (tVar 1) (tCons (tVar 9) (tCons (tVar 8) (tCons (tVar 10) tNil)))))))))
    (tRet (tC (.bl false)))
    tNext)
    (tSeq (tDrop (tBM K "list" rInsert (tVar 3) (tCons (tVar 7) (tCons (tVar 8) tNil))))
    (tSeq (tDrop (tBM K "list" rInsert (tVar 4) (tCons (tVar 7) (tCons (tOp rAddS1 (tC (.str "t")) (tCB rStrI (tCons (tVar 6) tNil))) tNil))))
    (tSeq (tAsg (tVar 7) (gName 5))
    (tSeq (tAsg (tTrimE (tCB (rMax K) (tCons (tLc (iList K (tVar 3)) (gName 12) tYes (tCB rLenS1 (tCons (tVar 12) tNil)) [12]) tNil))) (gName 11))
    (tIfS (tOr (tTest (tOp rNe (tMeth (He.ga K "Shelf") "longest" (sp_Shelf_longest K) [] E (tVar 2) tNil) (tVar 11))) (tTest (tOp rGtI (tVar 11) (tCall (sp_law_bound K) [] E (tCons (tVar 1) (tCons (tCB (rLenQ K) (tCons (tVar 3) tNil)) tNil))))))
    (tRet (tC (.bl false)))
    tNext)))))))))))
    (tSeq (tIfS (tOr (tTrimT (tTest (tOp (rNeD K) (tMeth (He.ga K "Shelf") "marks" (sp_Shelf_marks K) [] E (tVar 2) tNil) (tVar 3)))) (tOr (tTrimT (tTest (tOp (rNeD K) (tMeth (He.ga K "Shelf") "things" (sp_Shelf_things K) [] E (tVar 2) tNil) (tVar 4)))) (tTrimT (tTest (tOp (rNeD K) (tCB (rSortedSO K) (tCons (tVar 3) tNil)) (tVar 3))))))
    (tRet (tC (.bl false)))
    tNext)
    (tSeq (tFor (iRng1 (tCons (tCall (sp_law_draw K) [] E (tCons (tVar 0) (tCons (tC (.int 4)) (tCons (tC (.int 4)) tNil)))) tNil)) (gName 6)
    (tIfS (tTest (tOp rGtI (tCB (rLenQ K) (tCons (tVar 4) tNil)) (tC (.int 0))))
    (tSeq (tAsg (tCall (sp_law_draw K) [] E (tCons (tVar 0) (tCons (tOp rAddI (tC (.int 10)) (tVar 6)) (tCons (tCB (rLenQ K) (tCons (tVar 4) tNil)) tNil)))) (gName 7))
    (tSeq (tIfS (tTest (tOp rNe (tMeth (He.ga K "Shelf") "take" (sp_Shelf_take K) [] E (tVar 2) (tCons (tVar 7) tNil)) (tBM K "list" rPopAt (tVar 4) (tCons (tVar 7) tNil))))
    (tRet (tC (.bl false)))
    tNext)
    (tDrop (tBM K "list" rPopAt (tVar 3) (tCons (tVar 7) tNil)))))
    tNext))
    (tRet (tTrimE (tAndV (tOp (rEqD K) (tMeth (He.ga K "Shelf") "marks" (sp_Shelf_marks K) [] E (tVar 2) tNil) (tVar 3)) (tAndV (tOp (rEqD K) (tMeth (He.ga K "Shelf") "things" (sp_Shelf_things K) [] E (tVar 2) tNil) (tVar 4)) (tCall (sp_law_renewed K) [] E (tCons (tVar 1) (tCons (tVar 2) tNil)))))))))))))))
theorem len_law {K : PySem.W.Frag} (vs : List V) (H : Hp) (Q : VK) (E : XK) : sp_law K vs H Q E → vs.length = (["script"] : List Str).length := by
  walk_at "len"

theorem t_str : ∀ n, n < 50 → isTh (("t" : Str) ++ toString ((n : Nat) : Int)) = true := by decide +kernel
theorem log_small {n : Nat} (h : n < 1000) : (n : Int).natAbs.log2 < 1920 := by
  have e : (n : Int).natAbs = n := rfl
  rw [e]
  by_cases hn : n = 0
  · rw [hn]; decide
  · exact Nat.lt_of_lt_of_le ((Nat.log2_lt hn).mpr (show n < 2 ^ 10 by omega)) (by decide)
theorem str_cat_len (x y : Str) : (x ++ y).length = x.length + y.length := by
  show (x.cps ++ y.cps).size = x.cps.size + y.cps.size
  exact Array.size_append
theorem GoodMs.pw {L B : Nat} {M : List (List Nat)} (h : GoodMs L B M) : (M.map txt).Pairwise fun a b => a.cps.toList ≤ b.cps.toList :=
  List.pairwise_map.mpr (h.up.imp fun {a b} hab => List.le_of_lt ((decide_eq_decide.mp (txt_lt a b)).mpr hab))
theorem mk_at {M : List (List Nat)} {n : Nat} {x : List Nat} (h : M[n]? = some x) : atI (mkV M) (n : Int) = some (.str (txt x)) :=
  atI_nat (by rw [List.getElem?_map, List.getElem?_map, h]; rfl)
theorem pure_law {K : PySem.W.Frag} (T : Kx K) (vs : List V) (H : Hp) (Q : VK) (E : XK) (h : sp_law K vs H Q E) : t_law K E { nx := fun _ H' => Q .non H', rt := Q } (start ["script", "letters", "shelf", "marks", "things", "last", "k", "place", "mark", "low", "high", "longest", "one"] vs) H := by
  obtain ⟨a, ns, rfl, hS, hl, hO, q⟩ := h
  have hC := clo_only hO
  have b0 := Box.nil hC
  have hth := t_str
  walk_at "go"
  intro p1 hp1
  walk_at "go"
  walk_at "draw"
  intro d1 d10 d11
  obtain ⟨_, hat, L, rfl, hL, hL2⟩ := pick (xs := [.int 2, .int 3, .int 4, .int 7, .int 10, .int 26]) (NatIn 2 26) d10 (by simpa using d11)
    (all1 (natIn (by omega) (by omega)) (all1 (natIn (by omega) (by omega)) (all1 (natIn (by omega) (by omega)) (all1 (natIn (by omega) (by omega)) (all1 (natIn (by omega) (by omega)) (all1 (natIn (by omega) (by omega)) all0))))))
  have hSp := sqL_at (K := K) (H := H) (p := p1) (xs := [.int 2, .int 3, .int 4, .int 7, .int 10, .int 26])
  walk_at "go"
  intro x dx nx ndx nd
  refine sp_make (K := K) (B := 0) b0 rfl hL hL2 nx ndx nd fun lt lm H1 ex1 st => ?_
  walk_at "go"
  intro C hC1
  have st := st.add (c := []) rfl hC1 (Ex.new (Ex.refl _) hC1) upd_same (clo_new st.b.clo hC1 rfl)
  generalize upd H1 C (.lst []) = H2 at st ⊢
  walk_at "go"
  intro A hA
  have st := st.add (c := []) rfl hA (Ex.new (Ex.refl _) hA) upd_same (clo_new st.b.clo hA rfl)
  generalize upd H2 A (.lst []) = H3 at st ⊢
  have st : St1 K H H3 L x lt lm [C, A] [mkV [], strV []] 0 [] [] := st
  clear ex1 hA hC1
  have hSa := sqL_ex hS st.b.ex
  walk_at "go"
  refine ⟨_, _, _, _, rfl, hSa, hl, (by omega), (by omega), (by omega), (by omega), ?_⟩
  intro d2 d20 d21
  clear d10 d11 hat hSp
  walk_at "go"
  refine for_fn walk_range1 (fun i σ' H' => ∃ (T : List Str) (M : List (List Nat)) (l : Nat) (x6 x7 x8 x9 x10 x11 : Option V), St1 K H H' L x lt lm [C, A] [mkV M, strV T] i T M ∧ GrowZ L i M ∧ T.length = i ∧ l ≤ i ∧ σ' = [some (.ref a), some (.int L), some (.ref x), some (.ref C), some (.ref A), some (.int l), x6, x7, x8, x9, x10, x11, none])
    ?_ (fun _ _ _ _ _ => trivial) ?_ ?_
  case refine_1 => exact ⟨[], [], 0, _, _, _, _, _, _, st, .inl ⟨rfl, rfl⟩, rfl, Nat.le_refl _, rfl⟩
  · rintro i σ' Hk hi ⟨T, M, l, x6, x7, x8, x9, x10, x11, st, gz, hT, hl2, rfl⟩
    have hiN : i < (1 + d2).toNat := hi
    have hSa := sqL_ex hS st.b.ex
    have hlen := st.len
    have eM := mkV_len M
    walk_at "go"
    refine ⟨_, _, rfl, Or.inl (.inl (.inl (st.own 0 rfl rfl))), ?_⟩
    rw [eM, ← hlen, hT]
    walk_at "go"
    refine ⟨a, ns, i, i, l, rfl, hSa, hl, by omega, by omega, by omega, fun n hn => ?_⟩
    have htt := t_str i (by omega)
    have hll := isTh_len htt
    rw [str_cat_len] at hll
    walk_at "go"
    refine St1.meth st (by decide +kernel) (by decide +kernel) (by decide +kernel) ?_
    walk_at "go"
    refine ⟨log_small (by omega), ?_⟩
    walk_at "go"
    obtain ⟨tn, etn⟩ : ∃ tn, tn = ("t" : Str) ++ toString ((i : Nat) : Int) := ⟨_, rfl⟩
    rw [← etn] at htt ⊢
    walk_at "n"
    refine St1.put (n := n) (t := tn) st (by omega) (by omega) (by omega) htt fun j H4 hj st4 => ?_
    have hE := st.gm.ends3 (i := n) (by omega)
    have X := betwMk_ok hL (show 0 < 1 by omega) (show 1 < L by omega) hE.e hj
    have LS := leastS_of hL hE.e hj
    have gz2 := gz.step hL (by omega) (by omega) hj
    generalize betwMk L (ends L 1 0) (lowAt M n) M[n]? j = mk at st4 gz2 X ⊢
    have hT2 : (insL T n tn).length = i + 1 := by rw [insL_len (by omega)]; omega
    have hM4 := st4.own 0 rfl rfl
    have hSC : SqL K H4 C (mkV M) := .inl (.inl hM4)
    walk_at "go"
    refine meet_fix (fun σ' => σ' = [some (.ref a), some (.int L), some (.ref x), some (.ref C), some (.ref A), some (.int l), some (.int i), some (.int n), some (.str (txt mk)), some (.str (txtO (lowAt M n))), x10, x11, none]) ?_ ?_
    · walk_at "go"
      refine iteD (fun c => ?_) fun c => ?_
      · have e1 : M[n - 1]? = some (M[n - 1]'(by omega)) := List.getElem?_eq_getElem _
        have e2 : lowAt M n = M[n - 1]? := by unfold lowAt; rw [if_neg (by omega)]
        rw [e2, e1]
        have hx := mk_at e1
        rw [show ((n - 1 : Nat) : Int) = (n : Int) - 1 by omega] at hx
        walk_at "go"
        rfl
      · obtain rfl : n = 0 := by omega
        refine ⟨rfl, ?_⟩
        rw [show lowAt M 0 = none from rfl, show txtO none = "" from txt_nil]
        rfl
    rintro _ rfl
    refine meet_fix (fun σ' => σ' = [some (.ref a), some (.int L), some (.ref x), some (.ref C), some (.ref A), some (.int l), some (.int i), some (.int n), some (.str (txt mk)), some (.str (txtO (lowAt M n))), some (.str (txtO M[n]?)), x11, none]) ?_ ?_
    · walk_at "go"
      rw [eM]
      refine iteD (fun c => ?_) fun c => ?_
      · have e1 : M[n]? = some (M[n]'(by omega)) := List.getElem?_eq_getElem _
        rw [e1]
        have hx := mk_at e1
        walk_at "go"
        rfl
      · refine ⟨rfl, ?_⟩
        rw [List.getElem?_eq_none (by omega), show txtO none = "" from txt_nil]
        rfl
    rintro _ rfl
    walk_at "go"
    refine iteES (fun c => absurd (txt_inj (c.trans txt_nil.symm)) X.ne) fun _ => ?_
    have hmem : mk ∈ insL M n mk := List.mem_of_getElem? (i := n) (by rw [insL_get (by omega), if_neg (by omega), if_pos rfl])
    have hmkl := gz2.long _ hmem
    have hl3 := lng_small (n := i + 1) (log_posG hL)
    walk_at "go"
    refine ⟨L, j, lowAt M n, M[n]?, mk, rfl, hL, hL2, hE, LS, X.len, by have := X.len; omega, X.betw, ?_⟩
    walk_at "go"
    walk_at "b"
    refine ⟨C, _, n, _, rfl, rfl, hM4, by rw [eM, sz]; omega, by omega, by omega, ?_⟩
    rw [Int.toNat_natCast, insL_map (f := V.str), insL_map' (f := txt)]
    have st5 := st4.set (y := mkV (insL M n mk)) 0 rfl rfl
    generalize upd H4 C (.lst (mkV (insL M n mk))) = H5 at st5 ⊢
    have hA5 := st5.own 1 rfl rfl
    walk_at "go"
    refine ⟨log_small (by omega), ?_⟩
    walk_at "go"
    walk_at "b"
    rw [← etn]
    refine ⟨A, _, n, _, rfl, rfl, hA5, by rw [List.length_map, sz]; omega, by omega, by omega, ?_⟩
    rw [Int.toNat_natCast, insL_map]
    have st6 := st5.set (y := strV (insL T n tn)) 1 rfl rfl
    generalize upd H5 A (.lst (strV (insL T n tn))) = H6 at st6 ⊢
    generalize insL T n tn = T2 at st6 hT2 ⊢
    generalize insL M n mk = M2 at st6 gz2 ⊢
    have st6 : St1 K H H6 L x lt lm [C, A] [mkV M2, strV T2] (i + 1) T2 M2 := st6
    have hlen6 := st6.len
    have hM6 := st6.own 0 rfl rfl
    have eM2 := mkV_len M2
    have hSC6 : SqL K H6 C (mkV M2) := .inl (.inl hM6)
    have hlenM : ∀ x ∈ M2, x.length ≤ 1000000 := fun x hx => by have := (st6.gm.all x hx).2.2; omega
    walk_at "go"
    refine ⟨⟨_, hSC6⟩, fun D hD => ?_⟩
    refine lc_fn walk_listF (fun _ => true) (fun i => .int (((M2.getD i []).length : Nat) : Int)) (by omega) (fun acc => sqL_new hSC6 hD) ?_ ?_
    · intro i acc hi ha N hN _
      have hi2 : i < M2.length := by omega
      have hx := hlenM _ (getD_memN hi2)
      have h4 := txt_len (M2.getD i [])
      rw [marks_at hi2]
      walk_at "go"
      rw [show ((txt (M2.getD i [])).length : Int) = ((M2.getD i []).length : Int) by omega]
      exact lc_end ha (by omega) (hN rfl)
    rw [filt_all, lens_V]
    walk_at "b"
    refine ⟨D, _, rfl, sqL_at, by rw [List.length_map]; omega, fun mx hm2 hm3 => ?_⟩
    refine ⟨_, Trim.back (Ex.new (Ex.refl _) hD) st6.b.clo, ?_⟩
    walk_at "go"
    refine St1.meth st6 (by decide +kernel) (by decide +kernel) (by decide +kernel) ?_
    walk_at "go"
    refine ⟨x, lt, lm, L, T2, M2, rfl, st6.sh, by omega, hlenM, st6.b.clo, fun m hm => ?_⟩
    obtain rfl := hm.uniq (.inr ⟨hm2, hm3⟩)
    have hmx2 : m ≤ ((lngN (Nat.log2 L) (i + 1) : Nat) : Int) := by
      obtain ⟨y, hy, e⟩ := List.mem_map.mp hm2
      have := gz2.long y hy
      omega
    walk_at "go"
    refine iteNI (fun c => absurd rfl c) fun _ => ?_
    walk_at "go"
    rw [eM2, ← hlen6, hT2]
    refine iteD (fun c => absurd c (by omega)) fun _ => ?_
    exact ⟨T2, M2, n, _, _, _, _, _, _, st6, gz2, hT2, by omega, rfl⟩
  rintro σ' Hk ⟨T, M, l, x6, x7, x8, x9, x10, x11, st, gz, hT, hl2, rfl⟩
  have hlen := st.len
  have hT32 : T.length ≤ 32 := by omega
  clear gz hT
  have eM := mkV_len M
  have hokM := st.gm.ok hL2
  have hokT : ∀ y ∈ T, PyData.strOk y = true := fun y hy => isTh_ok (st.th y hy)
  have hMk := st.own 0 rfl rfl
  have hTk := st.own 1 rfl rfl
  have hSC : SqL K Hk C (mkV M) := .inl (.inl hMk)
  walk_at "go"
  refine St1.meth st (by decide +kernel) (by decide +kernel) (by decide +kernel) ?_
  walk_at "go"
  refine ⟨x, lt, lm, L, T, M.map txt, rfl, st.sh, st.b.clo, fun f hf => ?_⟩
  have exf := Ex.new (o := .lst (mkV M)) (Ex.refl Hk) hf
  walk_at "go"
  walk_at "b"
  refine neD_same upd_same (exf _ _ hMk) hokM ?_
  refine ⟨_, rfl, _, Trim.back exf st.b.clo, ?_⟩
  walk_at "go"
  refine St1.meth st (by decide +kernel) (by decide +kernel) (by decide +kernel) ?_
  walk_at "go"
  refine ⟨x, lt, lm, L, T, M.map txt, rfl, st.sh, st.b.clo, fun f2 hf2 => ?_⟩
  have exf2 := Ex.new (o := .lst (strV T)) (Ex.refl Hk) hf2
  walk_at "go"
  walk_at "b"
  refine neD_same upd_same (exf2 _ _ hTk) hokT ?_
  refine ⟨_, rfl, _, Trim.back exf2 st.b.clo, ?_⟩
  walk_at "go"
  refine ⟨_, _, rfl, .inl (.inl hMk), fun ys f3 hperm hsort hf3 => ?_⟩
  obtain rfl := sorted_eqP hperm hsort st.gm.pw
  have exf3 := Ex.new (o := .lst (mkV M)) (Ex.refl Hk) hf3
  walk_at "go"
  walk_at "b"
  refine neD_same upd_same (exf3 _ _ hMk) hokM ?_
  refine ⟨_, rfl, _, Trim.back exf3 st.b.clo, ?_⟩
  have hSa := sqL_ex hS st.b.ex
  walk_at "go"
  refine ⟨_, _, _, _, rfl, hSa, hl, (by omega), (by omega), (by omega), (by omega), ?_⟩
  intro d3 d30 d31
  obtain ⟨N2, rfl⟩ := Int.eq_ofNat_of_zero_le d30
  walk_at "go"
  have st := st.mono (show (1 + d2).toNat ≤ 32 by omega)
  refine for_fn walk_range1 (fun i σ' H' => ∃ (T : List Str) (M : List (List Nat)) (x6 x7 : Option V), St1 K H H' L x lt lm [C, A] [mkV M, strV T] 32 T M ∧ T.length ≤ 32 ∧ σ' = [some (.ref a), some (.int L), some (.ref x), some (.ref C), some (.ref A), some (.int l), x6, x7, x8, x9, x10, x11, none])
    ⟨T, M, _, _, st, hT32, rfl⟩ (fun _ _ _ _ _ => trivial) ?_ ?_
  · rintro i σ' Hk hi ⟨T, M, x6, x7, st, hT32, rfl⟩
    have hi4 : i < 4 := by
      have hi2 : i < N2 := by simpa using hi
      omega
    have hSa := sqL_ex hS st.b.ex
    have hlen := st.len
    walk_at "go"
    refine ⟨_, _, rfl, Or.inl (.inl (.inl (st.own 1 rfl rfl))), ?_⟩
    rw [List.length_map]
    walk_at "go"
    refine iteD (fun c => ?_) fun c => ?_
    · walk_at "go"
      refine ⟨_, _, rfl, Or.inl (.inl (.inl (st.own 1 rfl rfl))), ?_⟩
      rw [List.length_map]
      walk_at "go"
      refine ⟨_, _, _, _, rfl, hSa, hl, (by omega), (by omega), (by omega), (by omega), ?_⟩
      intro e4 e40 e41
      obtain ⟨m, rfl⟩ := Int.eq_ofNat_of_zero_le e40
      walk_at "go"
      refine St1.meth st (by decide +kernel) (by decide +kernel) (by decide +kernel) ?_
      walk_at "go"
      walk_at "n"
      refine St1.take (n := m) st (by omega) (by omega) fun H6 hm st6 => ?_
      walk_at "go"
      have hA6 := st6.own 1 rfl rfl
      refine ⟨tyV_list hA6, ?_⟩
      walk_at "b"
      refine ⟨_, rfl, ?_⟩
      refine ⟨A, _, m, m, .str T[m], rfl, rfl, hA6, by omega, by omega, seqIndex_nat (by rw [List.length_map]; exact hm), by rw [List.getElem?_map, List.getElem?_eq_getElem hm]; rfl, ?_⟩
      rw [eraseIdx_mapL]
      have st7 := st6.set (y := strV (T.eraseIdx m)) 1 rfl rfl
      generalize upd H6 A (.lst (strV (T.eraseIdx m))) = H7 at st7 ⊢
      have hC7 := st7.own 0 rfl rfl
      walk_at "go"
      refine iteNS' (fun c => absurd rfl c) fun _ => ?_
      walk_at "go"
      walk_at "b"
      refine ⟨C, _, m, m, .str (txt (M[m]'(by omega))), rfl, rfl, hC7, by omega, by omega, seqIndex_nat (by rw [mkV_len]; omega), by rw [List.getElem?_map, List.getElem?_map, List.getElem?_eq_getElem (by omega)]; rfl, ?_⟩
      rw [mkV_erase]
      have st8 := st7.set (y := mkV (M.eraseIdx m)) 0 rfl rfl
      exact ⟨_, _, _, _, st8, by rw [List.length_eraseIdx, if_pos hm]; omega, rfl⟩
    · exact ⟨_, _, _, _, st, by omega, rfl⟩
  rintro σ' Hk ⟨T, M, x6, x7, st, hT32, rfl⟩
  have hlen := st.len
  have hokM := st.gm.ok hL2
  have hokT : ∀ y ∈ T, PyData.strOk y = true := fun y hy => isTh_ok (st.th y hy)
  have hMk := st.own 0 rfl rfl
  have hTk := st.own 1 rfl rfl
  walk_at "go"
  refine St1.meth st (by decide +kernel) (by decide +kernel) (by decide +kernel) ?_
  walk_at "go"
  refine ⟨x, lt, lm, L, T, M.map txt, rfl, st.sh, st.b.clo, fun f hf => ?_⟩
  have exf := Ex.new (o := .lst (mkV M)) (Ex.refl Hk) hf
  walk_at "go"
  walk_at "b"
  refine eqD_same upd_same (exf _ _ hMk) hokM ?_
  refine ⟨true, rfl, ?_⟩
  have stf := st.ext exf (clo_new st.b.clo hf rfl)
  have hTf := exf _ _ hTk
  generalize upd Hk f (.lst (mkV M)) = Hf at exf stf hTf ⊢
  walk_at "go"
  refine St1.meth stf (by decide +kernel) (by decide +kernel) (by decide +kernel) ?_
  walk_at "go"
  refine ⟨x, lt, lm, L, T, M.map txt, rfl, stf.sh, stf.b.clo, fun f2 hf2 => ?_⟩
  have exf2 := Ex.new (o := .lst (strV T)) (Ex.refl Hf) hf2
  walk_at "go"
  walk_at "b"
  refine eqD_same upd_same (exf2 _ _ hTf) hokT ?_
  refine ⟨true, rfl, ?_⟩
  have st2 := stf.ext exf2 (clo_new stf.b.clo hf2 rfl)
  generalize upd Hf f2 (.lst (strV T)) = H2 at exf2 st2 ⊢
  walk_at "go"
  refine ⟨x, lt, lm, L, T, M.map txt, rfl, st2.sh, st2.b.clo, hL, hL2, by omega, st2.th, fun H3 hk => ?_⟩
  exact ⟨_, ((Kp.ex exf stf.b.clo).trans (Kp.ex exf2 st2.b.clo)).trans hk, q _⟩
end Sm
namespace Sm
open PySem PySem.Spec PyProof.Rows L2
def top (i : Nat) : Stmt := PySem.Challenge.pw_shelfmark_k93_whole_shelf.main.body.getD i (.Pass ⟨0, 0, 0, 0⟩)
abbrev s_ask_letters : Stmt := top 9
theorem sc_ask_letters : FnScope ["letters", "hands"] ["letters", "hands"] (defScope s_ask_letters) := ⟨rfl, rfl, rfl, by decide +kernel, rfl, by decide +kernel, by decide +kernel⟩
abbrev s_whole_of : Stmt := top 10
theorem sc_whole_of : FnScope ["letters", "mark", "long", "whole", "k"] ["letters", "mark", "long"] (defScope s_whole_of) := ⟨rfl, rfl, rfl, by decide +kernel, rfl, by decide +kernel, by decide +kernel⟩
abbrev s_mark_of : Stmt := top 11
theorem sc_mark_of : FnScope ["letters", "number", "long", "signs", "k", "rest"] ["letters", "number", "long"] (defScope s_mark_of) := ⟨rfl, rfl, rfl, by decide +kernel, rfl, by decide +kernel, by decide +kernel⟩
abbrev s_ends_of : Stmt := top 13
theorem sc_ends_of : FnScope ["letters", "hands", "hand", "k"] ["letters", "hands", "hand"] (defScope s_ends_of) := ⟨rfl, rfl, rfl, by decide +kernel, rfl, by decide +kernel, by decide +kernel⟩
abbrev s_numbers_between : Stmt := top 14
theorem sc_numbers_between : FnScope ["letters", "low", "high", "long", "least", "most", "k"] ["letters", "low", "high", "long"] (defScope s_numbers_between) := ⟨rfl, rfl, rfl, by decide +kernel, rfl, by decide +kernel, by decide +kernel⟩
abbrev s_figures_of : Stmt := top 15
theorem sc_figures_of : FnScope ["letters", "hands", "hand", "sign"] ["letters", "hands", "hand"] (defScope s_figures_of) := ⟨rfl, rfl, rfl, by decide +kernel, rfl, by decide +kernel, by decide +kernel⟩
abbrev s_many_below : Stmt := top 16
theorem sc_many_below : FnScope ["letters", "figures", "number", "rounds", "rest", "one"] ["letters", "figures", "number"] (defScope s_many_below) := ⟨rfl, rfl, rfl, by decide +kernel, rfl, by decide +kernel, by decide +kernel⟩
abbrev s_room_at : Stmt := top 17
theorem sc_room_at : FnScope ["letters", "hands", "hand", "low", "high", "long", "least", "most", "figures"] ["letters", "hands", "hand", "low", "high", "long"] (defScope s_room_at) := ⟨rfl, rfl, rfl, by decide +kernel, rfl, by decide +kernel, by decide +kernel⟩
abbrev s_nth_mark : Stmt := top 18
theorem sc_nth_mark : FnScope ["letters", "hands", "hand", "low", "high", "long", "number", "least", "figures", "rounds", "rest"] ["letters", "hands", "hand", "low", "high", "long", "number"] (defScope s_nth_mark) := ⟨rfl, rfl, rfl, by decide +kernel, rfl, by decide +kernel, by decide +kernel⟩
abbrev s_least_long : Stmt := top 20
theorem sc_least_long : FnScope ["letters", "hands", "hand", "low", "high", "many", "long"] ["letters", "hands", "hand", "low", "high", "many"] (defScope s_least_long) := ⟨rfl, rfl, rfl, by decide +kernel, rfl, by decide +kernel, by decide +kernel⟩
abbrev s_mark_between : Stmt := top 21
theorem sc_mark_between : FnScope ["letters", "hands", "hand", "low", "high", "long", "many", "number"] ["letters", "hands", "hand", "low", "high"] (defScope s_mark_between) := ⟨rfl, rfl, rfl, by decide +kernel, rfl, by decide +kernel, by decide +kernel⟩
abbrev s_renewed_long : Stmt := top 23
theorem sc_renewed_long : FnScope ["letters", "many", "long", "count"] ["letters", "many"] (defScope s_renewed_long) := ⟨rfl, rfl, rfl, by decide +kernel, rfl, by decide +kernel, by decide +kernel⟩
abbrev s_renewed : Stmt := top 24
theorem sc_renewed : FnScope ["letters", "many", "long", "count", "k"] ["letters", "many"] (defScope s_renewed) := ⟨rfl, rfl, rfl, by decide +kernel, rfl, by decide +kernel, by decide +kernel⟩
abbrev s_is_thing : Stmt := top 29
theorem sc_is_thing : FnScope ["text", "sign"] ["text"] (defScope s_is_thing) := ⟨rfl, rfl, rfl, by decide +kernel, rfl, by decide +kernel, by decide +kernel⟩
abbrev s_Shelf___init__ : Stmt := inClass (top 30) 0
theorem sc_Shelf___init__ : FnScope ["self", "letters"] ["self", "letters"] (defScope s_Shelf___init__) := ⟨rfl, rfl, rfl, by decide +kernel, rfl, by decide +kernel, by decide +kernel⟩
abbrev s_Shelf_ask_put : Stmt := inClass (top 30) 1
theorem sc_Shelf_ask_put : FnScope ["self", "place", "some", "thing"] ["self", "place", "some"] (defScope s_Shelf_ask_put) := ⟨rfl, rfl, rfl, by decide +kernel, rfl, by decide +kernel, by decide +kernel⟩
abbrev s_Shelf_marks_round : Stmt := inClass (top 30) 2
theorem sc_Shelf_marks_round : FnScope ["self", "place", "low", "high"] ["self", "place"] (defScope s_Shelf_marks_round) := ⟨rfl, rfl, rfl, by decide +kernel, rfl, by decide +kernel, by decide +kernel⟩
abbrev s_Shelf_put : Stmt := inClass (top 30) 3
theorem sc_Shelf_put : FnScope ["self", "place", "thing", "low", "high", "mark"] ["self", "place", "thing"] (defScope s_Shelf_put) := ⟨rfl, rfl, rfl, by decide +kernel, rfl, by decide +kernel, by decide +kernel⟩
abbrev s_Shelf_take : Stmt := inClass (top 30) 5
theorem sc_Shelf_take : FnScope ["self", "place"] ["self", "place"] (defScope s_Shelf_take) := ⟨rfl, rfl, rfl, by decide +kernel, rfl, by decide +kernel, by decide +kernel⟩
abbrev s_Shelf_renew : Stmt := inClass (top 30) 6
theorem sc_Shelf_renew : FnScope ["self"] ["self"] (defScope s_Shelf_renew) := ⟨rfl, rfl, rfl, by decide +kernel, rfl, by decide +kernel, by decide +kernel⟩
abbrev s_Shelf_marks : Stmt := inClass (top 30) 7
theorem sc_Shelf_marks : FnScope ["self"] ["self"] (defScope s_Shelf_marks) := ⟨rfl, rfl, rfl, by decide +kernel, rfl, by decide +kernel, by decide +kernel⟩
abbrev s_Shelf_things : Stmt := inClass (top 30) 8
theorem sc_Shelf_things : FnScope ["self"] ["self"] (defScope s_Shelf_things) := ⟨rfl, rfl, rfl, by decide +kernel, rfl, by decide +kernel, by decide +kernel⟩
abbrev s_Shelf_longest : Stmt := inClass (top 30) 9
theorem sc_Shelf_longest : FnScope ["self", "mark"] ["self"] (defScope s_Shelf_longest) := ⟨rfl, rfl, rfl, by decide +kernel, rfl, by decide +kernel, by decide +kernel⟩
abbrev s_law_draw : Stmt := top 32
theorem sc_law_draw : FnScope ["script", "k", "many", "cell", "seed"] ["script", "k", "many"] (defScope s_law_draw) := ⟨rfl, rfl, rfl, by decide +kernel, rfl, by decide +kernel, by decide +kernel⟩
abbrev s_law_place : Stmt := top 33
theorem sc_law_place : FnScope ["script", "k", "many", "last", "way"] ["script", "k", "many", "last"] (defScope s_law_place) := ⟨rfl, rfl, rfl, by decide +kernel, rfl, by decide +kernel, by decide +kernel⟩
abbrev s_law_whole : Stmt := top 34
theorem sc_law_whole : FnScope ["letters", "mark", "long", "whole", "k", "figure"] ["letters", "mark", "long"] (defScope s_law_whole) := ⟨rfl, rfl, rfl, by decide +kernel, rfl, by decide +kernel, by decide +kernel⟩
abbrev s_law_fewest : Stmt := top 35
theorem sc_law_fewest : FnScope ["letters", "low", "mark", "high", "long", "most", "k"] ["letters", "low", "mark", "high"] (defScope s_law_fewest) := ⟨rfl, rfl, rfl, by decide +kernel, rfl, by decide +kernel, by decide +kernel⟩
abbrev s_law_bound : Stmt := top 36
theorem sc_law_bound : FnScope ["letters", "many", "times"] ["letters", "many"] (defScope s_law_bound) := ⟨rfl, rfl, rfl, by decide +kernel, rfl, by decide +kernel, by decide +kernel⟩
abbrev s_law_renewed : Stmt := top 37
theorem sc_law_renewed : FnScope ["letters", "shelf", "things", "power", "long", "told", "marks", "mark"] ["letters", "shelf"] (defScope s_law_renewed) := ⟨rfl, rfl, rfl, by decide +kernel, rfl, by decide +kernel, by decide +kernel⟩
abbrev s_law : Stmt := top 38
theorem sc_law : FnScope ["script", "letters", "shelf", "marks", "things", "last", "k", "place", "mark", "low", "high", "longest", "one"] ["script"] (defScope s_law) := ⟨rfl, rfl, rfl, by decide +kernel, rfl, by decide +kernel, by decide +kernel⟩
structure Tx (K : PySem.W.Frag) (mg : Str → Option Value) : Prop where
  n_divmod : mg "divmod" = none
  n_int : mg "int" = none
  n_isinstance : mg "isinstance" = none
  n_len : mg "len" = none
  n_list : mg "list" = none
  n_max : mg "max" = none
  n_min : mg "min" = none
  n_range : mg "range" = none
  n_sorted : mg "sorted" = none
  n_str : mg "str" = none
  g_LETTERS : ∃ t, mg "LETTERS" = some (.str "abcdefghijklmnopqrstuvwxyz" t)
  g_LONGEST_THING : ∃ t, mg "LONGEST_THING" = some (.int 12 t)
  g_MOST_THINGS : ∃ t, mg "MOST_THINGS" = some (.int 300 t)
  g_SIGNS : ∃ t, mg "SIGNS" = some (.str "abcdefghijklmnopqrstuvwxyz0123456789" t)
  x_NoLetters : PySem.W.excIn K (He.ga K "NoLetters") He.veBase "ValueError.__new__" = true
  k_NoLetters : PySem.W.keepIn K (.ref (He.ga K "NoLetters")) = true
  b_NoLetters : PySem.W.subIn K (.ref (He.ga K "NoLetters")) (.type "BaseException") = some true
  t_NoLetters : PySem.W.typeIn K (.ref (He.ga K "NoLetters")) = some (.type "type")
  x_NoPlace : PySem.W.excIn K (He.ga K "NoPlace") He.veBase "ValueError.__new__" = true
  k_NoPlace : PySem.W.keepIn K (.ref (He.ga K "NoPlace")) = true
  b_NoPlace : PySem.W.subIn K (.ref (He.ga K "NoPlace")) (.type "BaseException") = some true
  t_NoPlace : PySem.W.typeIn K (.ref (He.ga K "NoPlace")) = some (.type "type")
  x_NoRoom : PySem.W.excIn K (He.ga K "NoRoom") He.veBase "ValueError.__new__" = true
  k_NoRoom : PySem.W.keepIn K (.ref (He.ga K "NoRoom")) = true
  b_NoRoom : PySem.W.subIn K (.ref (He.ga K "NoRoom")) (.type "BaseException") = some true
  t_NoRoom : PySem.W.typeIn K (.ref (He.ga K "NoRoom")) = some (.type "type")
  x_NoThing : PySem.W.excIn K (He.ga K "NoThing") He.veBase "ValueError.__new__" = true
  k_NoThing : PySem.W.keepIn K (.ref (He.ga K "NoThing")) = true
  b_NoThing : PySem.W.subIn K (.ref (He.ga K "NoThing")) (.type "BaseException") = some true
  t_NoThing : PySem.W.typeIn K (.ref (He.ga K "NoThing")) = some (.type "type")
  g_NoLetters : mg "NoLetters" = some (.ref (He.ga K "NoLetters"))
  g_NoPlace : mg "NoPlace" = some (.ref (He.ga K "NoPlace"))
  g_NoRoom : mg "NoRoom" = some (.ref (He.ga K "NoRoom"))
  g_NoThing : mg "NoThing" = some (.ref (He.ga K "NoThing"))
  g_Shelf : mg "Shelf" = some (.ref (He.ga K "Shelf"))
  kx : Kx K
section
variable {P : Program} {w : World} {K : PySem.W.Frag} {mg : Str → Option Value} {base : Heap}
theorem ok_ask_letters {f : Addr} {fd : FuncData} (F : FunD K "ask_letters" "ask_letters" (defArgs s_ask_letters) (defBody s_ask_letters) (defScope s_ask_letters) [] [] f fd) (T : Tx K mg) : FnOk P w K mg base (L2.CX P w) 1 f fd ["letters", "hands"] (sp_ask_letters K) := by
  refine F.ok sc_ask_letters len_ask_letters (fun cdv A outer s H vs Q E hr h => ⟨t_ask_letters K E, ?_, pure_ask_letters T.kx vs H Q E h⟩)
  have nd := sc_ask_letters.nd
  have hu := hu_of hr
  have htk : Takes (cxOf (L2.CX P w) P w K mg base ["letters", "hands"] "ask_letters" (defScope s_ask_letters) f cdv A outer s H E) (fun c d _ H => E c d H) := takes_of rfl rfl rfl rfl
  have hpx : Passes (L2.CX P w) (cxOf (L2.CX P w) P w K mg base ["letters", "hands"] "ask_letters" (defScope s_ask_letters) f cdv A outer s H E) E := passes_call htk fun _ _ _ _ z => z
  have hps : PassesOwn (model P w) (A.deeper (envOfC "ask_letters" (defScope s_ask_letters) s.heap.objs.size f cdv)) (envOfC "ask_letters" (defScope s_ask_letters) s.heap.objs.size f cdv) (cxOf (L2.CX P w) P w K mg base ["letters", "hands"] "ask_letters" (defScope s_ask_letters) f cdv A outer s H E).xe := passes_of (X := cxOf (L2.CX P w) P w K mg base ["letters", "hands"] "ask_letters" (defScope s_ask_letters) f cdv A outer s H E) rfl
  exact (pss_one (ps_if (PW.pt (pw_or (pt_cmpR op_lt (pv 0) pe_int (nomark _)) (pw_or (pt_cmpR op_gt (pv 0) (pe_callB call_len_str (by rfl) T.n_len (by decide +kernel) (pa_cons (pe_glob (by rfl) T.g_LETTERS.choose_spec ⟨_, rfl⟩) pa_nil)) (nomark _)) (pw_or (pt_cmpR op_lt (pv 1) pe_int (nomark _)) (pw_or1 (pt_cmpR op_ge (pv 1) (pv 0) (nomark _)))))))
    (pss_one (ps_raise rfl htk (pmk_own PySem.F.excBase_ValueError T.x_NoLetters T.g_NoLetters T.k_NoLetters (raises_own T.b_NoLetters T.t_NoLetters) rfl)))
    pss_nil))
theorem ok_whole_of {f : Addr} {fd : FuncData} (F : FunD K "whole_of" "whole_of" (defArgs s_whole_of) (defBody s_whole_of) (defScope s_whole_of) [] [] f fd) (T : Tx K mg) : FnOk P w K mg base (L2.CX P w) 1 f fd ["letters", "mark", "long"] (sp_whole_of K) := by
  refine F.ok sc_whole_of len_whole_of (fun cdv A outer s H vs Q E hr h => ⟨t_whole_of K E, ?_, pure_whole_of T.kx vs H Q E h⟩)
  have nd := sc_whole_of.nd
  have hu := hu_of hr
  have htk : Takes (cxOf (L2.CX P w) P w K mg base ["letters", "mark", "long", "whole", "k"] "whole_of" (defScope s_whole_of) f cdv A outer s H E) (fun c d _ H => E c d H) := takes_of rfl rfl rfl rfl
  have hpx : Passes (L2.CX P w) (cxOf (L2.CX P w) P w K mg base ["letters", "mark", "long", "whole", "k"] "whole_of" (defScope s_whole_of) f cdv A outer s H E) E := passes_call htk fun _ _ _ _ z => z
  have hps : PassesOwn (model P w) (A.deeper (envOfC "whole_of" (defScope s_whole_of) s.heap.objs.size f cdv)) (envOfC "whole_of" (defScope s_whole_of) s.heap.objs.size f cdv) (cxOf (L2.CX P w) P w K mg base ["letters", "mark", "long", "whole", "k"] "whole_of" (defScope s_whole_of) f cdv A outer s H E).xe := passes_of (X := cxOf (L2.CX P w) P w K mg base ["letters", "mark", "long", "whole", "k"] "whole_of" (defScope s_whole_of) f cdv A outer s H E) rfl
  exact (pss_cons (ps_set (i := 3) nd rfl (by first | exact Or.inl rfl | exact Or.inr rfl) pe_int)
    (pss_cons (ps_for hps rfl (pi_range1 (by rfl) T.n_range (pa_cons (pv 2) pa_nil)) (pg_name (i := 4) nd rfl (by first | exact Or.inl rfl | exact Or.inr rfl))
    (pss_cons (ps_set (i := 3) nd rfl (by first | exact Or.inl rfl | exact Or.inr rfl) (pe_op op_mulW (pv 3) (pv 0)))
    (pss_one (ps_if (pt_cmpR op_lt (pv 4) (pe_callB call_len_str (by rfl) T.n_len (by decide +kernel) (pa_cons (pv 1) pa_nil)) (nomark _))
    (pss_one (ps_set (i := 3) nd rfl (by first | exact Or.inl rfl | exact Or.inr rfl) (pe_op op_add (pv 3) (pe_bmS PySem.F.plainAttrs_str PySem.F.slot_str_index PySem.F.type_str_index (mt_indexS rfl) (pe_glob (by rfl) T.g_LETTERS.choose_spec ⟨_, rfl⟩) (pa_cons (pe_ix ix_str (pv 1) (pv 4) (fun _ _ => rfl)) pa_nil)))))
    pss_nil))))
    (pss_one (ps_ret (pv 3)))))
theorem ok_mark_of {f : Addr} {fd : FuncData} (F : FunD K "mark_of" "mark_of" (defArgs s_mark_of) (defBody s_mark_of) (defScope s_mark_of) [] [] f fd) (T : Tx K mg) : FnOk P w K mg base (L2.CX P w) 1 f fd ["letters", "number", "long"] (sp_mark_of K) := by
  refine F.ok sc_mark_of len_mark_of (fun cdv A outer s H vs Q E hr h => ⟨t_mark_of K E, ?_, pure_mark_of T.kx vs H Q E h⟩)
  have nd := sc_mark_of.nd
  have hu := hu_of hr
  have htk : Takes (cxOf (L2.CX P w) P w K mg base ["letters", "number", "long", "signs", "k", "rest"] "mark_of" (defScope s_mark_of) f cdv A outer s H E) (fun c d _ H => E c d H) := takes_of rfl rfl rfl rfl
  have hpx : Passes (L2.CX P w) (cxOf (L2.CX P w) P w K mg base ["letters", "number", "long", "signs", "k", "rest"] "mark_of" (defScope s_mark_of) f cdv A outer s H E) E := passes_call htk fun _ _ _ _ z => z
  have hps : PassesOwn (model P w) (A.deeper (envOfC "mark_of" (defScope s_mark_of) s.heap.objs.size f cdv)) (envOfC "mark_of" (defScope s_mark_of) s.heap.objs.size f cdv) (cxOf (L2.CX P w) P w K mg base ["letters", "number", "long", "signs", "k", "rest"] "mark_of" (defScope s_mark_of) f cdv A outer s H E).xe := passes_of (X := cxOf (L2.CX P w) P w K mg base ["letters", "number", "long", "signs", "k", "rest"] "mark_of" (defScope s_mark_of) f cdv A outer s H E) rfl
  exact (pss_trim (pss_cons (ps_set (i := 3) nd rfl (by first | exact Or.inl rfl | exact Or.inr rfl) (pe_lst pa_nil))
    (pss_cons (ps_for hps rfl (pi_range1 (by rfl) T.n_range (pa_cons (pv 2) pa_nil)) (pg_name (i := 4) nd rfl (by first | exact Or.inl rfl | exact Or.inr rfl))
    (pss_cons (ps_trim (ps_asg (pe_callB call_divmod (by rfl) T.n_divmod (by decide +kernel) (pa_cons (pv 1) (pa_cons (pv 0) pa_nil))) (pg_tup rfl (pgs_cons (pg_name (i := 1) nd rfl (by first | exact Or.inl rfl | exact Or.inr rfl)) (pgs_cons (pg_name (i := 5) nd rfl (by first | exact Or.inl rfl | exact Or.inr rfl)) pgs_nil)))))
    (pss_one (ps_expr (pe_bm PySem.F.plainAttrs_list PySem.F.slot_list_append PySem.F.type_list_append mt_append (pv 3) (pa_cons (pe_ix ix_str (pe_glob (by rfl) T.g_LETTERS.choose_spec ⟨_, rfl⟩) (pv 5) (fun _ _ => rfl)) pa_nil))))))
    (pss_cons (ps_expr (pe_bm0 PySem.F.plainAttrs_list PySem.F.slot_list_reverse PySem.F.type_list_reverse mt_reverse (pv 3)))
    (pss_one (ps_ret (pe_bm PySem.F.plainAttrs_str PySem.F.slot_str_rstrip PySem.F.type_str_rstrip mt_rstripChars (pe_bm PySem.F.plainAttrs_str PySem.F.slot_str_join PySem.F.type_str_join mt_join pe_str (pa_cons (pv 3) pa_nil)) (pa_cons pe_str pa_nil))))))))
theorem ok_ends_of {f : Addr} {fd : FuncData} (F : FunD K "ends_of" "ends_of" (defArgs s_ends_of) (defBody s_ends_of) (defScope s_ends_of) [] [] f fd) (T : Tx K mg) : FnOk P w K mg base (L2.CX P w) 1 f fd ["letters", "hands", "hand"] (sp_ends_of K) := by
  refine F.ok sc_ends_of len_ends_of (fun cdv A outer s H vs Q E hr h => ⟨t_ends_of K E, ?_, pure_ends_of T.kx vs H Q E h⟩)
  have nd := sc_ends_of.nd
  have hu := hu_of hr
  have htk : Takes (cxOf (L2.CX P w) P w K mg base ["letters", "hands", "hand", "k"] "ends_of" (defScope s_ends_of) f cdv A outer s H E) (fun c d _ H => E c d H) := takes_of rfl rfl rfl rfl
  have hpx : Passes (L2.CX P w) (cxOf (L2.CX P w) P w K mg base ["letters", "hands", "hand", "k"] "ends_of" (defScope s_ends_of) f cdv A outer s H E) E := passes_call htk fun _ _ _ _ z => z
  have hps : PassesOwn (model P w) (A.deeper (envOfC "ends_of" (defScope s_ends_of) s.heap.objs.size f cdv)) (envOfC "ends_of" (defScope s_ends_of) s.heap.objs.size f cdv) (cxOf (L2.CX P w) P w K mg base ["letters", "hands", "hand", "k"] "ends_of" (defScope s_ends_of) f cdv A outer s H E).xe := passes_of (X := cxOf (L2.CX P w) P w K mg base ["letters", "hands", "hand", "k"] "ends_of" (defScope s_ends_of) f cdv A outer s H E) rfl
  exact (pss_trim (pss_one (ps_ret (pe_trim (pe_bm PySem.F.plainAttrs_str PySem.F.slot_str_join PySem.F.type_str_join mt_join pe_str (pa_cons (pe_lc (own := [("k", 3)]) rfl nd (pi_range2 (by rfl) T.n_range (pa_cons pe_int (pa_cons (pv 0) pa_nil))) (blkOk_by (own := [("k", 3)]) (N := ["letters", "hands", "hand", "k"]) (sc := defScope s_ends_of) (by decide +kernel)) (fun _ _ _ _ _ => (pg_name (i := 3) nd rfl (by first | exact Or.inl rfl | exact Or.inr rfl))) (fun _ _ _ _ _ => (pts_one (pt_cmpR op_eq (pe_op op_mod (pe_op op_sub (pv 3) pe_int) (pv 1)) (pv 2) (nomark _)))) (fun _ _ _ _ _ => (pe_ix ix_str (pe_glob (by rfl) T.g_LETTERS.choose_spec ⟨_, rfl⟩) (pv 3) (fun _ _ => rfl)))) pa_nil))))))
theorem ok_numbers_between {f : Addr} {fd : FuncData} (F : FunD K "numbers_between" "numbers_between" (defArgs s_numbers_between) (defBody s_numbers_between) (defScope s_numbers_between) [] [] f fd) (T : Tx K mg) (G_whole_of : FnG P w K mg base (L2.CX P w) "whole_of" ["letters", "mark", "long"] 1 (sp_whole_of K)) : FnOk P w K mg base (L2.CX P w) 2 f fd ["letters", "low", "high", "long"] (sp_numbers_between K) := by
  refine F.ok sc_numbers_between len_numbers_between (fun cdv A outer s H vs Q E hr h => ⟨t_numbers_between K E, ?_, pure_numbers_between T.kx vs H Q E h⟩)
  have nd := sc_numbers_between.nd
  have hu := hu_of hr
  have htk : Takes (cxOf (L2.CX P w) P w K mg base ["letters", "low", "high", "long", "least", "most", "k"] "numbers_between" (defScope s_numbers_between) f cdv A outer s H E) (fun c d _ H => E c d H) := takes_of rfl rfl rfl rfl
  have hpx : Passes (L2.CX P w) (cxOf (L2.CX P w) P w K mg base ["letters", "low", "high", "long", "least", "most", "k"] "numbers_between" (defScope s_numbers_between) f cdv A outer s H E) E := passes_call htk fun _ _ _ _ z => z
  have hps : PassesOwn (model P w) (A.deeper (envOfC "numbers_between" (defScope s_numbers_between) s.heap.objs.size f cdv)) (envOfC "numbers_between" (defScope s_numbers_between) s.heap.objs.size f cdv) (cxOf (L2.CX P w) P w K mg base ["letters", "low", "high", "long", "least", "most", "k"] "numbers_between" (defScope s_numbers_between) f cdv A outer s H E).xe := passes_of (X := cxOf (L2.CX P w) P w K mg base ["letters", "low", "high", "long", "least", "most", "k"] "numbers_between" (defScope s_numbers_between) f cdv A outer s H E) rfl
  exact (pss_trim (pss_meet (ps_if (PW.pt (pw_and (pt_cmpR op_notN (pv 1) pe_non (nomark _)) (pw_and (pt_cmpR op_notN (pv 2) pe_non (nomark _)) (pw_and1 (pt_not (pt_cmpR op_lt_str (pv 1) (pv 2) (nomark _)))))))
    (pss_one (ps_raise rfl htk (pmk_own PySem.F.excBase_ValueError T.x_NoRoom T.g_NoRoom T.k_NoRoom (raises_own T.b_NoRoom T.t_NoRoom) rfl)))
    pss_nil)
    (pss_cons (ps_set (i := 4) nd rfl (by first | exact Or.inl rfl | exact Or.inr rfl) pe_int)
    (pss_meet (ps_if (pt_cmpR op_notN (pv 1) pe_non (nomark _))
    (pss_one (ps_set (i := 4) nd rfl (by first | exact Or.inl rfl | exact Or.inr rfl) (pe_op op_add (pe_G G_whole_of hr (by decide) rfl hpx (pa_cons (pv 0) (pa_cons (pv 1) (pa_cons (pv 3) pa_nil)))) pe_int)))
    pss_nil)
    (pss_cons (ps_set (i := 5) nd rfl (by first | exact Or.inl rfl | exact Or.inr rfl) pe_int)
    (pss_cons (ps_for hps rfl (pi_range1 (by rfl) T.n_range (pa_cons (pv 3) pa_nil)) (pg_name (i := 6) nd rfl (by first | exact Or.inl rfl | exact Or.inr rfl))
    (pss_one (ps_set (i := 5) nd rfl (by first | exact Or.inl rfl | exact Or.inr rfl) (pe_op op_mulW (pv 5) (pv 0)))))
    (pss_cons (ps_set (i := 5) nd rfl (by first | exact Or.inl rfl | exact Or.inr rfl) (pe_op op_sub (pv 5) pe_int))
    (pss_meet (ps_if (pt_cmpR op_notN (pv 2) pe_non (nomark _))
    (pss_cons (ps_set (i := 5) nd rfl (by first | exact Or.inl rfl | exact Or.inr rfl) (pe_G G_whole_of hr (by decide) rfl hpx (pa_cons (pv 0) (pa_cons (pv 2) (pa_cons (pv 3) pa_nil)))))
    (pss_one (ps_if (pt_cmpR op_le (pe_callB call_len_str (by rfl) T.n_len (by decide +kernel) (pa_cons (pv 2) pa_nil)) (pv 3) (nomark _))
    (pss_one (ps_set (i := 5) nd rfl (by first | exact Or.inl rfl | exact Or.inr rfl) (pe_op op_sub (pv 5) pe_int)))
    pss_nil)))
    pss_nil)
    (pss_one (ps_ret (pe_tup (pa_cons (pv 4) (pa_cons (pv 5) pa_nil)))))))))))))
theorem ok_figures_of {f : Addr} {fd : FuncData} (F : FunD K "figures_of" "figures_of" (defArgs s_figures_of) (defBody s_figures_of) (defScope s_figures_of) [] [] f fd) (T : Tx K mg) (G_ends_of : FnG P w K mg base (L2.CX P w) "ends_of" ["letters", "hands", "hand"] 1 (sp_ends_of K)) : FnOk P w K mg base (L2.CX P w) 2 f fd ["letters", "hands", "hand"] (sp_figures_of K) := by
  refine F.ok sc_figures_of len_figures_of (fun cdv A outer s H vs Q E hr h => ⟨t_figures_of K E, ?_, pure_figures_of T.kx vs H Q E h⟩)
  have nd := sc_figures_of.nd
  have hu := hu_of hr
  have htk : Takes (cxOf (L2.CX P w) P w K mg base ["letters", "hands", "hand", "sign"] "figures_of" (defScope s_figures_of) f cdv A outer s H E) (fun c d _ H => E c d H) := takes_of rfl rfl rfl rfl
  have hpx : Passes (L2.CX P w) (cxOf (L2.CX P w) P w K mg base ["letters", "hands", "hand", "sign"] "figures_of" (defScope s_figures_of) f cdv A outer s H E) E := passes_call htk fun _ _ _ _ z => z
  have hps : PassesOwn (model P w) (A.deeper (envOfC "figures_of" (defScope s_figures_of) s.heap.objs.size f cdv)) (envOfC "figures_of" (defScope s_figures_of) s.heap.objs.size f cdv) (cxOf (L2.CX P w) P w K mg base ["letters", "hands", "hand", "sign"] "figures_of" (defScope s_figures_of) f cdv A outer s H E).xe := passes_of (X := cxOf (L2.CX P w) P w K mg base ["letters", "hands", "hand", "sign"] "figures_of" (defScope s_figures_of) f cdv A outer s H E) rfl
  exact (pss_trim (pss_one (ps_ret (pe_lc (own := [("sign", 3)]) rfl nd (pi_str (pe_G G_ends_of hr (by decide) rfl hpx (pa_cons (pv 0) (pa_cons (pv 1) (pa_cons (pv 2) pa_nil))))) (blkOk_by (own := [("sign", 3)]) (N := ["letters", "hands", "hand", "sign"]) (sc := defScope s_figures_of) (by decide +kernel)) (fun _ _ _ _ _ => (pg_name (i := 3) nd rfl (by first | exact Or.inl rfl | exact Or.inr rfl))) (fun _ _ _ _ _ => pts_nil) (fun _ _ _ _ _ => (pe_bmS PySem.F.plainAttrs_str PySem.F.slot_str_index PySem.F.type_str_index (mt_indexS rfl) (pe_glob (by rfl) T.g_LETTERS.choose_spec ⟨_, rfl⟩) (pa_cons (pv 3) pa_nil)))))))
theorem ok_many_below {f : Addr} {fd : FuncData} (F : FunD K "many_below" "many_below" (defArgs s_many_below) (defBody s_many_below) (defScope s_many_below) [] [] f fd) (T : Tx K mg) : FnOk P w K mg base (L2.CX P w) 1 f fd ["letters", "figures", "number"] (sp_many_below K) := by
  refine F.ok sc_many_below len_many_below (fun cdv A outer s H vs Q E hr h => ⟨t_many_below K E, ?_, pure_many_below T.kx vs H Q E h⟩)
  have nd := sc_many_below.nd
  have hu := hu_of hr
  have htk : Takes (cxOf (L2.CX P w) P w K mg base ["letters", "figures", "number", "rounds", "rest", "one"] "many_below" (defScope s_many_below) f cdv A outer s H E) (fun c d _ H => E c d H) := takes_of rfl rfl rfl rfl
  have hpx : Passes (L2.CX P w) (cxOf (L2.CX P w) P w K mg base ["letters", "figures", "number", "rounds", "rest", "one"] "many_below" (defScope s_many_below) f cdv A outer s H E) E := passes_call htk fun _ _ _ _ z => z
  have hps : PassesOwn (model P w) (A.deeper (envOfC "many_below" (defScope s_many_below) s.heap.objs.size f cdv)) (envOfC "many_below" (defScope s_many_below) s.heap.objs.size f cdv) (cxOf (L2.CX P w) P w K mg base ["letters", "figures", "number", "rounds", "rest", "one"] "many_below" (defScope s_many_below) f cdv A outer s H E).xe := passes_of (X := cxOf (L2.CX P w) P w K mg base ["letters", "figures", "number", "rounds", "rest", "one"] "many_below" (defScope s_many_below) f cdv A outer s H E) rfl
  exact (pss_trim (pss_cons (ps_trim (ps_asg (pe_callB call_divmod (by rfl) T.n_divmod (by decide +kernel) (pa_cons (pv 2) (pa_cons (pv 0) pa_nil))) (pg_tup rfl (pgs_cons (pg_name (i := 3) nd rfl (by first | exact Or.inl rfl | exact Or.inr rfl)) (pgs_cons (pg_name (i := 4) nd rfl (by first | exact Or.inl rfl | exact Or.inr rfl)) pgs_nil)))))
    (pss_one (ps_ret (pe_trim (pe_op op_add (pe_op op_mulW (pv 3) (pe_callB call_len_seq (by rfl) T.n_len (by decide +kernel) (pa_cons (pv 1) pa_nil))) (pe_callB call_len_seq (by rfl) T.n_len (by decide +kernel) (pa_cons (pe_lc (own := [("one", 5)]) rfl nd (pi_list (pv 1)) (blkOk_by (own := [("one", 5)]) (N := ["letters", "figures", "number", "rounds", "rest", "one"]) (sc := defScope s_many_below) (by decide +kernel)) (fun _ _ _ _ _ => (pg_name (i := 5) nd rfl (by first | exact Or.inl rfl | exact Or.inr rfl))) (fun _ _ _ _ _ => (pts_one (pt_cmpR op_lt (pv 5) (pv 4) (nomark _)))) (fun _ _ _ _ _ => (pv 5))) pa_nil))))))))
theorem ok_room_at {f : Addr} {fd : FuncData} (F : FunD K "room_at" "room_at" (defArgs s_room_at) (defBody s_room_at) (defScope s_room_at) [] [] f fd) (T : Tx K mg) (G_numbers_between : FnG P w K mg base (L2.CX P w) "numbers_between" ["letters", "low", "high", "long"] 2 (sp_numbers_between K)) (G_figures_of : FnG P w K mg base (L2.CX P w) "figures_of" ["letters", "hands", "hand"] 2 (sp_figures_of K)) (G_many_below : FnG P w K mg base (L2.CX P w) "many_below" ["letters", "figures", "number"] 1 (sp_many_below K)) : FnOk P w K mg base (L2.CX P w) 3 f fd ["letters", "hands", "hand", "low", "high", "long"] (sp_room_at K) := by
  refine F.ok sc_room_at len_room_at (fun cdv A outer s H vs Q E hr h => ⟨t_room_at K E, ?_, pure_room_at T.kx vs H Q E h⟩)
  have nd := sc_room_at.nd
  have hu := hu_of hr
  have htk : Takes (cxOf (L2.CX P w) P w K mg base ["letters", "hands", "hand", "low", "high", "long", "least", "most", "figures"] "room_at" (defScope s_room_at) f cdv A outer s H E) (fun c d _ H => E c d H) := takes_of rfl rfl rfl rfl
  have hpx : Passes (L2.CX P w) (cxOf (L2.CX P w) P w K mg base ["letters", "hands", "hand", "low", "high", "long", "least", "most", "figures"] "room_at" (defScope s_room_at) f cdv A outer s H E) E := passes_call htk fun _ _ _ _ z => z
  have hps : PassesOwn (model P w) (A.deeper (envOfC "room_at" (defScope s_room_at) s.heap.objs.size f cdv)) (envOfC "room_at" (defScope s_room_at) s.heap.objs.size f cdv) (cxOf (L2.CX P w) P w K mg base ["letters", "hands", "hand", "low", "high", "long", "least", "most", "figures"] "room_at" (defScope s_room_at) f cdv A outer s H E).xe := passes_of (X := cxOf (L2.CX P w) P w K mg base ["letters", "hands", "hand", "low", "high", "long", "least", "most", "figures"] "room_at" (defScope s_room_at) f cdv A outer s H E) rfl
  exact (pss_trim (pss_cons (ps_trim (ps_asg (pe_G G_numbers_between hr (by decide) rfl hpx (pa_cons (pv 0) (pa_cons (pv 3) (pa_cons (pv 4) (pa_cons (pv 5) pa_nil))))) (pg_tup rfl (pgs_cons (pg_name (i := 6) nd rfl (by first | exact Or.inl rfl | exact Or.inr rfl)) (pgs_cons (pg_name (i := 7) nd rfl (by first | exact Or.inl rfl | exact Or.inr rfl)) pgs_nil)))))
    (pss_cons (ps_if (pt_cmpR op_lt (pv 7) (pv 6) (nomark _))
    (pss_one (ps_ret pe_int))
    pss_nil)
    (pss_cons (ps_set (i := 8) nd rfl (by first | exact Or.inl rfl | exact Or.inr rfl) (pe_G G_figures_of hr (by decide) rfl hpx (pa_cons (pv 0) (pa_cons (pv 1) (pa_cons (pv 2) pa_nil)))))
    (pss_one (ps_ret (pe_op op_sub (pe_G G_many_below hr (by decide) rfl hpx (pa_cons (pv 0) (pa_cons (pv 8) (pa_cons (pe_op op_add (pv 7) pe_int) pa_nil)))) (pe_G G_many_below hr (by decide) rfl hpx (pa_cons (pv 0) (pa_cons (pv 8) (pa_cons (pv 6) pa_nil)))))))))))
theorem ok_nth_mark {f : Addr} {fd : FuncData} (F : FunD K "nth_mark" "nth_mark" (defArgs s_nth_mark) (defBody s_nth_mark) (defScope s_nth_mark) [] [] f fd) (T : Tx K mg) (G_numbers_between : FnG P w K mg base (L2.CX P w) "numbers_between" ["letters", "low", "high", "long"] 2 (sp_numbers_between K)) (G_figures_of : FnG P w K mg base (L2.CX P w) "figures_of" ["letters", "hands", "hand"] 2 (sp_figures_of K)) (G_many_below : FnG P w K mg base (L2.CX P w) "many_below" ["letters", "figures", "number"] 1 (sp_many_below K)) (G_mark_of : FnG P w K mg base (L2.CX P w) "mark_of" ["letters", "number", "long"] 1 (sp_mark_of K)) : FnOk P w K mg base (L2.CX P w) 3 f fd ["letters", "hands", "hand", "low", "high", "long", "number"] (sp_nth_mark K) := by
  refine F.ok sc_nth_mark len_nth_mark (fun cdv A outer s H vs Q E hr h => ⟨t_nth_mark K E, ?_, pure_nth_mark T.kx vs H Q E h⟩)
  have nd := sc_nth_mark.nd
  have hu := hu_of hr
  have htk : Takes (cxOf (L2.CX P w) P w K mg base ["letters", "hands", "hand", "low", "high", "long", "number", "least", "figures", "rounds", "rest"] "nth_mark" (defScope s_nth_mark) f cdv A outer s H E) (fun c d _ H => E c d H) := takes_of rfl rfl rfl rfl
  have hpx : Passes (L2.CX P w) (cxOf (L2.CX P w) P w K mg base ["letters", "hands", "hand", "low", "high", "long", "number", "least", "figures", "rounds", "rest"] "nth_mark" (defScope s_nth_mark) f cdv A outer s H E) E := passes_call htk fun _ _ _ _ z => z
  have hps : PassesOwn (model P w) (A.deeper (envOfC "nth_mark" (defScope s_nth_mark) s.heap.objs.size f cdv)) (envOfC "nth_mark" (defScope s_nth_mark) s.heap.objs.size f cdv) (cxOf (L2.CX P w) P w K mg base ["letters", "hands", "hand", "low", "high", "long", "number", "least", "figures", "rounds", "rest"] "nth_mark" (defScope s_nth_mark) f cdv A outer s H E).xe := passes_of (X := cxOf (L2.CX P w) P w K mg base ["letters", "hands", "hand", "low", "high", "long", "number", "least", "figures", "rounds", "rest"] "nth_mark" (defScope s_nth_mark) f cdv A outer s H E) rfl
  exact (pss_trim (pss_cons (ps_set (i := 7) nd rfl (by first | exact Or.inl rfl | exact Or.inr rfl) (pe_trim (pe_ix ix_tup (pe_G G_numbers_between hr (by decide) rfl hpx (pa_cons (pv 0) (pa_cons (pv 3) (pa_cons (pv 4) (pa_cons (pv 5) pa_nil))))) pe_int (fun _ _ => rfl))))
    (pss_cons (ps_set (i := 8) nd rfl (by first | exact Or.inl rfl | exact Or.inr rfl) (pe_G G_figures_of hr (by decide) rfl hpx (pa_cons (pv 0) (pa_cons (pv 1) (pa_cons (pv 2) pa_nil)))))
    (pss_cons (ps_trim (ps_asg (pe_callB call_divmod (by rfl) T.n_divmod (by decide +kernel) (pa_cons (pe_op op_add (pe_G G_many_below hr (by decide) rfl hpx (pa_cons (pv 0) (pa_cons (pv 8) (pa_cons (pv 7) pa_nil)))) (pv 6)) (pa_cons (pe_callB call_len_seq (by rfl) T.n_len (by decide +kernel) (pa_cons (pv 8) pa_nil)) pa_nil))) (pg_tup rfl (pgs_cons (pg_name (i := 9) nd rfl (by first | exact Or.inl rfl | exact Or.inr rfl)) (pgs_cons (pg_name (i := 10) nd rfl (by first | exact Or.inl rfl | exact Or.inr rfl)) pgs_nil)))))
    (pss_one (ps_ret (pe_G G_mark_of hr (by decide) rfl hpx (pa_cons (pv 0) (pa_cons (pe_op op_add (pe_op op_mulW (pv 9) (pv 0)) (pe_ix ix_list (pv 8) (pv 10) (fun _ _ => rfl))) (pa_cons (pv 5) pa_nil))))))))))
theorem ok_least_long {f : Addr} {fd : FuncData} (F : FunD K "least_long" "least_long" (defArgs s_least_long) (defBody s_least_long) (defScope s_least_long) [] [] f fd) (T : Tx K mg) (G_room_at : FnG P w K mg base (L2.CX P w) "room_at" ["letters", "hands", "hand", "low", "high", "long"] 3 (sp_room_at K)) : FnOk P w K mg base (L2.CX P w) 4 f fd ["letters", "hands", "hand", "low", "high", "many"] (sp_least_long K) := by
  refine F.ok sc_least_long len_least_long (fun cdv A outer s H vs Q E hr h => ⟨t_least_long K E, ?_, pure_least_long T.kx vs H Q E h⟩)
  have nd := sc_least_long.nd
  have hu := hu_of hr
  have htk : Takes (cxOf (L2.CX P w) P w K mg base ["letters", "hands", "hand", "low", "high", "many", "long"] "least_long" (defScope s_least_long) f cdv A outer s H E) (fun c d _ H => E c d H) := takes_of rfl rfl rfl rfl
  have hpx : Passes (L2.CX P w) (cxOf (L2.CX P w) P w K mg base ["letters", "hands", "hand", "low", "high", "many", "long"] "least_long" (defScope s_least_long) f cdv A outer s H E) E := passes_call htk fun _ _ _ _ z => z
  have hps : PassesOwn (model P w) (A.deeper (envOfC "least_long" (defScope s_least_long) s.heap.objs.size f cdv)) (envOfC "least_long" (defScope s_least_long) s.heap.objs.size f cdv) (cxOf (L2.CX P w) P w K mg base ["letters", "hands", "hand", "low", "high", "many", "long"] "least_long" (defScope s_least_long) f cdv A outer s H E).xe := passes_of (X := cxOf (L2.CX P w) P w K mg base ["letters", "hands", "hand", "low", "high", "many", "long"] "least_long" (defScope s_least_long) f cdv A outer s H E) rfl
  exact (pss_cons (ps_set (i := 6) nd rfl (by first | exact Or.inl rfl | exact Or.inr rfl) pe_int)
    (pss_cons (ps_while hps (pt_cmpR op_lt (pe_G G_room_at hr (by decide) rfl hpx (pa_cons (pv 0) (pa_cons (pv 1) (pa_cons (pv 2) (pa_cons (pv 3) (pa_cons (pv 4) (pa_cons (pv 6) pa_nil))))))) (pv 5) (nomark _)) (pss_one (ps_set (i := 6) nd rfl (by first | exact Or.inl rfl | exact Or.inr rfl) (pe_op op_add (pv 6) pe_int))))
    (pss_one (ps_ret (pv 6)))))
theorem ok_mark_between {f : Addr} {fd : FuncData} (F : FunD K "mark_between" "mark_between" (defArgs s_mark_between) (defBody s_mark_between) (defScope s_mark_between) [] [] f fd) (T : Tx K mg) (G_least_long : FnG P w K mg base (L2.CX P w) "least_long" ["letters", "hands", "hand", "low", "high", "many"] 4 (sp_least_long K)) (G_room_at : FnG P w K mg base (L2.CX P w) "room_at" ["letters", "hands", "hand", "low", "high", "long"] 3 (sp_room_at K)) (G_nth_mark : FnG P w K mg base (L2.CX P w) "nth_mark" ["letters", "hands", "hand", "low", "high", "long", "number"] 3 (sp_nth_mark K)) : FnOk P w K mg base (L2.CX P w) 5 f fd ["letters", "hands", "hand", "low", "high"] (sp_mark_between K) := by
  refine F.ok sc_mark_between len_mark_between (fun cdv A outer s H vs Q E hr h => ⟨t_mark_between K E, ?_, pure_mark_between T.kx vs H Q E h⟩)
  have nd := sc_mark_between.nd
  have hu := hu_of hr
  have htk : Takes (cxOf (L2.CX P w) P w K mg base ["letters", "hands", "hand", "low", "high", "long", "many", "number"] "mark_between" (defScope s_mark_between) f cdv A outer s H E) (fun c d _ H => E c d H) := takes_of rfl rfl rfl rfl
  have hpx : Passes (L2.CX P w) (cxOf (L2.CX P w) P w K mg base ["letters", "hands", "hand", "low", "high", "long", "many", "number"] "mark_between" (defScope s_mark_between) f cdv A outer s H E) E := passes_call htk fun _ _ _ _ z => z
  have hps : PassesOwn (model P w) (A.deeper (envOfC "mark_between" (defScope s_mark_between) s.heap.objs.size f cdv)) (envOfC "mark_between" (defScope s_mark_between) s.heap.objs.size f cdv) (cxOf (L2.CX P w) P w K mg base ["letters", "hands", "hand", "low", "high", "long", "many", "number"] "mark_between" (defScope s_mark_between) f cdv A outer s H E).xe := passes_of (X := cxOf (L2.CX P w) P w K mg base ["letters", "hands", "hand", "low", "high", "long", "many", "number"] "mark_between" (defScope s_mark_between) f cdv A outer s H E) rfl
  exact (pss_cons (ps_set (i := 5) nd rfl (by first | exact Or.inl rfl | exact Or.inr rfl) (pe_G G_least_long hr (by decide) rfl hpx (pa_cons (pv 0) (pa_cons (pv 1) (pa_cons (pv 2) (pa_cons (pv 3) (pa_cons (pv 4) (pa_cons pe_int pa_nil))))))))
    (pss_cons (ps_set (i := 6) nd rfl (by first | exact Or.inl rfl | exact Or.inr rfl) (pe_G G_room_at hr (by decide) rfl hpx (pa_cons (pv 0) (pa_cons (pv 1) (pa_cons (pv 2) (pa_cons (pv 3) (pa_cons (pv 4) (pa_cons (pv 5) pa_nil))))))))
    (pss_cons (ps_set (i := 7) nd rfl (by first | exact Or.inl rfl | exact Or.inr rfl) (pe_op op_fdivW (pe_op op_sub (pv 6) pe_int) pe_int))
    (pss_meet (ps_if (PW.pt (pw_and (pt_cmpR op_isN (pv 4) pe_non (nomark _)) (pw_and1 (pt_cmpR op_notN (pv 3) pe_non (nomark _)))))
    (pss_one (ps_set (i := 7) nd rfl (by first | exact Or.inl rfl | exact Or.inr rfl) pe_int))
    pss_nil)
    (pss_meet (ps_if (PW.pt (pw_and (pt_cmpR op_isN (pv 3) pe_non (nomark _)) (pw_and1 (pt_cmpR op_notN (pv 4) pe_non (nomark _)))))
    (pss_one (ps_set (i := 7) nd rfl (by first | exact Or.inl rfl | exact Or.inr rfl) (pe_op op_sub (pv 6) pe_int)))
    pss_nil)
    (pss_one (ps_ret (pe_G G_nth_mark hr (by decide) rfl hpx (pa_cons (pv 0) (pa_cons (pv 1) (pa_cons (pv 2) (pa_cons (pv 3) (pa_cons (pv 4) (pa_cons (pv 5) (pa_cons (pv 7) pa_nil)))))))))))))))
theorem ok_renewed_long {f : Addr} {fd : FuncData} (F : FunD K "renewed_long" "renewed_long" (defArgs s_renewed_long) (defBody s_renewed_long) (defScope s_renewed_long) [] [] f fd) (T : Tx K mg) : FnOk P w K mg base (L2.CX P w) 1 f fd ["letters", "many"] (sp_renewed_long K) := by
  refine F.ok sc_renewed_long len_renewed_long (fun cdv A outer s H vs Q E hr h => ⟨t_renewed_long K E, ?_, pure_renewed_long T.kx vs H Q E h⟩)
  have nd := sc_renewed_long.nd
  have hu := hu_of hr
  have htk : Takes (cxOf (L2.CX P w) P w K mg base ["letters", "many", "long", "count"] "renewed_long" (defScope s_renewed_long) f cdv A outer s H E) (fun c d _ H => E c d H) := takes_of rfl rfl rfl rfl
  have hpx : Passes (L2.CX P w) (cxOf (L2.CX P w) P w K mg base ["letters", "many", "long", "count"] "renewed_long" (defScope s_renewed_long) f cdv A outer s H E) E := passes_call htk fun _ _ _ _ z => z
  have hps : PassesOwn (model P w) (A.deeper (envOfC "renewed_long" (defScope s_renewed_long) s.heap.objs.size f cdv)) (envOfC "renewed_long" (defScope s_renewed_long) s.heap.objs.size f cdv) (cxOf (L2.CX P w) P w K mg base ["letters", "many", "long", "count"] "renewed_long" (defScope s_renewed_long) f cdv A outer s H E).xe := passes_of (X := cxOf (L2.CX P w) P w K mg base ["letters", "many", "long", "count"] "renewed_long" (defScope s_renewed_long) f cdv A outer s H E) rfl
  exact (pss_cons (ps_set (i := 2) nd rfl (by first | exact Or.inl rfl | exact Or.inr rfl) pe_int)
    (pss_cons (ps_set (i := 3) nd rfl (by first | exact Or.inl rfl | exact Or.inr rfl) pe_int)
    (pss_cons (ps_while hps (pt_cmpR op_lt (pe_op op_sub (pv 3) pe_int) (pv 1) (nomark _)) (pss_cons (ps_set (i := 2) nd rfl (by first | exact Or.inl rfl | exact Or.inr rfl) (pe_op op_add (pv 2) pe_int))
    (pss_one (ps_set (i := 3) nd rfl (by first | exact Or.inl rfl | exact Or.inr rfl) (pe_op op_mulW (pv 3) (pv 0))))))
    (pss_one (ps_ret (pv 2))))))
theorem ok_renewed {f : Addr} {fd : FuncData} (F : FunD K "renewed" "renewed" (defArgs s_renewed) (defBody s_renewed) (defScope s_renewed) [] [] f fd) (T : Tx K mg) (G_renewed_long : FnG P w K mg base (L2.CX P w) "renewed_long" ["letters", "many"] 1 (sp_renewed_long K)) (G_mark_of : FnG P w K mg base (L2.CX P w) "mark_of" ["letters", "number", "long"] 1 (sp_mark_of K)) : FnOk P w K mg base (L2.CX P w) 2 f fd ["letters", "many"] (sp_renewed K) := by
  refine F.ok sc_renewed len_renewed (fun cdv A outer s H vs Q E hr h => ⟨t_renewed K E, ?_, pure_renewed T.kx vs H Q E h⟩)
  have nd := sc_renewed.nd
  have hu := hu_of hr
  have htk : Takes (cxOf (L2.CX P w) P w K mg base ["letters", "many", "long", "count", "k"] "renewed" (defScope s_renewed) f cdv A outer s H E) (fun c d _ H => E c d H) := takes_of rfl rfl rfl rfl
  have hpx : Passes (L2.CX P w) (cxOf (L2.CX P w) P w K mg base ["letters", "many", "long", "count", "k"] "renewed" (defScope s_renewed) f cdv A outer s H E) E := passes_call htk fun _ _ _ _ z => z
  have hps : PassesOwn (model P w) (A.deeper (envOfC "renewed" (defScope s_renewed) s.heap.objs.size f cdv)) (envOfC "renewed" (defScope s_renewed) s.heap.objs.size f cdv) (cxOf (L2.CX P w) P w K mg base ["letters", "many", "long", "count", "k"] "renewed" (defScope s_renewed) f cdv A outer s H E).xe := passes_of (X := cxOf (L2.CX P w) P w K mg base ["letters", "many", "long", "count", "k"] "renewed" (defScope s_renewed) f cdv A outer s H E) rfl
  exact (pss_trim (pss_cons (ps_set (i := 2) nd rfl (by first | exact Or.inl rfl | exact Or.inr rfl) (pe_G G_renewed_long hr (by decide) rfl hpx (pa_cons (pv 0) (pa_cons (pv 1) pa_nil))))
    (pss_cons (ps_set (i := 3) nd rfl (by first | exact Or.inl rfl | exact Or.inr rfl) pe_int)
    (pss_cons (ps_for hps rfl (pi_range1 (by rfl) T.n_range (pa_cons (pv 2) pa_nil)) (pg_name (i := 4) nd rfl (by first | exact Or.inl rfl | exact Or.inr rfl))
    (pss_one (ps_set (i := 3) nd rfl (by first | exact Or.inl rfl | exact Or.inr rfl) (pe_op op_mulW (pv 3) (pv 0)))))
    (pss_one (ps_ret (pe_lc (own := [("k", 4)]) rfl nd (pi_range1 (by rfl) T.n_range (pa_cons (pv 1) pa_nil)) (blkOk_by (own := [("k", 4)]) (N := ["letters", "many", "long", "count", "k"]) (sc := defScope s_renewed) (by decide +kernel)) (fun _ _ _ _ _ => (pg_name (i := 4) nd rfl (by first | exact Or.inl rfl | exact Or.inr rfl))) (fun _ _ _ _ _ => pts_nil) (fun _ _ _ _ _ => (pe_G G_mark_of hr (by decide) rfl passL (pa_cons (pv 0) (pa_cons (pe_op op_fdivW (pe_op op_mulW (pe_op op_add (pv 4) pe_int) (pv 3)) (pe_op op_add (pv 1) pe_int)) (pa_cons (pv 2) pa_nil))))))))))))
theorem ok_is_thing {f : Addr} {fd : FuncData} (F : FunD K "is_thing" "is_thing" (defArgs s_is_thing) (defBody s_is_thing) (defScope s_is_thing) [] [] f fd) (T : Tx K mg) : FnOk P w K mg base (L2.CX P w) 1 f fd ["text"] (sp_is_thing K) := by
  refine F.ok sc_is_thing len_is_thing (fun cdv A outer s H vs Q E hr h => ⟨t_is_thing K E, ?_, pure_is_thing T.kx vs H Q E h⟩)
  have nd := sc_is_thing.nd
  have hu := hu_of hr
  have htk : Takes (cxOf (L2.CX P w) P w K mg base ["text", "sign"] "is_thing" (defScope s_is_thing) f cdv A outer s H E) (fun c d _ H => E c d H) := takes_of rfl rfl rfl rfl
  have hpx : Passes (L2.CX P w) (cxOf (L2.CX P w) P w K mg base ["text", "sign"] "is_thing" (defScope s_is_thing) f cdv A outer s H E) E := passes_call htk fun _ _ _ _ z => z
  have hps : PassesOwn (model P w) (A.deeper (envOfC "is_thing" (defScope s_is_thing) s.heap.objs.size f cdv)) (envOfC "is_thing" (defScope s_is_thing) s.heap.objs.size f cdv) (cxOf (L2.CX P w) P w K mg base ["text", "sign"] "is_thing" (defScope s_is_thing) f cdv A outer s H E).xe := passes_of (X := cxOf (L2.CX P w) P w K mg base ["text", "sign"] "is_thing" (defScope s_is_thing) f cdv A outer s H E) rfl
  exact (pss_cons (ps_if (PW.pt (pw_or (pt_cmpR op_eq (pe_callB call_len_str (by rfl) T.n_len (by decide +kernel) (pa_cons (pv 0) pa_nil)) pe_int (nomark _)) (pw_or1 (pt_cmpR op_gt (pe_callB call_len_str (by rfl) T.n_len (by decide +kernel) (pa_cons (pv 0) pa_nil)) (pe_glob (by rfl) T.g_LONGEST_THING.choose_spec ⟨_, rfl⟩) (nomark _)))))
    (pss_one (ps_ret pe_bl))
    pss_nil)
    (pss_cons (ps_for hps rfl (pi_str (pv 0)) (pg_name (i := 1) nd rfl (by first | exact Or.inl rfl | exact Or.inr rfl))
    (pss_one (ps_if (pt_cmpR op_notIn_sign (pv 1) (pe_glob (by rfl) T.g_SIGNS.choose_spec ⟨_, rfl⟩) (by rfl))
    (pss_one (ps_ret pe_bl))
    pss_nil)))
    (pss_one (ps_ret pe_bl))))
theorem ok_Shelf___init__ {f : Addr} {fd : FuncData} (F : FunD K "__init__" "Shelf.__init__" (defArgs s_Shelf___init__) (defBody s_Shelf___init__) (defScope s_Shelf___init__) [] [] f fd) (T : Tx K mg) (G_ask_letters : FnG P w K mg base (L2.CX P w) "ask_letters" ["letters", "hands"] 1 (sp_ask_letters K)) : FnOk P w K mg base (L2.CX P w) 2 f fd ["self", "letters"] (sp_Shelf___init__ K) := by
  refine F.ok sc_Shelf___init__ len_Shelf___init__ (fun cdv A outer s H vs Q E hr h => ⟨t_Shelf___init__ K E, ?_, pure_Shelf___init__ T.kx vs H Q E h⟩)
  have nd := sc_Shelf___init__.nd
  have hu := hu_of hr
  have htk : Takes (cxOf (L2.CX P w) P w K mg base ["self", "letters"] "Shelf.__init__" (defScope s_Shelf___init__) f cdv A outer s H E) (fun c d _ H => E c d H) := takes_of rfl rfl rfl rfl
  have hpx : Passes (L2.CX P w) (cxOf (L2.CX P w) P w K mg base ["self", "letters"] "Shelf.__init__" (defScope s_Shelf___init__) f cdv A outer s H E) E := passes_call htk fun _ _ _ _ z => z
  have hps : PassesOwn (model P w) (A.deeper (envOfC "Shelf.__init__" (defScope s_Shelf___init__) s.heap.objs.size f cdv)) (envOfC "Shelf.__init__" (defScope s_Shelf___init__) s.heap.objs.size f cdv) (cxOf (L2.CX P w) P w K mg base ["self", "letters"] "Shelf.__init__" (defScope s_Shelf___init__) f cdv A outer s H E).xe := passes_of (X := cxOf (L2.CX P w) P w K mg base ["self", "letters"] "Shelf.__init__" (defScope s_Shelf___init__) f cdv A outer s H E) rfl
  exact (pss_trim (pss_cons (ps_expr (pe_G G_ask_letters hr (by decide) rfl hpx (pa_cons (pv 1) (pa_cons pe_int pa_nil))))
    (pss_cons (ps_fld (pv 0) (pv 1) rfl)
    (pss_cons (ps_fld (pv 0) (pe_lst pa_nil) rfl)
    (pss_one (ps_fld (pv 0) (pe_lst pa_nil) rfl))))))
theorem ok_Shelf_ask_put {f : Addr} {fd : FuncData} (F : FunD K "ask_put" "Shelf.ask_put" (defArgs s_Shelf_ask_put) (defBody s_Shelf_ask_put) (defScope s_Shelf_ask_put) [] [] f fd) (T : Tx K mg) (G_is_thing : FnG P w K mg base (L2.CX P w) "is_thing" ["text"] 1 (sp_is_thing K)) : FnOk P w K mg base (L2.CX P w) 2 f fd ["self", "place", "some"] (sp_Shelf_ask_put K) := by
  refine F.ok sc_Shelf_ask_put len_Shelf_ask_put (fun cdv A outer s H vs Q E hr h => ⟨t_Shelf_ask_put K E, ?_, pure_Shelf_ask_put T.kx vs H Q E h⟩)
  have nd := sc_Shelf_ask_put.nd
  have hu := hu_of hr
  have htk : Takes (cxOf (L2.CX P w) P w K mg base ["self", "place", "some", "thing"] "Shelf.ask_put" (defScope s_Shelf_ask_put) f cdv A outer s H E) (fun c d _ H => E c d H) := takes_of rfl rfl rfl rfl
  have hpx : Passes (L2.CX P w) (cxOf (L2.CX P w) P w K mg base ["self", "place", "some", "thing"] "Shelf.ask_put" (defScope s_Shelf_ask_put) f cdv A outer s H E) E := passes_call htk fun _ _ _ _ z => z
  have hps : PassesOwn (model P w) (A.deeper (envOfC "Shelf.ask_put" (defScope s_Shelf_ask_put) s.heap.objs.size f cdv)) (envOfC "Shelf.ask_put" (defScope s_Shelf_ask_put) s.heap.objs.size f cdv) (cxOf (L2.CX P w) P w K mg base ["self", "place", "some", "thing"] "Shelf.ask_put" (defScope s_Shelf_ask_put) f cdv A outer s H E).xe := passes_of (X := cxOf (L2.CX P w) P w K mg base ["self", "place", "some", "thing"] "Shelf.ask_put" (defScope s_Shelf_ask_put) f cdv A outer s H E) rfl
  exact (pss_cons (ps_if (PW.pt (pw_or (pt_cmpR op_eq (pe_callB call_len_seq (by rfl) T.n_len (by decide +kernel) (pa_cons (pv 2) pa_nil)) pe_int (nomark _)) (pw_or1 (pt_cmpR op_gt (pe_op op_add (pe_callB call_len_seq (by rfl) T.n_len (by decide +kernel) (pa_cons (pe_fld (pv 0) rfl) pa_nil)) (pe_callB call_len_seq (by rfl) T.n_len (by decide +kernel) (pa_cons (pv 2) pa_nil))) (pe_glob (by rfl) T.g_MOST_THINGS.choose_spec ⟨_, rfl⟩) (nomark _)))))
    (pss_one (ps_raise rfl htk (pmk_own PySem.F.excBase_ValueError T.x_NoThing T.g_NoThing T.k_NoThing (raises_own T.b_NoThing T.t_NoThing) rfl)))
    pss_nil)
    (pss_cons (ps_for hps rfl (pi_list (pv 2)) (pg_name (i := 3) nd rfl (by first | exact Or.inl rfl | exact Or.inr rfl))
    (pss_one (ps_if (pt_not (pt_val (pe_G G_is_thing hr (by decide) rfl hpx (pa_cons (pv 3) pa_nil))))
    (pss_one (ps_raise rfl htk (pmk_own PySem.F.excBase_ValueError T.x_NoThing T.g_NoThing T.k_NoThing (raises_own T.b_NoThing T.t_NoThing) rfl)))
    pss_nil)))
    (pss_one (ps_if (PW.pt (pw_or (pt_cmpR op_lt (pv 1) pe_int (nomark _)) (pw_or1 (pt_cmpR op_gt (pv 1) (pe_callB call_len_seq (by rfl) T.n_len (by decide +kernel) (pa_cons (pe_fld (pv 0) rfl) pa_nil)) (nomark _)))))
    (pss_one (ps_raise rfl htk (pmk_own PySem.F.excBase_ValueError T.x_NoPlace T.g_NoPlace T.k_NoPlace (raises_own T.b_NoPlace T.t_NoPlace) rfl)))
    pss_nil))))
theorem ok_Shelf_marks_round {f : Addr} {fd : FuncData} (F : FunD K "marks_round" "Shelf.marks_round" (defArgs s_Shelf_marks_round) (defBody s_Shelf_marks_round) (defScope s_Shelf_marks_round) [] [] f fd) (T : Tx K mg) : FnOk P w K mg base (L2.CX P w) 1 f fd ["self", "place"] (sp_Shelf_marks_round K) := by
  refine F.ok sc_Shelf_marks_round len_Shelf_marks_round (fun cdv A outer s H vs Q E hr h => ⟨t_Shelf_marks_round K E, ?_, pure_Shelf_marks_round T.kx vs H Q E h⟩)
  have nd := sc_Shelf_marks_round.nd
  have hu := hu_of hr
  have htk : Takes (cxOf (L2.CX P w) P w K mg base ["self", "place", "low", "high"] "Shelf.marks_round" (defScope s_Shelf_marks_round) f cdv A outer s H E) (fun c d _ H => E c d H) := takes_of rfl rfl rfl rfl
  have hpx : Passes (L2.CX P w) (cxOf (L2.CX P w) P w K mg base ["self", "place", "low", "high"] "Shelf.marks_round" (defScope s_Shelf_marks_round) f cdv A outer s H E) E := passes_call htk fun _ _ _ _ z => z
  have hps : PassesOwn (model P w) (A.deeper (envOfC "Shelf.marks_round" (defScope s_Shelf_marks_round) s.heap.objs.size f cdv)) (envOfC "Shelf.marks_round" (defScope s_Shelf_marks_round) s.heap.objs.size f cdv) (cxOf (L2.CX P w) P w K mg base ["self", "place", "low", "high"] "Shelf.marks_round" (defScope s_Shelf_marks_round) f cdv A outer s H E).xe := passes_of (X := cxOf (L2.CX P w) P w K mg base ["self", "place", "low", "high"] "Shelf.marks_round" (defScope s_Shelf_marks_round) f cdv A outer s H E) rfl
  exact (pss_trim (pss_cons (ps_set (i := 2) nd rfl (by first | exact Or.inl rfl | exact Or.inr rfl) pe_non)
    (pss_cons (ps_set (i := 3) nd rfl (by first | exact Or.inl rfl | exact Or.inr rfl) pe_non)
    (pss_meet (ps_if (pt_cmpR op_gt (pv 1) pe_int (nomark _))
    (pss_one (ps_set (i := 2) nd rfl (by first | exact Or.inl rfl | exact Or.inr rfl) (pe_ix ix_list (pe_fld (pv 0) rfl) (pe_op op_sub (pv 1) pe_int) (fun _ _ => rfl))))
    pss_nil)
    (pss_meet (ps_if (pt_cmpR op_lt (pv 1) (pe_callB call_len_seq (by rfl) T.n_len (by decide +kernel) (pa_cons (pe_fld (pv 0) rfl) pa_nil)) (nomark _))
    (pss_one (ps_set (i := 3) nd rfl (by first | exact Or.inl rfl | exact Or.inr rfl) (pe_ix ix_list (pe_fld (pv 0) rfl) (pv 1) (fun _ _ => rfl))))
    pss_nil)
    (pss_one (ps_ret (pe_tup (pa_cons (pv 2) (pa_cons (pv 3) pa_nil))))))))))
theorem ok_Shelf_put {f : Addr} {fd : FuncData} (F : FunD K "put" "Shelf.put" (defArgs s_Shelf_put) (defBody s_Shelf_put) (defScope s_Shelf_put) [] [] f fd) (T : Tx K mg) (G_Shelf_ask_put : FnM P w K mg base (L2.CX P w) (He.ga K "Shelf") "ask_put" ["self", "place", "some"] 2 (sp_Shelf_ask_put K)) (G_Shelf_marks_round : FnM P w K mg base (L2.CX P w) (He.ga K "Shelf") "marks_round" ["self", "place"] 1 (sp_Shelf_marks_round K)) (G_mark_between : FnG P w K mg base (L2.CX P w) "mark_between" ["letters", "hands", "hand", "low", "high"] 5 (sp_mark_between K)) : FnOk P w K mg base (L2.CX P w) 6 f fd ["self", "place", "thing"] (sp_Shelf_put K) := by
  refine F.ok sc_Shelf_put len_Shelf_put (fun cdv A outer s H vs Q E hr h => ⟨t_Shelf_put K E, ?_, pure_Shelf_put T.kx vs H Q E h⟩)
  have nd := sc_Shelf_put.nd
  have hu := hu_of hr
  have htk : Takes (cxOf (L2.CX P w) P w K mg base ["self", "place", "thing", "low", "high", "mark"] "Shelf.put" (defScope s_Shelf_put) f cdv A outer s H E) (fun c d _ H => E c d H) := takes_of rfl rfl rfl rfl
  have hpx : Passes (L2.CX P w) (cxOf (L2.CX P w) P w K mg base ["self", "place", "thing", "low", "high", "mark"] "Shelf.put" (defScope s_Shelf_put) f cdv A outer s H E) E := passes_call htk fun _ _ _ _ z => z
  have hps : PassesOwn (model P w) (A.deeper (envOfC "Shelf.put" (defScope s_Shelf_put) s.heap.objs.size f cdv)) (envOfC "Shelf.put" (defScope s_Shelf_put) s.heap.objs.size f cdv) (cxOf (L2.CX P w) P w K mg base ["self", "place", "thing", "low", "high", "mark"] "Shelf.put" (defScope s_Shelf_put) f cdv A outer s H E).xe := passes_of (X := cxOf (L2.CX P w) P w K mg base ["self", "place", "thing", "low", "high", "mark"] "Shelf.put" (defScope s_Shelf_put) f cdv A outer s H E) rfl
  exact (pss_trim (pss_cons (ps_expr (pe_trim (pe_Gm G_Shelf_ask_put hr (by decide) (pv 0) T.kx.c_Shelf hpx (pa_cons (pv 1) (pa_cons (pe_lst (pa_cons (pv 2) pa_nil)) pa_nil)))))
    (pss_cons (ps_trim (ps_asg (pe_Gm G_Shelf_marks_round hr (by decide) (pv 0) T.kx.c_Shelf hpx (pa_cons (pv 1) pa_nil)) (pg_tup rfl (pgs_cons (pg_name (i := 3) nd rfl (by first | exact Or.inl rfl | exact Or.inr rfl)) (pgs_cons (pg_name (i := 4) nd rfl (by first | exact Or.inl rfl | exact Or.inr rfl)) pgs_nil)))))
    (pss_cons (ps_set (i := 5) nd rfl (by first | exact Or.inl rfl | exact Or.inr rfl) (pe_G G_mark_between hr (by decide) rfl hpx (pa_cons (pe_fld (pv 0) rfl) (pa_cons pe_int (pa_cons pe_int (pa_cons (pv 3) (pa_cons (pv 4) pa_nil)))))))
    (pss_cons (ps_expr (pe_bm PySem.F.plainAttrs_list PySem.F.slot_list_insert PySem.F.type_list_insert mt_insert (pe_fld (pv 0) rfl) (pa_cons (pv 1) (pa_cons (pv 2) pa_nil))))
    (pss_cons (ps_expr (pe_bm PySem.F.plainAttrs_list PySem.F.slot_list_insert PySem.F.type_list_insert mt_insert (pe_fld (pv 0) rfl) (pa_cons (pv 1) (pa_cons (pv 5) pa_nil))))
    (pss_one (ps_ret (pv 5)))))))))
theorem ok_Shelf_take {f : Addr} {fd : FuncData} (F : FunD K "take" "Shelf.take" (defArgs s_Shelf_take) (defBody s_Shelf_take) (defScope s_Shelf_take) [] [] f fd) (T : Tx K mg) : FnOk P w K mg base (L2.CX P w) 1 f fd ["self", "place"] (sp_Shelf_take K) := by
  refine F.ok sc_Shelf_take len_Shelf_take (fun cdv A outer s H vs Q E hr h => ⟨t_Shelf_take K E, ?_, pure_Shelf_take T.kx vs H Q E h⟩)
  have nd := sc_Shelf_take.nd
  have hu := hu_of hr
  have htk : Takes (cxOf (L2.CX P w) P w K mg base ["self", "place"] "Shelf.take" (defScope s_Shelf_take) f cdv A outer s H E) (fun c d _ H => E c d H) := takes_of rfl rfl rfl rfl
  have hpx : Passes (L2.CX P w) (cxOf (L2.CX P w) P w K mg base ["self", "place"] "Shelf.take" (defScope s_Shelf_take) f cdv A outer s H E) E := passes_call htk fun _ _ _ _ z => z
  have hps : PassesOwn (model P w) (A.deeper (envOfC "Shelf.take" (defScope s_Shelf_take) s.heap.objs.size f cdv)) (envOfC "Shelf.take" (defScope s_Shelf_take) s.heap.objs.size f cdv) (cxOf (L2.CX P w) P w K mg base ["self", "place"] "Shelf.take" (defScope s_Shelf_take) f cdv A outer s H E).xe := passes_of (X := cxOf (L2.CX P w) P w K mg base ["self", "place"] "Shelf.take" (defScope s_Shelf_take) f cdv A outer s H E) rfl
  exact (pss_cons (ps_if (PW.pt (pw_or (pt_cmpR op_lt (pv 1) pe_int (nomark _)) (pw_or1 (pt_cmpR op_ge (pv 1) (pe_callB call_len_seq (by rfl) T.n_len (by decide +kernel) (pa_cons (pe_fld (pv 0) rfl) pa_nil)) (nomark _)))))
    (pss_one (ps_raise rfl htk (pmk_own PySem.F.excBase_ValueError T.x_NoPlace T.g_NoPlace T.k_NoPlace (raises_own T.b_NoPlace T.t_NoPlace) rfl)))
    pss_nil)
    (pss_cons (ps_expr (pe_bm PySem.F.plainAttrs_list PySem.F.slot_list_pop PySem.F.type_list_pop mt_popAt (pe_fld (pv 0) rfl) (pa_cons (pv 1) pa_nil)))
    (pss_one (ps_ret (pe_bm PySem.F.plainAttrs_list PySem.F.slot_list_pop PySem.F.type_list_pop mt_popAt (pe_fld (pv 0) rfl) (pa_cons (pv 1) pa_nil))))))
theorem ok_Shelf_renew {f : Addr} {fd : FuncData} (F : FunD K "renew" "Shelf.renew" (defArgs s_Shelf_renew) (defBody s_Shelf_renew) (defScope s_Shelf_renew) [] [] f fd) (T : Tx K mg) (G_renewed : FnG P w K mg base (L2.CX P w) "renewed" ["letters", "many"] 2 (sp_renewed K)) : FnOk P w K mg base (L2.CX P w) 3 f fd ["self"] (sp_Shelf_renew K) := by
  refine F.ok sc_Shelf_renew len_Shelf_renew (fun cdv A outer s H vs Q E hr h => ⟨t_Shelf_renew K E, ?_, pure_Shelf_renew T.kx vs H Q E h⟩)
  have nd := sc_Shelf_renew.nd
  have hu := hu_of hr
  have htk : Takes (cxOf (L2.CX P w) P w K mg base ["self"] "Shelf.renew" (defScope s_Shelf_renew) f cdv A outer s H E) (fun c d _ H => E c d H) := takes_of rfl rfl rfl rfl
  have hpx : Passes (L2.CX P w) (cxOf (L2.CX P w) P w K mg base ["self"] "Shelf.renew" (defScope s_Shelf_renew) f cdv A outer s H E) E := passes_call htk fun _ _ _ _ z => z
  have hps : PassesOwn (model P w) (A.deeper (envOfC "Shelf.renew" (defScope s_Shelf_renew) s.heap.objs.size f cdv)) (envOfC "Shelf.renew" (defScope s_Shelf_renew) s.heap.objs.size f cdv) (cxOf (L2.CX P w) P w K mg base ["self"] "Shelf.renew" (defScope s_Shelf_renew) f cdv A outer s H E).xe := passes_of (X := cxOf (L2.CX P w) P w K mg base ["self"] "Shelf.renew" (defScope s_Shelf_renew) f cdv A outer s H E) rfl
  exact (pss_trim (pss_cons (ps_fld (pv 0) (pe_G G_renewed hr (by decide) rfl hpx (pa_cons (pe_fld (pv 0) rfl) (pa_cons (pe_callB call_len_seq (by rfl) T.n_len (by decide +kernel) (pa_cons (pe_fld (pv 0) rfl) pa_nil)) pa_nil))) rfl)
    (pss_one (ps_ret (pe_callTy call_list_of (by rfl) T.n_list (by decide +kernel) (pa_cons (pe_fld (pv 0) rfl) pa_nil))))))
theorem ok_Shelf_marks {f : Addr} {fd : FuncData} (F : FunD K "marks" "Shelf.marks" (defArgs s_Shelf_marks) (defBody s_Shelf_marks) (defScope s_Shelf_marks) [] [] f fd) (T : Tx K mg) : FnOk P w K mg base (L2.CX P w) 1 f fd ["self"] (sp_Shelf_marks K) := by
  refine F.ok sc_Shelf_marks len_Shelf_marks (fun cdv A outer s H vs Q E hr h => ⟨t_Shelf_marks K E, ?_, pure_Shelf_marks T.kx vs H Q E h⟩)
  have nd := sc_Shelf_marks.nd
  have hu := hu_of hr
  have htk : Takes (cxOf (L2.CX P w) P w K mg base ["self"] "Shelf.marks" (defScope s_Shelf_marks) f cdv A outer s H E) (fun c d _ H => E c d H) := takes_of rfl rfl rfl rfl
  have hpx : Passes (L2.CX P w) (cxOf (L2.CX P w) P w K mg base ["self"] "Shelf.marks" (defScope s_Shelf_marks) f cdv A outer s H E) E := passes_call htk fun _ _ _ _ z => z
  have hps : PassesOwn (model P w) (A.deeper (envOfC "Shelf.marks" (defScope s_Shelf_marks) s.heap.objs.size f cdv)) (envOfC "Shelf.marks" (defScope s_Shelf_marks) s.heap.objs.size f cdv) (cxOf (L2.CX P w) P w K mg base ["self"] "Shelf.marks" (defScope s_Shelf_marks) f cdv A outer s H E).xe := passes_of (X := cxOf (L2.CX P w) P w K mg base ["self"] "Shelf.marks" (defScope s_Shelf_marks) f cdv A outer s H E) rfl
  exact (pss_trim (pss_one (ps_ret (pe_callTy call_list_of (by rfl) T.n_list (by decide +kernel) (pa_cons (pe_fld (pv 0) rfl) pa_nil)))))
theorem ok_Shelf_things {f : Addr} {fd : FuncData} (F : FunD K "things" "Shelf.things" (defArgs s_Shelf_things) (defBody s_Shelf_things) (defScope s_Shelf_things) [] [] f fd) (T : Tx K mg) : FnOk P w K mg base (L2.CX P w) 1 f fd ["self"] (sp_Shelf_things K) := by
  refine F.ok sc_Shelf_things len_Shelf_things (fun cdv A outer s H vs Q E hr h => ⟨t_Shelf_things K E, ?_, pure_Shelf_things T.kx vs H Q E h⟩)
  have nd := sc_Shelf_things.nd
  have hu := hu_of hr
  have htk : Takes (cxOf (L2.CX P w) P w K mg base ["self"] "Shelf.things" (defScope s_Shelf_things) f cdv A outer s H E) (fun c d _ H => E c d H) := takes_of rfl rfl rfl rfl
  have hpx : Passes (L2.CX P w) (cxOf (L2.CX P w) P w K mg base ["self"] "Shelf.things" (defScope s_Shelf_things) f cdv A outer s H E) E := passes_call htk fun _ _ _ _ z => z
  have hps : PassesOwn (model P w) (A.deeper (envOfC "Shelf.things" (defScope s_Shelf_things) s.heap.objs.size f cdv)) (envOfC "Shelf.things" (defScope s_Shelf_things) s.heap.objs.size f cdv) (cxOf (L2.CX P w) P w K mg base ["self"] "Shelf.things" (defScope s_Shelf_things) f cdv A outer s H E).xe := passes_of (X := cxOf (L2.CX P w) P w K mg base ["self"] "Shelf.things" (defScope s_Shelf_things) f cdv A outer s H E) rfl
  exact (pss_trim (pss_one (ps_ret (pe_callTy call_list_of (by rfl) T.n_list (by decide +kernel) (pa_cons (pe_fld (pv 0) rfl) pa_nil)))))
theorem ok_Shelf_longest {f : Addr} {fd : FuncData} (F : FunD K "longest" "Shelf.longest" (defArgs s_Shelf_longest) (defBody s_Shelf_longest) (defScope s_Shelf_longest) [] [] f fd) (T : Tx K mg) : FnOk P w K mg base (L2.CX P w) 1 f fd ["self"] (sp_Shelf_longest K) := by
  refine F.ok sc_Shelf_longest len_Shelf_longest (fun cdv A outer s H vs Q E hr h => ⟨t_Shelf_longest K E, ?_, pure_Shelf_longest T.kx vs H Q E h⟩)
  have nd := sc_Shelf_longest.nd
  have hu := hu_of hr
  have htk : Takes (cxOf (L2.CX P w) P w K mg base ["self", "mark"] "Shelf.longest" (defScope s_Shelf_longest) f cdv A outer s H E) (fun c d _ H => E c d H) := takes_of rfl rfl rfl rfl
  have hpx : Passes (L2.CX P w) (cxOf (L2.CX P w) P w K mg base ["self", "mark"] "Shelf.longest" (defScope s_Shelf_longest) f cdv A outer s H E) E := passes_call htk fun _ _ _ _ z => z
  have hps : PassesOwn (model P w) (A.deeper (envOfC "Shelf.longest" (defScope s_Shelf_longest) s.heap.objs.size f cdv)) (envOfC "Shelf.longest" (defScope s_Shelf_longest) s.heap.objs.size f cdv) (cxOf (L2.CX P w) P w K mg base ["self", "mark"] "Shelf.longest" (defScope s_Shelf_longest) f cdv A outer s H E).xe := passes_of (X := cxOf (L2.CX P w) P w K mg base ["self", "mark"] "Shelf.longest" (defScope s_Shelf_longest) f cdv A outer s H E) rfl
  exact (pss_trim (pss_one (ps_ret (pe_trim (pe_callBK (call_maxDef rfl) (by rfl) T.n_max (by decide +kernel) (pa_cons (pe_lc (own := [("mark", 1)]) rfl nd (pi_list (pe_fld (pv 0) rfl)) (blkOk_by (own := [("mark", 1)]) (N := ["self", "mark"]) (sc := defScope s_Shelf_longest) (by decide +kernel)) (fun _ _ _ _ _ => (pg_name (i := 1) nd rfl (by first | exact Or.inl rfl | exact Or.inr rfl))) (fun _ _ _ _ _ => pts_nil) (fun _ _ _ _ _ => (pe_callB call_len_str (by rfl) T.n_len (by decide +kernel) (pa_cons (pv 1) pa_nil)))) pa_nil) (pk_cons pe_int pk_nil))))))
theorem ok_law_draw {f : Addr} {fd : FuncData} (F : FunD K "_law_draw" "_law_draw" (defArgs s_law_draw) (defBody s_law_draw) (defScope s_law_draw) [] [] f fd) (T : Tx K mg) : FnOk P w K mg base (L2.CX P w) 1 f fd ["script", "k", "many"] (sp_law_draw K) := by
  refine F.ok sc_law_draw len_law_draw (fun cdv A outer s H vs Q E hr h => ⟨t_law_draw K E, ?_, pure_law_draw T.kx vs H Q E h⟩)
  have nd := sc_law_draw.nd
  have hu := hu_of hr
  have htk : Takes (cxOf (L2.CX P w) P w K mg base ["script", "k", "many", "cell", "seed"] "_law_draw" (defScope s_law_draw) f cdv A outer s H E) (fun c d _ H => E c d H) := takes_of rfl rfl rfl rfl
  have hpx : Passes (L2.CX P w) (cxOf (L2.CX P w) P w K mg base ["script", "k", "many", "cell", "seed"] "_law_draw" (defScope s_law_draw) f cdv A outer s H E) E := passes_call htk fun _ _ _ _ z => z
  have hps : PassesOwn (model P w) (A.deeper (envOfC "_law_draw" (defScope s_law_draw) s.heap.objs.size f cdv)) (envOfC "_law_draw" (defScope s_law_draw) s.heap.objs.size f cdv) (cxOf (L2.CX P w) P w K mg base ["script", "k", "many", "cell", "seed"] "_law_draw" (defScope s_law_draw) f cdv A outer s H E).xe := passes_of (X := cxOf (L2.CX P w) P w K mg base ["script", "k", "many", "cell", "seed"] "_law_draw" (defScope s_law_draw) f cdv A outer s H E) rfl
  exact (pss_meet (ps_set (i := 3) nd rfl (by first | exact Or.inl rfl | exact Or.inr rfl) (pe_ifExp (pt_cmpR op_gt (pe_callB call_len_seq (by rfl) T.n_len (by decide +kernel) (pa_cons (pv 0) pa_nil)) pe_int (nomark _)) (pe_ix ix_list (pv 0) (pe_op op_mod (pv 1) (pe_callB call_len_seq (by rfl) T.n_len (by decide +kernel) (pa_cons (pv 0) pa_nil))) (fun _ _ => rfl)) pe_int))
    (pss_meet (ps_if (PW.pt (pw_and (pt_cmpR op_gt (pe_callB call_len_seq (by rfl) T.n_len (by decide +kernel) (pa_cons (pv 0) pa_nil)) pe_int (nomark _)) (pw_and1 (pt_cmpR op_eq (pe_op op_mod (pe_ix ix_list (pv 0) pe_int (fun _ _ => rfl)) pe_int) pe_int (nomark _)))))
    (pss_one (ps_ret (pe_op op_mod (pe_op op_mod (pe_op op_shr (pv 3) (pe_op op_add (pe_op op_mulW pe_int (pe_op op_fdivW (pv 1) (pe_callB call_len_seq (by rfl) T.n_len (by decide +kernel) (pa_cons (pv 0) pa_nil)))) pe_int)) pe_int) (pv 2))))
    pss_nil)
    (pss_cons (ps_set (i := 4) nd rfl (by first | exact Or.inl rfl | exact Or.inr rfl) (pe_op op_add (pe_op op_add (pe_op op_mod (pv 3) pe_int) (pe_op op_mulW (pe_op op_mulW pe_int (pv 1)) (pv 1))) pe_int))
    (pss_one (ps_ret (pe_op op_mod (pe_op op_mod (pe_op op_mulW (pe_op op_mod (pe_op op_mulW (pv 4) pe_int) pe_int) pe_int) pe_int) (pv 2)))))))
theorem ok_law_place {f : Addr} {fd : FuncData} (F : FunD K "_law_place" "_law_place" (defArgs s_law_place) (defBody s_law_place) (defScope s_law_place) [] [] f fd) (T : Tx K mg) (G_law_draw : FnG P w K mg base (L2.CX P w) "_law_draw" ["script", "k", "many"] 1 (sp_law_draw K)) : FnOk P w K mg base (L2.CX P w) 2 f fd ["script", "k", "many", "last"] (sp_law_place K) := by
  refine F.ok sc_law_place len_law_place (fun cdv A outer s H vs Q E hr h => ⟨t_law_place K E, ?_, pure_law_place T.kx vs H Q E h⟩)
  have nd := sc_law_place.nd
  have hu := hu_of hr
  have htk : Takes (cxOf (L2.CX P w) P w K mg base ["script", "k", "many", "last", "way"] "_law_place" (defScope s_law_place) f cdv A outer s H E) (fun c d _ H => E c d H) := takes_of rfl rfl rfl rfl
  have hpx : Passes (L2.CX P w) (cxOf (L2.CX P w) P w K mg base ["script", "k", "many", "last", "way"] "_law_place" (defScope s_law_place) f cdv A outer s H E) E := passes_call htk fun _ _ _ _ z => z
  have hps : PassesOwn (model P w) (A.deeper (envOfC "_law_place" (defScope s_law_place) s.heap.objs.size f cdv)) (envOfC "_law_place" (defScope s_law_place) s.heap.objs.size f cdv) (cxOf (L2.CX P w) P w K mg base ["script", "k", "many", "last", "way"] "_law_place" (defScope s_law_place) f cdv A outer s H E).xe := passes_of (X := cxOf (L2.CX P w) P w K mg base ["script", "k", "many", "last", "way"] "_law_place" (defScope s_law_place) f cdv A outer s H E) rfl
  exact (pss_cons (ps_set (i := 4) nd rfl (by first | exact Or.inl rfl | exact Or.inr rfl) (pe_G G_law_draw hr (by decide) rfl hpx (pa_cons (pv 0) (pa_cons (pe_op op_add pe_int (pe_op op_fdivW (pv 1) (pe_op op_add pe_int (pe_G G_law_draw hr (by decide) rfl hpx (pa_cons (pv 0) (pa_cons pe_int (pa_cons pe_int pa_nil))))))) (pa_cons pe_int pa_nil)))))
    (pss_cons (ps_if (pt_cmpR op_eq (pv 4) pe_int (nomark _))
    (pss_one (ps_ret (pv 2)))
    pss_nil)
    (pss_cons (ps_if (pt_cmpR op_eq (pv 4) pe_int (nomark _))
    (pss_one (ps_ret pe_int))
    pss_nil)
    (pss_cons (ps_if (pt_cmpR op_eq (pv 4) pe_int (nomark _))
    (pss_one (ps_ret (pe_callB (call_min2 rfl) (by rfl) T.n_min (by decide +kernel) (pa_cons (pv 2) (pa_cons (pe_op op_add (pv 3) pe_int) pa_nil)))))
    pss_nil)
    (pss_cons (ps_if (pt_cmpR op_eq (pv 4) pe_int (nomark _))
    (pss_one (ps_ret (pv 3)))
    pss_nil)
    (pss_cons (ps_if (pt_cmpR op_eq (pv 4) pe_int (nomark _))
    (pss_one (ps_ret (pe_callB (call_min2 rfl) (by rfl) T.n_min (by decide +kernel) (pa_cons (pv 2) (pa_cons (pe_op op_add pe_int (pe_G G_law_draw hr (by decide) rfl hpx (pa_cons (pv 0) (pa_cons pe_int (pa_cons pe_int pa_nil))))) pa_nil)))))
    pss_nil)
    (pss_one (ps_ret (pe_G G_law_draw hr (by decide) rfl hpx (pa_cons (pv 0) (pa_cons (pe_op op_add pe_int (pv 1)) (pa_cons (pe_op op_add (pv 2) pe_int) pa_nil))))))))))))
theorem ok_law_whole {f : Addr} {fd : FuncData} (F : FunD K "_law_whole" "_law_whole" (defArgs s_law_whole) (defBody s_law_whole) (defScope s_law_whole) [] [] f fd) (T : Tx K mg) : FnOk P w K mg base (L2.CX P w) 1 f fd ["letters", "mark", "long"] (sp_law_whole K) := by
  refine F.ok sc_law_whole len_law_whole (fun cdv A outer s H vs Q E hr h => ⟨t_law_whole K E, ?_, pure_law_whole T.kx vs H Q E h⟩)
  have nd := sc_law_whole.nd
  have hu := hu_of hr
  have htk : Takes (cxOf (L2.CX P w) P w K mg base ["letters", "mark", "long", "whole", "k", "figure"] "_law_whole" (defScope s_law_whole) f cdv A outer s H E) (fun c d _ H => E c d H) := takes_of rfl rfl rfl rfl
  have hpx : Passes (L2.CX P w) (cxOf (L2.CX P w) P w K mg base ["letters", "mark", "long", "whole", "k", "figure"] "_law_whole" (defScope s_law_whole) f cdv A outer s H E) E := passes_call htk fun _ _ _ _ z => z
  have hps : PassesOwn (model P w) (A.deeper (envOfC "_law_whole" (defScope s_law_whole) s.heap.objs.size f cdv)) (envOfC "_law_whole" (defScope s_law_whole) s.heap.objs.size f cdv) (cxOf (L2.CX P w) P w K mg base ["letters", "mark", "long", "whole", "k", "figure"] "_law_whole" (defScope s_law_whole) f cdv A outer s H E).xe := passes_of (X := cxOf (L2.CX P w) P w K mg base ["letters", "mark", "long", "whole", "k", "figure"] "_law_whole" (defScope s_law_whole) f cdv A outer s H E) rfl
  exact (pss_cons (ps_set (i := 3) nd rfl (by first | exact Or.inl rfl | exact Or.inr rfl) pe_int)
    (pss_cons (ps_for hps rfl (pi_range1 (by rfl) T.n_range (pa_cons (pv 2) pa_nil)) (pg_name (i := 4) nd rfl (by first | exact Or.inl rfl | exact Or.inr rfl))
    (pss_cons (ps_set (i := 5) nd rfl (by first | exact Or.inl rfl | exact Or.inr rfl) pe_int)
    (pss_meet (ps_if (pt_cmpR op_lt (pv 4) (pe_callB call_len_str (by rfl) T.n_len (by decide +kernel) (pa_cons (pv 1) pa_nil)) (nomark _))
    (pss_one (ps_set (i := 5) nd rfl (by first | exact Or.inl rfl | exact Or.inr rfl) (pe_bmS PySem.F.plainAttrs_str PySem.F.slot_str_index PySem.F.type_str_index (mt_indexS rfl) pe_str (pa_cons (pe_ix ix_str (pv 1) (pv 4) (fun _ _ => rfl)) pa_nil))))
    pss_nil)
    (pss_one (ps_set (i := 3) nd rfl (by first | exact Or.inl rfl | exact Or.inr rfl) (pe_op op_add (pe_op op_mulW (pv 3) (pv 0)) (pv 5)))))))
    (pss_one (ps_ret (pv 3)))))
theorem ok_law_fewest {f : Addr} {fd : FuncData} (F : FunD K "_law_fewest" "_law_fewest" (defArgs s_law_fewest) (defBody s_law_fewest) (defScope s_law_fewest) [] [] f fd) (T : Tx K mg) (G_law_whole : FnG P w K mg base (L2.CX P w) "_law_whole" ["letters", "mark", "long"] 1 (sp_law_whole K)) : FnOk P w K mg base (L2.CX P w) 2 f fd ["letters", "low", "mark", "high"] (sp_law_fewest K) := by
  refine F.ok sc_law_fewest len_law_fewest (fun cdv A outer s H vs Q E hr h => ⟨t_law_fewest K E, ?_, pure_law_fewest T.kx vs H Q E h⟩)
  have nd := sc_law_fewest.nd
  have hu := hu_of hr
  have htk : Takes (cxOf (L2.CX P w) P w K mg base ["letters", "low", "mark", "high", "long", "most", "k"] "_law_fewest" (defScope s_law_fewest) f cdv A outer s H E) (fun c d _ H => E c d H) := takes_of rfl rfl rfl rfl
  have hpx : Passes (L2.CX P w) (cxOf (L2.CX P w) P w K mg base ["letters", "low", "mark", "high", "long", "most", "k"] "_law_fewest" (defScope s_law_fewest) f cdv A outer s H E) E := passes_call htk fun _ _ _ _ z => z
  have hps : PassesOwn (model P w) (A.deeper (envOfC "_law_fewest" (defScope s_law_fewest) s.heap.objs.size f cdv)) (envOfC "_law_fewest" (defScope s_law_fewest) s.heap.objs.size f cdv) (cxOf (L2.CX P w) P w K mg base ["letters", "low", "mark", "high", "long", "most", "k"] "_law_fewest" (defScope s_law_fewest) f cdv A outer s H E).xe := passes_of (X := cxOf (L2.CX P w) P w K mg base ["letters", "low", "mark", "high", "long", "most", "k"] "_law_fewest" (defScope s_law_fewest) f cdv A outer s H E) rfl
  exact (pss_meet (ps_if (PW.pt (pw_or (PW.pt (pw_and (pt_cmpR op_ne (pv 1) pe_str (nomark _)) (pw_and1 (pt_not (pt_cmpR op_lt_str (pv 1) (pv 2) (nomark _)))))) (pw_or1 (PW.pt (pw_and (pt_cmpR op_ne (pv 3) pe_str (nomark _)) (pw_and1 (pt_not (pt_cmpR op_lt_str (pv 2) (pv 3) (nomark _)))))))))
    (pss_one (ps_ret pe_bl))
    pss_nil)
    (pss_cons (ps_for hps rfl (pi_range2 (by rfl) T.n_range (pa_cons pe_int (pa_cons (pe_callB call_len_str (by rfl) T.n_len (by decide +kernel) (pa_cons (pv 2) pa_nil)) pa_nil))) (pg_name (i := 4) nd rfl (by first | exact Or.inl rfl | exact Or.inr rfl))
    (pss_cons (ps_set (i := 5) nd rfl (by first | exact Or.inl rfl | exact Or.inr rfl) pe_int)
    (pss_cons (ps_for hps rfl (pi_range1 (by rfl) T.n_range (pa_cons (pv 4) pa_nil)) (pg_name (i := 6) nd rfl (by first | exact Or.inl rfl | exact Or.inr rfl))
    (pss_one (ps_set (i := 5) nd rfl (by first | exact Or.inl rfl | exact Or.inr rfl) (pe_op op_mulW (pv 5) (pv 0)))))
    (pss_meet (ps_if (pt_cmpR op_ne (pv 3) pe_str (nomark _))
    (pss_one (ps_set (i := 5) nd rfl (by first | exact Or.inl rfl | exact Or.inr rfl) (pe_op op_add (pe_G G_law_whole hr (by decide) rfl hpx (pa_cons (pv 0) (pa_cons (pv 3) (pa_cons (pv 4) pa_nil)))) (pe_callTy call_int1 (by rfl) T.n_int (by decide +kernel) (pa_cons (pe_cmpR op_gt (pe_callB call_len_str (by rfl) T.n_len (by decide +kernel) (pa_cons (pv 3) pa_nil)) (pv 4) (nomark _)) pa_nil)))))
    pss_nil)
    (pss_one (ps_if (pt_cmpR op_gt (pe_op op_sub (pv 5) pe_int) (pe_G G_law_whole hr (by decide) rfl hpx (pa_cons (pv 0) (pa_cons (pv 1) (pa_cons (pv 4) pa_nil)))) (nomark _))
    (pss_one (ps_ret pe_bl))
    pss_nil))))))
    (pss_one (ps_ret pe_bl))))
theorem ok_law_bound {f : Addr} {fd : FuncData} (F : FunD K "_law_bound" "_law_bound" (defArgs s_law_bound) (defBody s_law_bound) (defScope s_law_bound) [] [] f fd) (T : Tx K mg) : FnOk P w K mg base (L2.CX P w) 1 f fd ["letters", "many"] (sp_law_bound K) := by
  refine F.ok sc_law_bound len_law_bound (fun cdv A outer s H vs Q E hr h => ⟨t_law_bound K E, ?_, pure_law_bound T.kx vs H Q E h⟩)
  have nd := sc_law_bound.nd
  have hu := hu_of hr
  have htk : Takes (cxOf (L2.CX P w) P w K mg base ["letters", "many", "times"] "_law_bound" (defScope s_law_bound) f cdv A outer s H E) (fun c d _ H => E c d H) := takes_of rfl rfl rfl rfl
  have hpx : Passes (L2.CX P w) (cxOf (L2.CX P w) P w K mg base ["letters", "many", "times"] "_law_bound" (defScope s_law_bound) f cdv A outer s H E) E := passes_call htk fun _ _ _ _ z => z
  have hps : PassesOwn (model P w) (A.deeper (envOfC "_law_bound" (defScope s_law_bound) s.heap.objs.size f cdv)) (envOfC "_law_bound" (defScope s_law_bound) s.heap.objs.size f cdv) (cxOf (L2.CX P w) P w K mg base ["letters", "many", "times"] "_law_bound" (defScope s_law_bound) f cdv A outer s H E).xe := passes_of (X := cxOf (L2.CX P w) P w K mg base ["letters", "many", "times"] "_law_bound" (defScope s_law_bound) f cdv A outer s H E) rfl
  exact (pss_cons (ps_set (i := 2) nd rfl (by first | exact Or.inl rfl | exact Or.inr rfl) pe_int)
    (pss_cons (ps_while hps (pt_cmpR op_le (pe_op op_oneShl pe_int (pe_op op_add (pv 2) pe_int)) (pv 0) (nomark _)) (pss_one (ps_set (i := 2) nd rfl (by first | exact Or.inl rfl | exact Or.inr rfl) (pe_op op_add (pv 2) pe_int))))
    (pss_cons (ps_if (pt_cmpR op_lt (pv 1) pe_int (nomark _))
    (pss_one (ps_ret (pv 1)))
    pss_nil)
    (pss_one (ps_ret (pe_op op_add pe_int (pe_op op_fdivW (pe_op op_sub (pv 1) pe_int) (pv 2))))))))
theorem ok_law_renewed {f : Addr} {fd : FuncData} (F : FunD K "_law_renewed" "_law_renewed" (defArgs s_law_renewed) (defBody s_law_renewed) (defScope s_law_renewed) [] [] f fd) (T : Tx K mg) (G_Shelf_things : FnM P w K mg base (L2.CX P w) (He.ga K "Shelf") "things" ["self"] 1 (sp_Shelf_things K)) (G_Shelf_renew : FnM P w K mg base (L2.CX P w) (He.ga K "Shelf") "renew" ["self"] 3 (sp_Shelf_renew K)) (G_Shelf_marks : FnM P w K mg base (L2.CX P w) (He.ga K "Shelf") "marks" ["self"] 1 (sp_Shelf_marks K)) (G_Shelf_longest : FnM P w K mg base (L2.CX P w) (He.ga K "Shelf") "longest" ["self"] 1 (sp_Shelf_longest K)) : FnOk P w K mg base (L2.CX P w) 4 f fd ["letters", "shelf"] (sp_law_renewed K) := by
  refine F.ok sc_law_renewed len_law_renewed (fun cdv A outer s H vs Q E hr h => ⟨t_law_renewed K E, ?_, pure_law_renewed T.kx vs H Q E h⟩)
  have nd := sc_law_renewed.nd
  have hu := hu_of hr
  have htk : Takes (cxOf (L2.CX P w) P w K mg base ["letters", "shelf", "things", "power", "long", "told", "marks", "mark"] "_law_renewed" (defScope s_law_renewed) f cdv A outer s H E) (fun c d _ H => E c d H) := takes_of rfl rfl rfl rfl
  have hpx : Passes (L2.CX P w) (cxOf (L2.CX P w) P w K mg base ["letters", "shelf", "things", "power", "long", "told", "marks", "mark"] "_law_renewed" (defScope s_law_renewed) f cdv A outer s H E) E := passes_call htk fun _ _ _ _ z => z
  have hps : PassesOwn (model P w) (A.deeper (envOfC "_law_renewed" (defScope s_law_renewed) s.heap.objs.size f cdv)) (envOfC "_law_renewed" (defScope s_law_renewed) s.heap.objs.size f cdv) (cxOf (L2.CX P w) P w K mg base ["letters", "shelf", "things", "power", "long", "told", "marks", "mark"] "_law_renewed" (defScope s_law_renewed) f cdv A outer s H E).xe := passes_of (X := cxOf (L2.CX P w) P w K mg base ["letters", "shelf", "things", "power", "long", "told", "marks", "mark"] "_law_renewed" (defScope s_law_renewed) f cdv A outer s H E) rfl
  exact (pss_trim (pss_cons (ps_set (i := 2) nd rfl (by first | exact Or.inl rfl | exact Or.inr rfl) (pe_Gm0 G_Shelf_things hr (by decide) (pv 1) T.kx.c_Shelf hpx))
    (pss_cons (ps_set (i := 3) nd rfl (by first | exact Or.inl rfl | exact Or.inr rfl) pe_int)
    (pss_cons (ps_set (i := 4) nd rfl (by first | exact Or.inl rfl | exact Or.inr rfl) pe_int)
    (pss_cons (ps_while hps (pt_cmpR op_lt (pe_op op_sub (pv 3) pe_int) (pe_callB call_len_seq (by rfl) T.n_len (by decide +kernel) (pa_cons (pv 2) pa_nil)) (nomark _)) (pss_cons (ps_set (i := 3) nd rfl (by first | exact Or.inl rfl | exact Or.inr rfl) (pe_op op_mulW (pv 3) (pv 0)))
    (pss_one (ps_set (i := 4) nd rfl (by first | exact Or.inl rfl | exact Or.inr rfl) (pe_op op_add (pv 4) pe_int)))))
    (pss_cons (ps_set (i := 5) nd rfl (by first | exact Or.inl rfl | exact Or.inr rfl) (pe_Gm0 G_Shelf_renew hr (by decide) (pv 1) T.kx.c_Shelf hpx))
    (pss_cons (ps_set (i := 6) nd rfl (by first | exact Or.inl rfl | exact Or.inr rfl) (pe_Gm0 G_Shelf_marks hr (by decide) (pv 1) T.kx.c_Shelf hpx))
    (pss_cons (ps_if (PW.pt (pw_or (pt_cmpR (op_neD hr.units) (pv 5) (pv 6) (nomark _)) (pw_or (pt_trim (pt_cmpR (op_neD hr.units) (pe_Gm0 G_Shelf_things hr (by decide) (pv 1) T.kx.c_Shelf hpx) (pv 2) (nomark _))) (pw_or (pt_trim (pt_cmpR (op_neD hr.units) (pe_callB cr_sortedSO (by rfl) T.n_sorted (by decide +kernel) (pa_cons (pv 6) pa_nil)) (pv 6) (nomark _))) (pw_or1 (pt_cmpR op_ne (pe_callB call_len_seq (by rfl) T.n_len (by decide +kernel) (pa_cons (pv 6) pa_nil)) (pe_callB call_len_seq (by rfl) T.n_len (by decide +kernel) (pa_cons (pv 2) pa_nil)) (nomark _)))))))
    (pss_one (ps_ret pe_bl))
    pss_nil)
    (pss_one (ps_ret (pe_trim (pe_and (pe_cmpR op_eq (pe_callB call_len_seq (by rfl) T.n_len (by decide +kernel) (pa_cons (pe_lc (own := [("mark", 7)]) rfl nd (pi_list (pv 6)) (blkOk_by (own := [("mark", 7)]) (N := ["letters", "shelf", "things", "power", "long", "told", "marks", "mark"]) (sc := defScope s_law_renewed) (by decide +kernel)) (fun _ _ _ _ _ => (pg_name (i := 7) nd rfl (by first | exact Or.inl rfl | exact Or.inr rfl))) (fun _ _ _ _ _ => (pts_one (PW.pt (pw_or (pt_cmpR op_gt (pe_bm PySem.F.plainAttrs_list PySem.F.slot_list_count PySem.F.type_list_count mt_lcountS (pv 6) (pa_cons (pv 7) pa_nil)) pe_int (nomark _)) (pw_or1 (pt_cmpR op_eq (pv 7) pe_str (nomark _))))))) (fun _ _ _ _ _ => (pv 7))) pa_nil)) pe_int (nomark _)) (pe_one (pe_cmpR op_le (pe_Gm0 G_Shelf_longest hr (by decide) (pv 1) T.kx.c_Shelf hpx) (pv 4) (nomark _)))))))))))))))
theorem ok_law {f : Addr} {fd : FuncData} (F : FunD K "law" "law" (defArgs s_law) (defBody s_law) (defScope s_law) [] [] f fd) (T : Tx K mg) (G_law_draw : FnG P w K mg base (L2.CX P w) "_law_draw" ["script", "k", "many"] 1 (sp_law_draw K)) (G_law_place : FnG P w K mg base (L2.CX P w) "_law_place" ["script", "k", "many", "last"] 2 (sp_law_place K)) (G_Shelf_put : FnM P w K mg base (L2.CX P w) (He.ga K "Shelf") "put" ["self", "place", "thing"] 6 (sp_Shelf_put K)) (G_law_fewest : FnG P w K mg base (L2.CX P w) "_law_fewest" ["letters", "low", "mark", "high"] 2 (sp_law_fewest K)) (G_Shelf_longest : FnM P w K mg base (L2.CX P w) (He.ga K "Shelf") "longest" ["self"] 1 (sp_Shelf_longest K)) (G_law_bound : FnG P w K mg base (L2.CX P w) "_law_bound" ["letters", "many"] 1 (sp_law_bound K)) (G_Shelf_marks : FnM P w K mg base (L2.CX P w) (He.ga K "Shelf") "marks" ["self"] 1 (sp_Shelf_marks K)) (G_Shelf_things : FnM P w K mg base (L2.CX P w) (He.ga K "Shelf") "things" ["self"] 1 (sp_Shelf_things K)) (G_Shelf_take : FnM P w K mg base (L2.CX P w) (He.ga K "Shelf") "take" ["self", "place"] 1 (sp_Shelf_take K)) (G_law_renewed : FnG P w K mg base (L2.CX P w) "_law_renewed" ["letters", "shelf"] 4 (sp_law_renewed K)) (G_Shelf___init__ : FnI P w K mg base (L2.CX P w) (He.ga K "Shelf") ["self", "letters"] 2 (sp_Shelf___init__ K)) : FnOk P w K mg base (L2.CX P w) 7 f fd ["script"] (sp_law K) := by
  refine F.ok sc_law len_law (fun cdv A outer s H vs Q E hr h => ⟨t_law K E, ?_, pure_law T.kx vs H Q E h⟩)
  have nd := sc_law.nd
  have hu := hu_of hr
  have htk : Takes (cxOf (L2.CX P w) P w K mg base ["script", "letters", "shelf", "marks", "things", "last", "k", "place", "mark", "low", "high", "longest", "one"] "law" (defScope s_law) f cdv A outer s H E) (fun c d _ H => E c d H) := takes_of rfl rfl rfl rfl
  have hpx : Passes (L2.CX P w) (cxOf (L2.CX P w) P w K mg base ["script", "letters", "shelf", "marks", "things", "last", "k", "place", "mark", "low", "high", "longest", "one"] "law" (defScope s_law) f cdv A outer s H E) E := passes_call htk fun _ _ _ _ z => z
  have hps : PassesOwn (model P w) (A.deeper (envOfC "law" (defScope s_law) s.heap.objs.size f cdv)) (envOfC "law" (defScope s_law) s.heap.objs.size f cdv) (cxOf (L2.CX P w) P w K mg base ["script", "letters", "shelf", "marks", "things", "last", "k", "place", "mark", "low", "high", "longest", "one"] "law" (defScope s_law) f cdv A outer s H E).xe := passes_of (X := cxOf (L2.CX P w) P w K mg base ["script", "letters", "shelf", "marks", "things", "last", "k", "place", "mark", "low", "high", "longest", "one"] "law" (defScope s_law) f cdv A outer s H E) rfl
  exact (pss_cons (ps_set (i := 1) nd rfl (by first | exact Or.inl rfl | exact Or.inr rfl) (pe_trim (pe_ix ix_list (pe_lst (pa_cons pe_int (pa_cons pe_int (pa_cons pe_int (pa_cons pe_int (pa_cons pe_int (pa_cons pe_int pa_nil))))))) (pe_G G_law_draw hr (by decide) rfl hpx (pa_cons (pv 0) (pa_cons pe_int (pa_cons pe_int pa_nil)))) (fun _ _ => rfl))))
    (pss_cons (ps_set (i := 2) nd rfl (by first | exact Or.inl rfl | exact Or.inr rfl) (pe_GM G_Shelf___init__ hr (by decide) rfl T.g_Shelf hpx (pa_cons (pv 1) pa_nil)))
    (pss_cons (ps_set (i := 3) nd rfl (by first | exact Or.inl rfl | exact Or.inr rfl) (pe_lst pa_nil))
    (pss_cons (ps_set (i := 4) nd rfl (by first | exact Or.inl rfl | exact Or.inr rfl) (pe_lst pa_nil))
    (pss_cons (ps_set (i := 5) nd rfl (by first | exact Or.inl rfl | exact Or.inr rfl) pe_int)
    (pss_cons (ps_for hps rfl (pi_range1 (by rfl) T.n_range (pa_cons (pe_op op_add pe_int (pe_G G_law_draw hr (by decide) rfl hpx (pa_cons (pv 0) (pa_cons pe_int (pa_cons pe_int pa_nil))))) pa_nil)) (pg_name (i := 6) nd rfl (by first | exact Or.inl rfl | exact Or.inr rfl))
    (pss_cons (ps_set (i := 7) nd rfl (by first | exact Or.inl rfl | exact Or.inr rfl) (pe_G G_law_place hr (by decide) rfl hpx (pa_cons (pv 0) (pa_cons (pv 6) (pa_cons (pe_callB call_len_seq (by rfl) T.n_len (by decide +kernel) (pa_cons (pv 3) pa_nil)) (pa_cons (pv 5) pa_nil))))))
    (pss_cons (ps_set (i := 8) nd rfl (by first | exact Or.inl rfl | exact Or.inr rfl) (pe_Gm G_Shelf_put hr (by decide) (pv 2) T.kx.c_Shelf hpx (pa_cons (pv 7) (pa_cons (pe_op op_add_str pe_str (pe_callTy call_str_int (by rfl) T.n_str (by decide +kernel) (pa_cons (pv 6) pa_nil))) pa_nil))))
    (pss_meet (ps_set (i := 9) nd rfl (by first | exact Or.inl rfl | exact Or.inr rfl) (pe_ifExp (pt_cmpR op_gt (pv 7) pe_int (nomark _)) (pe_ix ix_list (pv 3) (pe_op op_sub (pv 7) pe_int) (fun _ _ => rfl)) pe_str))
    (pss_meet (ps_set (i := 10) nd rfl (by first | exact Or.inl rfl | exact Or.inr rfl) (pe_ifExp (pt_cmpR op_lt (pv 7) (pe_callB call_len_seq (by rfl) T.n_len (by decide +kernel) (pa_cons (pv 3) pa_nil)) (nomark _)) (pe_ix ix_list (pv 3) (pv 7) (fun _ _ => rfl)) pe_str))
    (pss_cons (ps_if (PW.pt (pw_or (pt_not (pt_val (pe_callB call_isi (by rfl) T.n_isinstance (by decide +kernel) (pa_cons (pv 8) (pa_cons (pe_bltn (by rfl) T.n_str (by decide +kernel) rfl) pa_nil))))) (pw_or (pt_cmpR op_eq (pv 8) pe_str (nomark _)) (pw_or1 (pt_not (pt_val (pe_G G_law_fewest hr (by decide) rfl hpx (pa_cons (pv 1) (pa_cons (pv 9) (pa_cons (pv 8) (pa_cons (pv 10) pa_nil)))))))))))
    (pss_one (ps_ret pe_bl))
    pss_nil)
    (pss_cons (ps_expr (pe_bm PySem.F.plainAttrs_list PySem.F.slot_list_insert PySem.F.type_list_insert mt_insert (pv 3) (pa_cons (pv 7) (pa_cons (pv 8) pa_nil))))
    (pss_cons (ps_expr (pe_bm PySem.F.plainAttrs_list PySem.F.slot_list_insert PySem.F.type_list_insert mt_insert (pv 4) (pa_cons (pv 7) (pa_cons (pe_op op_add_str pe_str (pe_callTy call_str_int (by rfl) T.n_str (by decide +kernel) (pa_cons (pv 6) pa_nil))) pa_nil))))
    (pss_cons (ps_set (i := 5) nd rfl (by first | exact Or.inl rfl | exact Or.inr rfl) (pv 7))
    (pss_cons (ps_set (i := 11) nd rfl (by first | exact Or.inl rfl | exact Or.inr rfl) (pe_trim (pe_callB (cr_max rfl) (by rfl) T.n_max (by decide +kernel) (pa_cons (pe_lc (own := [("one", 12)]) rfl nd (pi_list (pv 3)) (blkOk_by (own := [("one", 12)]) (N := ["script", "letters", "shelf", "marks", "things", "last", "k", "place", "mark", "low", "high", "longest", "one"]) (sc := defScope s_law) (by decide +kernel)) (fun _ _ _ _ _ => (pg_name (i := 12) nd rfl (by first | exact Or.inl rfl | exact Or.inr rfl))) (fun _ _ _ _ _ => pts_nil) (fun _ _ _ _ _ => (pe_callB call_len_str (by rfl) T.n_len (by decide +kernel) (pa_cons (pv 12) pa_nil)))) pa_nil))))
    (pss_one (ps_if (PW.pt (pw_or (pt_cmpR op_ne (pe_Gm0 G_Shelf_longest hr (by decide) (pv 2) T.kx.c_Shelf hpx) (pv 11) (nomark _)) (pw_or1 (pt_cmpR op_gt (pv 11) (pe_G G_law_bound hr (by decide) rfl hpx (pa_cons (pv 1) (pa_cons (pe_callB call_len_seq (by rfl) T.n_len (by decide +kernel) (pa_cons (pv 3) pa_nil)) pa_nil))) (nomark _)))))
    (pss_one (ps_ret pe_bl))
    pss_nil))))))))))))
    (pss_cons (ps_if (PW.pt (pw_or (pt_trim (pt_cmpR (op_neD hr.units) (pe_Gm0 G_Shelf_marks hr (by decide) (pv 2) T.kx.c_Shelf hpx) (pv 3) (nomark _))) (pw_or (pt_trim (pt_cmpR (op_neD hr.units) (pe_Gm0 G_Shelf_things hr (by decide) (pv 2) T.kx.c_Shelf hpx) (pv 4) (nomark _))) (pw_or1 (pt_trim (pt_cmpR (op_neD hr.units) (pe_callB cr_sortedSO (by rfl) T.n_sorted (by decide +kernel) (pa_cons (pv 3) pa_nil)) (pv 3) (nomark _)))))))
    (pss_one (ps_ret pe_bl))
    pss_nil)
    (pss_cons (ps_for hps rfl (pi_range1 (by rfl) T.n_range (pa_cons (pe_G G_law_draw hr (by decide) rfl hpx (pa_cons (pv 0) (pa_cons pe_int (pa_cons pe_int pa_nil)))) pa_nil)) (pg_name (i := 6) nd rfl (by first | exact Or.inl rfl | exact Or.inr rfl))
    (pss_one (ps_if (pt_cmpR op_gt (pe_callB call_len_seq (by rfl) T.n_len (by decide +kernel) (pa_cons (pv 4) pa_nil)) pe_int (nomark _))
    (pss_cons (ps_set (i := 7) nd rfl (by first | exact Or.inl rfl | exact Or.inr rfl) (pe_G G_law_draw hr (by decide) rfl hpx (pa_cons (pv 0) (pa_cons (pe_op op_add pe_int (pv 6)) (pa_cons (pe_callB call_len_seq (by rfl) T.n_len (by decide +kernel) (pa_cons (pv 4) pa_nil)) pa_nil)))))
    (pss_cons (ps_if (pt_cmpR op_ne (pe_Gm G_Shelf_take hr (by decide) (pv 2) T.kx.c_Shelf hpx (pa_cons (pv 7) pa_nil)) (pe_bm PySem.F.plainAttrs_list PySem.F.slot_list_pop PySem.F.type_list_pop mt_popAt (pv 4) (pa_cons (pv 7) pa_nil)) (nomark _))
    (pss_one (ps_ret pe_bl))
    pss_nil)
    (pss_one (ps_expr (pe_bm PySem.F.plainAttrs_list PySem.F.slot_list_pop PySem.F.type_list_pop mt_popAt (pv 3) (pa_cons (pv 7) pa_nil))))))
    pss_nil)))
    (pss_one (ps_ret (pe_trim (pe_and (pe_cmpR (op_eqD hr.units) (pe_Gm0 G_Shelf_marks hr (by decide) (pv 2) T.kx.c_Shelf hpx) (pv 3) (nomark _)) (pe_and (pe_cmpR (op_eqD hr.units) (pe_Gm0 G_Shelf_things hr (by decide) (pv 2) T.kx.c_Shelf hpx) (pv 4) (nomark _)) (pe_one (pe_G G_law_renewed hr (by decide) rfl hpx (pa_cons (pv 1) (pa_cons (pv 2) pa_nil)))))))))))))))))
end
end Sm
namespace Sm
open PySem PySem.Spec PyProof.Rows L2
def d_ask_letters : He.DefD := ⟨("ask_letters", none), "ask_letters", "ask_letters", defArgs s_ask_letters, defBody s_ask_letters, defScope s_ask_letters, [], []⟩
def d_whole_of : He.DefD := ⟨("whole_of", none), "whole_of", "whole_of", defArgs s_whole_of, defBody s_whole_of, defScope s_whole_of, [], []⟩
def d_mark_of : He.DefD := ⟨("mark_of", none), "mark_of", "mark_of", defArgs s_mark_of, defBody s_mark_of, defScope s_mark_of, [], []⟩
def d_ends_of : He.DefD := ⟨("ends_of", none), "ends_of", "ends_of", defArgs s_ends_of, defBody s_ends_of, defScope s_ends_of, [], []⟩
def d_numbers_between : He.DefD := ⟨("numbers_between", none), "numbers_between", "numbers_between", defArgs s_numbers_between, defBody s_numbers_between, defScope s_numbers_between, [], []⟩
def d_figures_of : He.DefD := ⟨("figures_of", none), "figures_of", "figures_of", defArgs s_figures_of, defBody s_figures_of, defScope s_figures_of, [], []⟩
def d_many_below : He.DefD := ⟨("many_below", none), "many_below", "many_below", defArgs s_many_below, defBody s_many_below, defScope s_many_below, [], []⟩
def d_room_at : He.DefD := ⟨("room_at", none), "room_at", "room_at", defArgs s_room_at, defBody s_room_at, defScope s_room_at, [], []⟩
def d_nth_mark : He.DefD := ⟨("nth_mark", none), "nth_mark", "nth_mark", defArgs s_nth_mark, defBody s_nth_mark, defScope s_nth_mark, [], []⟩
def d_least_long : He.DefD := ⟨("least_long", none), "least_long", "least_long", defArgs s_least_long, defBody s_least_long, defScope s_least_long, [], []⟩
def d_mark_between : He.DefD := ⟨("mark_between", none), "mark_between", "mark_between", defArgs s_mark_between, defBody s_mark_between, defScope s_mark_between, [], []⟩
def d_renewed_long : He.DefD := ⟨("renewed_long", none), "renewed_long", "renewed_long", defArgs s_renewed_long, defBody s_renewed_long, defScope s_renewed_long, [], []⟩
def d_renewed : He.DefD := ⟨("renewed", none), "renewed", "renewed", defArgs s_renewed, defBody s_renewed, defScope s_renewed, [], []⟩
def d_is_thing : He.DefD := ⟨("is_thing", none), "is_thing", "is_thing", defArgs s_is_thing, defBody s_is_thing, defScope s_is_thing, [], []⟩
def d_Shelf___init__ : He.DefD := ⟨("Shelf", some "__init__"), "__init__", "Shelf.__init__", defArgs s_Shelf___init__, defBody s_Shelf___init__, defScope s_Shelf___init__, [], []⟩
def d_Shelf_ask_put : He.DefD := ⟨("Shelf", some "ask_put"), "ask_put", "Shelf.ask_put", defArgs s_Shelf_ask_put, defBody s_Shelf_ask_put, defScope s_Shelf_ask_put, [], []⟩
def d_Shelf_marks_round : He.DefD := ⟨("Shelf", some "marks_round"), "marks_round", "Shelf.marks_round", defArgs s_Shelf_marks_round, defBody s_Shelf_marks_round, defScope s_Shelf_marks_round, [], []⟩
def d_Shelf_put : He.DefD := ⟨("Shelf", some "put"), "put", "Shelf.put", defArgs s_Shelf_put, defBody s_Shelf_put, defScope s_Shelf_put, [], []⟩
def d_Shelf_take : He.DefD := ⟨("Shelf", some "take"), "take", "Shelf.take", defArgs s_Shelf_take, defBody s_Shelf_take, defScope s_Shelf_take, [], []⟩
def d_Shelf_renew : He.DefD := ⟨("Shelf", some "renew"), "renew", "Shelf.renew", defArgs s_Shelf_renew, defBody s_Shelf_renew, defScope s_Shelf_renew, [], []⟩
def d_Shelf_marks : He.DefD := ⟨("Shelf", some "marks"), "marks", "Shelf.marks", defArgs s_Shelf_marks, defBody s_Shelf_marks, defScope s_Shelf_marks, [], []⟩
def d_Shelf_things : He.DefD := ⟨("Shelf", some "things"), "things", "Shelf.things", defArgs s_Shelf_things, defBody s_Shelf_things, defScope s_Shelf_things, [], []⟩
def d_Shelf_longest : He.DefD := ⟨("Shelf", some "longest"), "longest", "Shelf.longest", defArgs s_Shelf_longest, defBody s_Shelf_longest, defScope s_Shelf_longest, [], []⟩
def d_law_draw : He.DefD := ⟨("_law_draw", none), "_law_draw", "_law_draw", defArgs s_law_draw, defBody s_law_draw, defScope s_law_draw, [], []⟩
def d_law_place : He.DefD := ⟨("_law_place", none), "_law_place", "_law_place", defArgs s_law_place, defBody s_law_place, defScope s_law_place, [], []⟩
def d_law_whole : He.DefD := ⟨("_law_whole", none), "_law_whole", "_law_whole", defArgs s_law_whole, defBody s_law_whole, defScope s_law_whole, [], []⟩
def d_law_fewest : He.DefD := ⟨("_law_fewest", none), "_law_fewest", "_law_fewest", defArgs s_law_fewest, defBody s_law_fewest, defScope s_law_fewest, [], []⟩
def d_law_bound : He.DefD := ⟨("_law_bound", none), "_law_bound", "_law_bound", defArgs s_law_bound, defBody s_law_bound, defScope s_law_bound, [], []⟩
def d_law_renewed : He.DefD := ⟨("_law_renewed", none), "_law_renewed", "_law_renewed", defArgs s_law_renewed, defBody s_law_renewed, defScope s_law_renewed, [], []⟩
def d_law : He.DefD := ⟨("law", none), "law", "law", defArgs s_law, defBody s_law, defScope s_law, [], []⟩
def fn : List He.DefD := [d_ask_letters, d_whole_of, d_mark_of, d_ends_of, d_numbers_between, d_figures_of, d_many_below, d_room_at, d_nth_mark, d_least_long, d_mark_between, d_renewed_long, d_renewed, d_is_thing, d_Shelf___init__, d_Shelf_ask_put, d_Shelf_marks_round, d_Shelf_put, d_Shelf_take, d_Shelf_renew, d_Shelf_marks, d_Shelf_things, d_Shelf_longest, d_law_draw, d_law_place, d_law_whole, d_law_fewest, d_law_bound, d_law_renewed, d_law]
def fa : List He.Fa := [.free "divmod", .free "int", .free "isinstance", .free "len", .free "list", .free "max", .free "min", .free "range", .free "sorted", .free "str", .str "LETTERS" "abcdefghijklmnopqrstuvwxyz", .int "LONGEST_THING" 12, .int "MOST_THINGS" 300, .str "SIGNS" "abcdefghijklmnopqrstuvwxyz0123456789", .cls "Shelf", .exc "NoLetters", .exc "NoPlace", .exc "NoRoom", .exc "NoThing", .glo "NoLetters", .glo "NoPlace", .glo "NoRoom", .glo "NoThing", .glo "Shelf", .meth "Shelf" "ask_put", .meth "Shelf" "longest", .meth "Shelf" "marks", .meth "Shelf" "marks_round", .meth "Shelf" "put", .meth "Shelf" "renew", .meth "Shelf" "take", .meth "Shelf" "things", .mkr "Shelf", .noat "Shelf" "letters", .noat "Shelf" "row_marks", .noat "Shelf" "row_things", .glo "ask_letters", .glo "whole_of", .glo "mark_of", .glo "ends_of", .glo "numbers_between", .glo "figures_of", .glo "many_below", .glo "room_at", .glo "nth_mark", .glo "least_long", .glo "mark_between", .glo "renewed_long", .glo "renewed", .glo "is_thing", .glo "_law_draw", .glo "_law_place", .glo "_law_whole", .glo "_law_fewest", .glo "_law_bound", .glo "_law_renewed", .glo "law"]
abbrev R : PySem.W.OpenRow := PySem.W.OpenLaw.row PySem.Challenge.rw_shelfmark_k93_whole_shelf
abbrev AlE : Type := He.AlD × Bool
def obsE (n : Nat) (fa : List He.Fa) (fn : List He.DefD) (ex : PySem.W.Frag → Bool) (g : Addr → Option Obj) : AlE := (He.obsD fa fn (He.frG g (He.asD g n)), ex (He.frG g (He.asD g n)))
def hookE (n : Nat) (fa : List He.Fa) (fn : List He.DefD) (ex : PySem.W.Frag → Bool) : PySem.W.Hook where
  α := AlE
  obs := fun s => obsE n fa fn ex s.heap.get?
  val := fun _ => (He.valD fn, true)
  says := fun _ h => ∃ K : PySem.W.Frag, K.In h ∧ He.SaysD fa fn K ∧ ex K = true
  of := fun _ _ e => ⟨_, He.frG_in, congrArg (fun z : AlE => z.1) e, congrArg (fun z : AlE => z.2) e⟩
  keeps := fun _ _ _ ⟨K, hK, c⟩ k => ⟨K, PySem.W.Frag.In.keeps hK k, c⟩
theorem obsE_eq {n : Nat} {fa : List He.Fa} {fn : List He.DefD} {ex : PySem.W.Frag → Bool} {g : Addr → Option Obj} {s : Shared} (h : ∀ a, g a = s.heap.get? a) : obsE n fa fn ex g = (hookE n fa fn ex).obs s := by
  have e : g = s.heap.get? := funext h
  rw [e] <;> rfl
def excB (K : PySem.W.Frag) (D : Addr) : Bool := decide (PySem.W.findIn K (.ref D) "__getattribute__" = some (some (.builtin "BaseException.__getattribute__"))) && (decide (PySem.W.findIn K (.ref D) "__getattr__" = some none) &&
  (decide (PySem.W.subIn K (.ref D) (.type "BaseException") = some true) && (PySem.W.hasDictIn K D && (decide (PySem.W.findIn K (.ref D) "__class__" = some (some (.builtin "object.__class__"))) &&
  (decide (PySem.W.specialIn K (.builtin "object.__class__") "__get__" = some (some (.builtin "getset_descriptor.__get__"))) && (decide (PySem.W.takesIn K (.builtin "object.__class__") = some true) && decide (PySem.W.mroIn K D (.type "object") = some true)))))))
theorem excB_ok {K : PySem.W.Frag} {D : Addr} (h : excB K D = true) : ExcC K D := by
  obtain ⟨h1, h⟩ := He.ba h
  obtain ⟨h2, h⟩ := He.ba h
  obtain ⟨h3, h⟩ := He.ba h
  obtain ⟨h4, h⟩ := He.ba h
  obtain ⟨h5, h⟩ := He.ba h
  obtain ⟨h6, h⟩ := He.ba h
  obtain ⟨h7, h8⟩ := He.ba h
  exact ⟨of_decide_eq_true h1, of_decide_eq_true h2, of_decide_eq_true h3, h4, of_decide_eq_true h5, of_decide_eq_true h6, of_decide_eq_true h7, of_decide_eq_true h8⟩
theorem all_at {K : PySem.W.Frag} {l : List (PySem.W.Frag → Bool)} (h : (l.all fun f => f K) = true) (i : Nat) {f : PySem.W.Frag → Bool} (e : l[i]? = some f := by rfl) : f K = true := List.all_eq_true.mp h f (List.mem_of_getElem? e)
def exl : List (PySem.W.Frag → Bool) := []
def exb (K : PySem.W.Frag) : Bool := exl.all fun f => f K
abbrev hk : PySem.W.Hook := hookE 4 fa fn exb
def ob (s : PySem.W.SharedT) : AlE := obsE 4 fa fn exb (HandSHeadRun.getT s)
theorem ob_eq (s : PySem.W.SharedT) : ob s = hk.obs s.abs := obsE_eq (HandSHeadRun.getT_eq s)
theorem run (w : World) : HandSHeadRun.RunEq R (PySem.W.view R.prog [38]) hk ob 28885 (("_wall" : Str) :: ("ShelfError" : Str) :: ("NoLetters" : Str) :: ("NoRoom" : Str) :: ("NoThing" : Str) :: ("NoPlace" : Str) :: ("LETTERS" : Str) :: ("ask_letters" : Str) :: ("whole_of" : Str) :: ("mark_of" : Str) :: ("ends_of" : Str) :: ("numbers_between" : Str) :: ("figures_of" : Str) :: ("many_below" : Str) :: ("room_at" : Str) :: ("nth_mark" : Str) :: ("least_long" : Str) :: ("mark_between" : Str) :: ("renewed_long" : Str) :: ("renewed" : Str) :: ("SIGNS" : Str) :: ("LONGEST_THING" : Str) :: ("MOST_THINGS" : Str) :: ("is_thing" : Str) :: ("Shelf" : Str) :: ("_law_draw" : Str) :: ("_law_place" : Str) :: ("_law_whole" : Str) :: ("_law_fewest" : Str) :: ("_law_bound" : Str) :: ("_law_renewed" : Str) :: []) w := by
  intro os
  kernel_rfl
theorem tx {w : World} {K : PySem.W.Frag} {h : Heap} {mg : Str → Option Value} (X : K.In h) (G : h.Ns mainGlobals mg) (c : He.SaysD fa fn K) (cx : exb K = true) : Tx K mg where
  n_divmod := He.free_ok X G (c.fact 0 rfl)
  n_int := He.free_ok X G (c.fact 1 rfl)
  n_isinstance := He.free_ok X G (c.fact 2 rfl)
  n_len := He.free_ok X G (c.fact 3 rfl)
  n_list := He.free_ok X G (c.fact 4 rfl)
  n_max := He.free_ok X G (c.fact 5 rfl)
  n_min := He.free_ok X G (c.fact 6 rfl)
  n_range := He.free_ok X G (c.fact 7 rfl)
  n_sorted := He.free_ok X G (c.fact 8 rfl)
  n_str := He.free_ok X G (c.fact 9 rfl)
  g_LETTERS := He.str_ok X G (c.fact 10 rfl)
  g_LONGEST_THING := He.int_ok X G (c.fact 11 rfl)
  g_MOST_THINGS := He.int_ok X G (c.fact 12 rfl)
  g_SIGNS := He.str_ok X G (c.fact 13 rfl)
  x_NoLetters := (He.exc_ok (c.fact 15 rfl)).1
  k_NoLetters := (He.exc_ok (c.fact 15 rfl)).2.1
  b_NoLetters := (He.exc_ok (c.fact 15 rfl)).2.2.1
  t_NoLetters := (He.exc_ok (c.fact 15 rfl)).2.2.2
  x_NoPlace := (He.exc_ok (c.fact 16 rfl)).1
  k_NoPlace := (He.exc_ok (c.fact 16 rfl)).2.1
  b_NoPlace := (He.exc_ok (c.fact 16 rfl)).2.2.1
  t_NoPlace := (He.exc_ok (c.fact 16 rfl)).2.2.2
  x_NoRoom := (He.exc_ok (c.fact 17 rfl)).1
  k_NoRoom := (He.exc_ok (c.fact 17 rfl)).2.1
  b_NoRoom := (He.exc_ok (c.fact 17 rfl)).2.2.1
  t_NoRoom := (He.exc_ok (c.fact 17 rfl)).2.2.2
  x_NoThing := (He.exc_ok (c.fact 18 rfl)).1
  k_NoThing := (He.exc_ok (c.fact 18 rfl)).2.1
  b_NoThing := (He.exc_ok (c.fact 18 rfl)).2.2.1
  t_NoThing := (He.exc_ok (c.fact 18 rfl)).2.2.2
  g_NoLetters := He.glo_ok X G (c.fact 19 rfl)
  g_NoPlace := He.glo_ok X G (c.fact 20 rfl)
  g_NoRoom := He.glo_ok X G (c.fact 21 rfl)
  g_NoThing := He.glo_ok X G (c.fact 22 rfl)
  g_Shelf := He.glo_ok X G (c.fact 23 rfl)
  kx := {c_Shelf := He.cls_ok (c.fact 14 rfl), m_Shelf_ask_put := He.meth_ok (c.fact 24 rfl), m_Shelf_longest := He.meth_ok (c.fact 25 rfl), m_Shelf_marks := He.meth_ok (c.fact 26 rfl), m_Shelf_marks_round := He.meth_ok (c.fact 27 rfl), m_Shelf_put := He.meth_ok (c.fact 28 rfl), m_Shelf_renew := He.meth_ok (c.fact 29 rfl), m_Shelf_take := He.meth_ok (c.fact 30 rfl), m_Shelf_things := He.meth_ok (c.fact 31 rfl), mk_Shelf := He.mkr_ok (c.fact 32 rfl), a_Shelf_letters := He.noat_ok (c.fact 33 rfl), a_Shelf_row_marks := He.noat_ok (c.fact 34 rfl), a_Shelf_row_things := He.noat_ok (c.fact 35 rfl)}
theorem facts {P : Program} {w : World} {K : PySem.W.Frag} {h : Heap} {mg : Str → Option Value} {f : Addr} (X : K.In h) (G : h.Ns mainGlobals mg) (hfa : mg ("law" : Str) = some (.ref f)) (c : He.SaysD fa fn K) (cx : exb K = true) :
    ∃ fd : FuncData, (∀ (s : Shared) (v : Value), BindsTo s fd ⟨[v], []⟩ [("script", v)]) ∧ ∀ base : Heap, K.In base → base.Ns mainGlobals mg → FnOk P w K mg base (L2.CX P w) 7 f fd ["script"] (sp_law K) := by
  have T : Tx K mg := tx (w := w) X G c cx
  obtain ⟨fd_ask_letters, F_ask_letters⟩ := c.def_ 0 (d := d_ask_letters) rfl
  obtain ⟨fd_whole_of, F_whole_of⟩ := c.def_ 1 (d := d_whole_of) rfl
  obtain ⟨fd_mark_of, F_mark_of⟩ := c.def_ 2 (d := d_mark_of) rfl
  obtain ⟨fd_ends_of, F_ends_of⟩ := c.def_ 3 (d := d_ends_of) rfl
  obtain ⟨fd_numbers_between, F_numbers_between⟩ := c.def_ 4 (d := d_numbers_between) rfl
  obtain ⟨fd_figures_of, F_figures_of⟩ := c.def_ 5 (d := d_figures_of) rfl
  obtain ⟨fd_many_below, F_many_below⟩ := c.def_ 6 (d := d_many_below) rfl
  obtain ⟨fd_room_at, F_room_at⟩ := c.def_ 7 (d := d_room_at) rfl
  obtain ⟨fd_nth_mark, F_nth_mark⟩ := c.def_ 8 (d := d_nth_mark) rfl
  obtain ⟨fd_least_long, F_least_long⟩ := c.def_ 9 (d := d_least_long) rfl
  obtain ⟨fd_mark_between, F_mark_between⟩ := c.def_ 10 (d := d_mark_between) rfl
  obtain ⟨fd_renewed_long, F_renewed_long⟩ := c.def_ 11 (d := d_renewed_long) rfl
  obtain ⟨fd_renewed, F_renewed⟩ := c.def_ 12 (d := d_renewed) rfl
  obtain ⟨fd_is_thing, F_is_thing⟩ := c.def_ 13 (d := d_is_thing) rfl
  obtain ⟨fd_Shelf___init__, F_Shelf___init__⟩ := c.def_ 14 (d := d_Shelf___init__) rfl
  obtain ⟨fd_Shelf_ask_put, F_Shelf_ask_put⟩ := c.def_ 15 (d := d_Shelf_ask_put) rfl
  obtain ⟨fd_Shelf_marks_round, F_Shelf_marks_round⟩ := c.def_ 16 (d := d_Shelf_marks_round) rfl
  obtain ⟨fd_Shelf_put, F_Shelf_put⟩ := c.def_ 17 (d := d_Shelf_put) rfl
  obtain ⟨fd_Shelf_take, F_Shelf_take⟩ := c.def_ 18 (d := d_Shelf_take) rfl
  obtain ⟨fd_Shelf_renew, F_Shelf_renew⟩ := c.def_ 19 (d := d_Shelf_renew) rfl
  obtain ⟨fd_Shelf_marks, F_Shelf_marks⟩ := c.def_ 20 (d := d_Shelf_marks) rfl
  obtain ⟨fd_Shelf_things, F_Shelf_things⟩ := c.def_ 21 (d := d_Shelf_things) rfl
  obtain ⟨fd_Shelf_longest, F_Shelf_longest⟩ := c.def_ 22 (d := d_Shelf_longest) rfl
  obtain ⟨fd_law_draw, F_law_draw⟩ := c.def_ 23 (d := d_law_draw) rfl
  obtain ⟨fd_law_place, F_law_place⟩ := c.def_ 24 (d := d_law_place) rfl
  obtain ⟨fd_law_whole, F_law_whole⟩ := c.def_ 25 (d := d_law_whole) rfl
  obtain ⟨fd_law_fewest, F_law_fewest⟩ := c.def_ 26 (d := d_law_fewest) rfl
  obtain ⟨fd_law_bound, F_law_bound⟩ := c.def_ 27 (d := d_law_bound) rfl
  obtain ⟨fd_law_renewed, F_law_renewed⟩ := c.def_ 28 (d := d_law_renewed) rfl
  obtain ⟨fd_law, F_law⟩ := c.def_ 29 (d := d_law) rfl
  have e := hfa.symm.trans (He.glo_ok X G (c.fact 56 (f := .glo "law") rfl))
  cases e
  have b := FunD.bindsA (ps := ["script"]) F_law fun _ _ _ _ _ _ us hl => match us, hl with | [_], _ => rfl
  refine ⟨fd_law, fun s v => b s [v] rfl, fun base _ _ => ?_⟩
  have G_ask_letters : FnG P w K mg base (L2.CX P w) "ask_letters" ["letters", "hands"] 1 (sp_ask_letters K) := ⟨⟨_, fd_ask_letters, He.glo_ok X G (c.fact 36 (f := .glo "ask_letters") rfl), F_ask_letters.kp, F_ask_letters.bindsN (fun _ _ _ _ _ _ us hl => match us, hl with | [_, _], _ => rfl), ok_ask_letters F_ask_letters T ⟩⟩
  have G_whole_of : FnG P w K mg base (L2.CX P w) "whole_of" ["letters", "mark", "long"] 1 (sp_whole_of K) := ⟨⟨_, fd_whole_of, He.glo_ok X G (c.fact 37 (f := .glo "whole_of") rfl), F_whole_of.kp, F_whole_of.bindsN (fun _ _ _ _ _ _ us hl => match us, hl with | [_, _, _], _ => rfl), ok_whole_of F_whole_of T ⟩⟩
  have G_mark_of : FnG P w K mg base (L2.CX P w) "mark_of" ["letters", "number", "long"] 1 (sp_mark_of K) := ⟨⟨_, fd_mark_of, He.glo_ok X G (c.fact 38 (f := .glo "mark_of") rfl), F_mark_of.kp, F_mark_of.bindsN (fun _ _ _ _ _ _ us hl => match us, hl with | [_, _, _], _ => rfl), ok_mark_of F_mark_of T ⟩⟩
  have G_ends_of : FnG P w K mg base (L2.CX P w) "ends_of" ["letters", "hands", "hand"] 1 (sp_ends_of K) := ⟨⟨_, fd_ends_of, He.glo_ok X G (c.fact 39 (f := .glo "ends_of") rfl), F_ends_of.kp, F_ends_of.bindsN (fun _ _ _ _ _ _ us hl => match us, hl with | [_, _, _], _ => rfl), ok_ends_of F_ends_of T ⟩⟩
  have G_numbers_between : FnG P w K mg base (L2.CX P w) "numbers_between" ["letters", "low", "high", "long"] 2 (sp_numbers_between K) := ⟨⟨_, fd_numbers_between, He.glo_ok X G (c.fact 40 (f := .glo "numbers_between") rfl), F_numbers_between.kp, F_numbers_between.bindsN (fun _ _ _ _ _ _ us hl => match us, hl with | [_, _, _, _], _ => rfl), ok_numbers_between F_numbers_between T G_whole_of⟩⟩
  have G_figures_of : FnG P w K mg base (L2.CX P w) "figures_of" ["letters", "hands", "hand"] 2 (sp_figures_of K) := ⟨⟨_, fd_figures_of, He.glo_ok X G (c.fact 41 (f := .glo "figures_of") rfl), F_figures_of.kp, F_figures_of.bindsN (fun _ _ _ _ _ _ us hl => match us, hl with | [_, _, _], _ => rfl), ok_figures_of F_figures_of T G_ends_of⟩⟩
  have G_many_below : FnG P w K mg base (L2.CX P w) "many_below" ["letters", "figures", "number"] 1 (sp_many_below K) := ⟨⟨_, fd_many_below, He.glo_ok X G (c.fact 42 (f := .glo "many_below") rfl), F_many_below.kp, F_many_below.bindsN (fun _ _ _ _ _ _ us hl => match us, hl with | [_, _, _], _ => rfl), ok_many_below F_many_below T ⟩⟩
  have G_room_at : FnG P w K mg base (L2.CX P w) "room_at" ["letters", "hands", "hand", "low", "high", "long"] 3 (sp_room_at K) := ⟨⟨_, fd_room_at, He.glo_ok X G (c.fact 43 (f := .glo "room_at") rfl), F_room_at.kp, F_room_at.bindsN (fun _ _ _ _ _ _ us hl => match us, hl with | [_, _, _, _, _, _], _ => rfl), ok_room_at F_room_at T G_numbers_between G_figures_of G_many_below⟩⟩
  have G_nth_mark : FnG P w K mg base (L2.CX P w) "nth_mark" ["letters", "hands", "hand", "low", "high", "long", "number"] 3 (sp_nth_mark K) := ⟨⟨_, fd_nth_mark, He.glo_ok X G (c.fact 44 (f := .glo "nth_mark") rfl), F_nth_mark.kp, F_nth_mark.bindsN (fun _ _ _ _ _ _ us hl => match us, hl with | [_, _, _, _, _, _, _], _ => rfl), ok_nth_mark F_nth_mark T G_numbers_between G_figures_of G_many_below G_mark_of⟩⟩
  have G_least_long : FnG P w K mg base (L2.CX P w) "least_long" ["letters", "hands", "hand", "low", "high", "many"] 4 (sp_least_long K) := ⟨⟨_, fd_least_long, He.glo_ok X G (c.fact 45 (f := .glo "least_long") rfl), F_least_long.kp, F_least_long.bindsN (fun _ _ _ _ _ _ us hl => match us, hl with | [_, _, _, _, _, _], _ => rfl), ok_least_long F_least_long T G_room_at⟩⟩
  have G_mark_between : FnG P w K mg base (L2.CX P w) "mark_between" ["letters", "hands", "hand", "low", "high"] 5 (sp_mark_between K) := ⟨⟨_, fd_mark_between, He.glo_ok X G (c.fact 46 (f := .glo "mark_between") rfl), F_mark_between.kp, F_mark_between.bindsN (fun _ _ _ _ _ _ us hl => match us, hl with | [_, _, _, _, _], _ => rfl), ok_mark_between F_mark_between T G_least_long G_room_at G_nth_mark⟩⟩
  have G_renewed_long : FnG P w K mg base (L2.CX P w) "renewed_long" ["letters", "many"] 1 (sp_renewed_long K) := ⟨⟨_, fd_renewed_long, He.glo_ok X G (c.fact 47 (f := .glo "renewed_long") rfl), F_renewed_long.kp, F_renewed_long.bindsN (fun _ _ _ _ _ _ us hl => match us, hl with | [_, _], _ => rfl), ok_renewed_long F_renewed_long T ⟩⟩
  have G_renewed : FnG P w K mg base (L2.CX P w) "renewed" ["letters", "many"] 2 (sp_renewed K) := ⟨⟨_, fd_renewed, He.glo_ok X G (c.fact 48 (f := .glo "renewed") rfl), F_renewed.kp, F_renewed.bindsN (fun _ _ _ _ _ _ us hl => match us, hl with | [_, _], _ => rfl), ok_renewed F_renewed T G_renewed_long G_mark_of⟩⟩
  have G_is_thing : FnG P w K mg base (L2.CX P w) "is_thing" ["text"] 1 (sp_is_thing K) := ⟨⟨_, fd_is_thing, He.glo_ok X G (c.fact 49 (f := .glo "is_thing") rfl), F_is_thing.kp, F_is_thing.bindsN (fun _ _ _ _ _ _ us hl => match us, hl with | [_], _ => rfl), ok_is_thing F_is_thing T ⟩⟩
  have G_Shelf___init__ : FnI P w K mg base (L2.CX P w) (He.ga K "Shelf") ["self", "letters"] 2 (sp_Shelf___init__ K) := ⟨⟨_, fd_Shelf___init__, T.kx.mk_Shelf, F_Shelf___init__.bindsN (fun _ _ _ _ _ _ us hl => match us, hl with | [_, _], _ => rfl), ok_Shelf___init__ F_Shelf___init__ T G_ask_letters⟩⟩
  have G_Shelf_ask_put : FnM P w K mg base (L2.CX P w) (He.ga K "Shelf") "ask_put" ["self", "place", "some"] 2 (sp_Shelf_ask_put K) := ⟨⟨_, fd_Shelf_ask_put, T.kx.m_Shelf_ask_put, F_Shelf_ask_put.bindsN (fun _ _ _ _ _ _ us hl => match us, hl with | [_, _, _], _ => rfl), ok_Shelf_ask_put F_Shelf_ask_put T G_is_thing⟩⟩
  have G_Shelf_marks_round : FnM P w K mg base (L2.CX P w) (He.ga K "Shelf") "marks_round" ["self", "place"] 1 (sp_Shelf_marks_round K) := ⟨⟨_, fd_Shelf_marks_round, T.kx.m_Shelf_marks_round, F_Shelf_marks_round.bindsN (fun _ _ _ _ _ _ us hl => match us, hl with | [_, _], _ => rfl), ok_Shelf_marks_round F_Shelf_marks_round T ⟩⟩
  have G_Shelf_put : FnM P w K mg base (L2.CX P w) (He.ga K "Shelf") "put" ["self", "place", "thing"] 6 (sp_Shelf_put K) := ⟨⟨_, fd_Shelf_put, T.kx.m_Shelf_put, F_Shelf_put.bindsN (fun _ _ _ _ _ _ us hl => match us, hl with | [_, _, _], _ => rfl), ok_Shelf_put F_Shelf_put T G_Shelf_ask_put G_Shelf_marks_round G_mark_between⟩⟩
  have G_Shelf_take : FnM P w K mg base (L2.CX P w) (He.ga K "Shelf") "take" ["self", "place"] 1 (sp_Shelf_take K) := ⟨⟨_, fd_Shelf_take, T.kx.m_Shelf_take, F_Shelf_take.bindsN (fun _ _ _ _ _ _ us hl => match us, hl with | [_, _], _ => rfl), ok_Shelf_take F_Shelf_take T ⟩⟩
  have G_Shelf_renew : FnM P w K mg base (L2.CX P w) (He.ga K "Shelf") "renew" ["self"] 3 (sp_Shelf_renew K) := ⟨⟨_, fd_Shelf_renew, T.kx.m_Shelf_renew, F_Shelf_renew.bindsN (fun _ _ _ _ _ _ us hl => match us, hl with | [_], _ => rfl), ok_Shelf_renew F_Shelf_renew T G_renewed⟩⟩
  have G_Shelf_marks : FnM P w K mg base (L2.CX P w) (He.ga K "Shelf") "marks" ["self"] 1 (sp_Shelf_marks K) := ⟨⟨_, fd_Shelf_marks, T.kx.m_Shelf_marks, F_Shelf_marks.bindsN (fun _ _ _ _ _ _ us hl => match us, hl with | [_], _ => rfl), ok_Shelf_marks F_Shelf_marks T ⟩⟩
  have G_Shelf_things : FnM P w K mg base (L2.CX P w) (He.ga K "Shelf") "things" ["self"] 1 (sp_Shelf_things K) := ⟨⟨_, fd_Shelf_things, T.kx.m_Shelf_things, F_Shelf_things.bindsN (fun _ _ _ _ _ _ us hl => match us, hl with | [_], _ => rfl), ok_Shelf_things F_Shelf_things T ⟩⟩
  have G_Shelf_longest : FnM P w K mg base (L2.CX P w) (He.ga K "Shelf") "longest" ["self"] 1 (sp_Shelf_longest K) := ⟨⟨_, fd_Shelf_longest, T.kx.m_Shelf_longest, F_Shelf_longest.bindsN (fun _ _ _ _ _ _ us hl => match us, hl with | [_], _ => rfl), ok_Shelf_longest F_Shelf_longest T ⟩⟩
  have G_law_draw : FnG P w K mg base (L2.CX P w) "_law_draw" ["script", "k", "many"] 1 (sp_law_draw K) := ⟨⟨_, fd_law_draw, He.glo_ok X G (c.fact 50 (f := .glo "_law_draw") rfl), F_law_draw.kp, F_law_draw.bindsN (fun _ _ _ _ _ _ us hl => match us, hl with | [_, _, _], _ => rfl), ok_law_draw F_law_draw T ⟩⟩
  have G_law_place : FnG P w K mg base (L2.CX P w) "_law_place" ["script", "k", "many", "last"] 2 (sp_law_place K) := ⟨⟨_, fd_law_place, He.glo_ok X G (c.fact 51 (f := .glo "_law_place") rfl), F_law_place.kp, F_law_place.bindsN (fun _ _ _ _ _ _ us hl => match us, hl with | [_, _, _, _], _ => rfl), ok_law_place F_law_place T G_law_draw⟩⟩
  have G_law_whole : FnG P w K mg base (L2.CX P w) "_law_whole" ["letters", "mark", "long"] 1 (sp_law_whole K) := ⟨⟨_, fd_law_whole, He.glo_ok X G (c.fact 52 (f := .glo "_law_whole") rfl), F_law_whole.kp, F_law_whole.bindsN (fun _ _ _ _ _ _ us hl => match us, hl with | [_, _, _], _ => rfl), ok_law_whole F_law_whole T ⟩⟩
  have G_law_fewest : FnG P w K mg base (L2.CX P w) "_law_fewest" ["letters", "low", "mark", "high"] 2 (sp_law_fewest K) := ⟨⟨_, fd_law_fewest, He.glo_ok X G (c.fact 53 (f := .glo "_law_fewest") rfl), F_law_fewest.kp, F_law_fewest.bindsN (fun _ _ _ _ _ _ us hl => match us, hl with | [_, _, _, _], _ => rfl), ok_law_fewest F_law_fewest T G_law_whole⟩⟩
  have G_law_bound : FnG P w K mg base (L2.CX P w) "_law_bound" ["letters", "many"] 1 (sp_law_bound K) := ⟨⟨_, fd_law_bound, He.glo_ok X G (c.fact 54 (f := .glo "_law_bound") rfl), F_law_bound.kp, F_law_bound.bindsN (fun _ _ _ _ _ _ us hl => match us, hl with | [_, _], _ => rfl), ok_law_bound F_law_bound T ⟩⟩
  have G_law_renewed : FnG P w K mg base (L2.CX P w) "_law_renewed" ["letters", "shelf"] 4 (sp_law_renewed K) := ⟨⟨_, fd_law_renewed, He.glo_ok X G (c.fact 55 (f := .glo "_law_renewed") rfl), F_law_renewed.kp, F_law_renewed.bindsN (fun _ _ _ _ _ _ us hl => match us, hl with | [_, _], _ => rfl), ok_law_renewed F_law_renewed T G_Shelf_things G_Shelf_renew G_Shelf_marks G_Shelf_longest⟩⟩
  exact ok_law F_law T G_law_draw G_law_place G_Shelf_put G_law_fewest G_Shelf_longest G_law_bound G_Shelf_marks G_Shelf_things G_Shelf_take G_law_renewed G_Shelf___init__
end Sm
open PySem PySem.W PySem.Calls PyProof.Rows
set_option maxRecDepth 100000 in
set_option maxHeartbeats 0 in
theorem PySem.Challenge.cw_shelfmark_k93_whole_shelf_holds : PySem.Challenge.rw_shelfmark_k93_whole_shelf.Holds := by
  w_on; o_law
  refine HandSHeadRun.head_any (r := OpenLaw.row PySem.Challenge.rw_shelfmark_k93_whole_shelf) (q := view (OpenLaw.row PySem.Challenge.rw_shelfmark_k93_whole_shelf).prog [38]) (H := Sm.hk) (ob := Sm.ob) (M := 28885) (loose := (("_wall" : Str) :: ("ShelfError" : Str) :: ("NoLetters" : Str) :: ("NoRoom" : Str) :: ("NoThing" : Str) :: ("NoPlace" : Str) :: ("LETTERS" : Str) :: ("ask_letters" : Str) :: ("whole_of" : Str) :: ("mark_of" : Str) :: ("ends_of" : Str) :: ("numbers_between" : Str) :: ("figures_of" : Str) :: ("many_below" : Str) :: ("room_at" : Str) :: ("nth_mark" : Str) :: ("least_long" : Str) :: ("mark_between" : Str) :: ("renewed_long" : Str) :: ("renewed" : Str) :: ("SIGNS" : Str) :: ("LONGEST_THING" : Str) :: ("MOST_THINGS" : Str) :: ("is_thing" : Str) :: ("Shelf" : Str) :: ("_law_draw" : Str) :: ("_law_place" : Str) :: ("_law_whole" : Str) :: ("_law_fewest" : Str) :: ("_law_bound" : Str) :: ("_law_renewed" : Str) :: [])) (d := HandSHeadRun.topDef (OpenLaw.row PySem.Challenge.rw_shelfmark_k93_whole_shelf).prog 38) (kwd := []) Sm.ob_eq
    (by kernel_rfl) (fun s => by kernel_rfl) Sm.run (by kernel_rfl) (by kernel_rfl) (by kernel_rfl) (by rfl) (by first | assumption | decide +kernel) (by decide +kernel) ⟨rfl, rfl, rfl, rfl, rfl, by decide +kernel⟩ ?hw ?hc
  case hw => w_witness2
  case hc =>
    refine Sm.walk_ofW (l := PySem.Challenge.rw_shelfmark_k93_whole_shelf) (n := 63) (k := 7) (x := "script") (CX := fun w => L2.CX (PySem.Challenge.rw_shelfmark_k93_whole_shelf).prog w) rfl (by decide) (by kernel_rfl) ⟨rfl, by decide, by decide⟩ ?F (fun _ _ _ _ _ z => Sm.cx_none z)
    case F =>
      intro w mg fa h Y G hmg0
      obtain ⟨K, KX, c, cx⟩ := Y
      have hmg : mg ("law" : PySem.Str) = some (.ref fa) := by
        have e : (HandSHeadRun.topDef (OpenLaw.row PySem.Challenge.rw_shelfmark_k93_whole_shelf).prog 38).name = ("law" : PySem.Str) := by kernel_rfl
        rw [← e]
        exact hmg0
      obtain ⟨fd, hb, hF⟩ := Sm.facts (P := (PySem.Challenge.rw_shelfmark_k93_whole_shelf).prog) (w := w) KX G hmg c cx
      exact ⟨K, fd, Sm.sp_law K, KX, hb, fun H a ns hl hO hS => Sm.law_in hO hS hl, hF⟩
