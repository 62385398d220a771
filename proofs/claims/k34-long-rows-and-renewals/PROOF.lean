import PyProof.Rows.All
import Wide.All
import OpenK.AllK
import Wide.FinOn
import HandS.ForMost
import HandS.ForExc
import HandS.Wide
import HandS.StrMore
import HandS.SortInts
import HandS.CallSlots
import HandS.Defaults
import HandS.HeadHook1
import HandS.Walk
import HandS.Codes
import HandS.IsInst
import HandS.ExcIs
import HandS.Flow
import HandS.SortKw
import HandS.More
import HandS.SetFor
import HandS.WideBits
import HandS.Keys
import HandS.ExcInit
import HandS.HotCalls
import HandS.DictTup
import HandS.SortRule
import HandS.ListItems
import PyProof.LongRange
import HandS.WordsDict
import HandS.TupAny
import HandS.Deep
import HandS.TryOnly
import HandS.Strs
import HandS.Set
import HandS.Head0
import HandS.Head1
import HandS.Head2
import HandS.HeadEnd
import HandS.HeadHook2
import PySem.Challenge.RW_shelfmark_k34_long_rows_and_renewals
set_option Elab.async false
set_option linter.all false
set_option maxRecDepth 100000
set_option maxHeartbeats 8000000
/-! SmBase: forgetting new objects (Trim), calls by promises (FnG), steps. -/
namespace Sm
open PySem PySem.Spec PyProof.Rows L2

/-! ### forgetting what is new -/
def okO (H : Hp) (a : Addr) : HO → Prop
  | .dT _ => False
  | .ins _ dx _ => H dx = some (.own a)
  | .frz _ u => okO H a u
  | _ => True
/-- each tracked instance's own dict is tracked, no dict with tuple keys -/
def Clo (H : Hp) : Prop := ∀ a o, H a = some o → okO H a o
structure Trim (H H1 H2 : Hp) : Prop where
  sub : ∀ a o, H2 a = some o → H1 a = some o
  tup : ∀ a xs, H a = some (.tup xs) → H2 a = some (.tup xs)
  frz : ∀ a o u, H a = some (.frz o u) → H2 a = some (.frz o u)
  tbl : ∀ a ps, H a = some (.tbl ps) → ∃ more, H2 a = some (.tbl (ps ++ more))
  clo : Clo H2
def Ex (H H' : Hp) : Prop := ∀ a o, H a = some o → H' a = some o
theorem Ex.refl (H : Hp) : Ex H H := fun _ _ h => h
theorem Ex.trans {H H1 H2 : Hp} (a : Ex H H1) (b : Ex H1 H2) : Ex H H2 := fun x o h => b x o (a x o h)
theorem Ex.new {H H' : Hp} {p : Addr} {o : HO} (e : Ex H H') (h : H p = none) : Ex H (upd H' p o) := fun a u ha => by
  rw [upd_ne (ne_of_none ha h)]
  exact e a u ha
theorem Ex.back {H H' : Hp} {p : Addr} (e : Ex H H') (h : H' p = none) : H p = none := by
  cases q : H p with
  | none => rfl
  | some o =>
    rw [e p o q] at h
    cases h
theorem Trim.back {H H' : Hp} (e : Ex H H') (c : Clo H) : Trim H H' H :=
  ⟨e, fun _ _ h => h, fun _ _ _ h => h, fun _ ps h => ⟨#[], by rw [h, Array.append_empty]⟩, c⟩
/-- one new object stays -/
theorem Trim.keep {H H' : Hp} {p : Addr} {o : HO} (e : Ex H H') (hp : H p = none) (h : H' p = some o) (c : Clo H) (ho : okO (upd H p o) p o) : Trim H H' (upd H p o) := by
  refine ⟨fun a u q => ?_, fun a xs q => ?_, fun a ob u q => ?_, fun a ps q => ⟨#[], ?_⟩, fun a u q => ?_⟩
  · by_cases ha : a = p
    · rw [ha, upd_same] at q; cases q; rw [ha]; exact h
    · rw [upd_ne ha] at q; exact e a u q
  · rw [upd_ne (ne_of_none q hp)]; exact q
  · rw [upd_ne (ne_of_none q hp)]; exact q
  · rw [upd_ne (ne_of_none q hp), q, Array.append_empty]
  · by_cases ha : a = p
    · rw [ha, upd_same] at q; cases q; rw [ha]; exact ho
    · rw [upd_ne ha] at q
      have z := c a u q
      clear q ha
      induction u with
      | dT _ => exact z
      | ins C dx fs =>
        have z' : H dx = some (.own a) := z
        show upd H p o dx = some (.own a)
        rw [upd_ne (ne_of_none z' hp)]; exact z'
      | frz ob v ih => exact ih z
      | _ => trivial
theorem okO_objOk {P : Program} {w : World} {H H1 : Hp} {h : Heap} {a : Addr} : ∀ {o : HO}, okO H a o → ObjOk P w H1 h a o → ObjOk P w H h a o := by
  intro o
  induction o with
  | ins C dx fs =>
    intro z x
    obtain ⟨_, x2, x3, x4, x5⟩ := x
    exact ⟨z, x2, x3, x4, x5⟩
  | dT _ => intro z; exact False.elim z
  | frz ob u ih =>
    intro z x
    obtain ⟨e, q⟩ := x
    exact ⟨e, ih z q⟩
  | _ => intro _ x; exact x
theorem hok_trim {P : Program} {w : World} {H H1 H2 : Hp} {h : Heap} (t : Trim H H1 H2) (x : HOk P w H1 h) : HOk P w H2 h := fun a o e => okO_objOk (t.clo a o e) (x a o (t.sub a o e))
theorem Trim.gone {H H1 H2 : Hp} (t : Trim H H1 H2) {a : Addr} (h : H1 a = none) : H2 a = none := by
  cases q : H2 a with
  | none => rfl
  | some o =>
    rw [t.sub a o q] at h
    cases h
section
variable {X : Cx} {pins : List (Addr × Obj)} {σ σ0 : L2.St} {H H1 H2 : Hp} {s s0 : Shared}
theorem inv_trim (I0 : Inv X pins σ0 H s0) (I : Inv X pins σ H1 s) (t : Trim H H1 H2) : Inv X pins σ H2 s where
  ok := I.ok
  os := I.os
  bare := I.bare
  base := ⟨fun b o e n hb hx => I.base.keep b o e n hb hx, fun b o e n hb hx => I.base.slot b o e n hb hx, fun b o e n hx => t.gone (I.base.free b o e n hx), I.base.there,
    fun b xs e => t.tup b xs (I0.base.tups b xs e), fun b o u e => t.frz b o u (I0.base.frzs b o u e), fun b ps e => by
      obtain ⟨m1, e1⟩ := I0.base.tbls b ps e
      obtain ⟨m2, e2⟩ := t.tbl b _ e1
      exact ⟨m1 ++ m2, by rw [e2, Array.append_assoc]⟩⟩
  loc := I.loc
  cell := I.cell
  free := t.gone I.free
  freeC := fun x c e => t.gone (I.freeC x c e)
  pin := fun p hp => by
    obtain ⟨a, b, c⟩ := I.pin p hp
    exact ⟨a, t.gone b, c⟩
  hok := hok_trim t I.hok
  len := I.len
/-- a statement behind which new objects may be forgotten -/
def tTrim (t : TS) : TS := fun D σ H => t ⟨fun σ1 H1 => ∃ H2, Trim H H1 H2 ∧ D.nx σ1 H2, fun v H1 => ∃ H2, Trim H H1 H2 ∧ D.rt v H2, fun σ1 H1 => ∃ H2, Trim H H1 H2 ∧ D.bk σ1 H2, fun σ1 H1 => ∃ H2, Trim H H1 H2 ∧ D.ct σ1 H2⟩ σ H
theorem ps_trim {st : Stmt} {t : TS} (h : PS X st t) : PS X st (tTrim t) := ⟨fun pins s σ H D I q => by
  refine thn (h.run pins s σ H _ I q) fun f s' z => ?_
  cases f with
  | next =>
    obtain ⟨σ', H', I', H2, tr, d⟩ := z
    exact ⟨σ', H2, inv_trim I I' tr, d⟩
  | brk =>
    obtain ⟨σ', H', I', H2, tr, d⟩ := z
    exact ⟨σ', H2, inv_trim I I' tr, d⟩
  | cont =>
    obtain ⟨σ', H', I', H2, tr, d⟩ := z
    exact ⟨σ', H2, inv_trim I I' tr, d⟩
  | ret u =>
    obtain ⟨v, σ', H', I', r, H2, tr, d⟩ := z
    exact ⟨v, σ', H2, inv_trim I I' tr, r, d⟩⟩
def tTrimE (t : TE) : TE := fun σ H Q => t σ H fun v H1 => ∃ H2, Trim H H1 H2 ∧ Q v H2
theorem pe_trim {e : Expr} {t : TE} (h : PE X e t) : PE X e (tTrimE t) := ⟨fun pins s σ H Q I q => by
  refine thn (h.run pins s σ H _ I q) fun f s' z => ?_
  obtain ⟨v, H', I', r, H2, tr, d⟩ := z
  exact ⟨v, H2, inv_trim I I' tr, r, d⟩⟩
end

/-- what a state's tuples, locked things stay in -/
structure Rst (H0 H : Hp) : Prop where
  ex : ∀ a o, H0 a = some o → H a = some o
  tup : ∀ a xs, H a = some (.tup xs) → H0 a = some (.tup xs)
  frz : ∀ a o u, H a = some (.frz o u) → H0 a = some (.frz o u)
  tbl : ∀ a ps, H a = some (.tbl ps) → H0 a = some (.tbl ps)
def softO : HO → Bool
  | .tup _ => false
  | .frz _ _ => false
  | .tbl _ => false
  | _ => true
theorem Rst.refl (H : Hp) : Rst H H := ⟨fun _ _ h => h, fun _ _ h => h, fun _ _ _ h => h, fun _ _ h => h⟩
theorem Rst.new {H0 H : Hp} {p : Addr} {o : HO} (r : Rst H0 H) (h : H0 p = none) (s : softO o = true) : Rst H0 (upd H p o) := by
  refine ⟨fun a u q => ?_, fun a xs q => ?_, fun a ob u q => ?_, fun a ps q => ?_⟩
  · rw [upd_ne (ne_of_none q h)]; exact r.ex a u q
  · by_cases ha : a = p
    · rw [ha, upd_same] at q; cases q; cases s
    · rw [upd_ne ha] at q; exact r.tup a xs q
  · by_cases ha : a = p
    · rw [ha, upd_same] at q; cases q; cases s
    · rw [upd_ne ha] at q; exact r.frz a ob u q
  · by_cases ha : a = p
    · rw [ha, upd_same] at q; cases q; cases s
    · rw [upd_ne ha] at q; exact r.tbl a ps q
theorem Trim.to {H0 H H1 H2 : Hp} (r : Rst H0 H) (e : Ex H0 H2) (s : Ex H2 H1) (c : Clo H2) : Trim H H1 H2 :=
  ⟨s, fun a xs h => e a _ (r.tup a xs h), fun a o u h => e a _ (r.frz a o u h), fun a ps h => ⟨#[], by rw [e a _ (r.tbl a ps h), Array.append_empty]⟩, c⟩
theorem Trim.refl {H : Hp} (c : Clo H) : Trim H H H := Trim.to (Rst.refl H) (Ex.refl H) (Ex.refl H) c
/-- nothing that is tracked is a hard one -/
theorem clo_upd {H : Hp} {p : Addr} {o : HO} (c : Clo H) (hp : H p = none) (ho : okO (upd H p o) p o) : Clo (upd H p o) := (Trim.keep (H' := upd H p o) (Ex.new (Ex.refl H) hp) hp upd_same c ho).clo
/-- a thing at p that owns nothing is replaced -/
def plainO : HO → Bool
  | .lst _ => true
  | .tup _ => true
  | .dK _ => true
  | .set _ _ => true
  | .xd _ => true
  | .rng _ _ => true
  | .ext _ => true
  | _ => false
theorem okO_plain {H : Hp} {p : Addr} {o : HO} (h : plainO o = true) : okO H p o := by
  cases o with
  | dT _ => cases h
  | ins _ _ _ => cases h
  | frz _ _ => cases h
  | _ => trivial
theorem clo_new {H : Hp} {p : Addr} {o : HO} (c : Clo H) (hp : H p = none) (ho : plainO o = true) : Clo (upd H p o) := clo_upd c hp (okO_plain ho)
theorem okO_upd {H : Hp} {p a : Addr} {o : HO} (np : ∀ x, H p ≠ some (.own x)) : ∀ {u : HO}, okO H a u → okO (upd H p o) a u := by
  intro u
  induction u with
  | dT _ => intro z; exact z
  | ins C dx fs =>
    intro z
    have z' : H dx = some (.own a) := z
    show upd H p o dx = some (.own a)
    rw [upd_ne (fun e => np a (by rw [← e]; exact z'))]
    exact z'
  | frz ob v ih => intro z; exact ih z
  | _ => intro _; trivial
theorem clo_set {H : Hp} {p : Addr} {o : HO} (c : Clo H) (np : ∀ x, H p ≠ some (.own x)) (ho : plainO o = true) : Clo (upd H p o) := fun a u q => by
  by_cases ha : a = p
  · rw [ha, upd_same] at q; cases q; rw [ha]; exact okO_plain ho
  · rw [upd_ne ha] at q
    exact okO_upd np (c a u q)
theorem Ex.both {H H' : Hp} {p : Addr} {o : HO} (e : Ex H H') : Ex (upd H p o) (upd H' p o) := fun a u h => by
  by_cases ha : a = p
  · rw [ha, upd_same] at h ⊢; exact h
  · rw [upd_ne ha] at h ⊢; exact e a u h
theorem ne_fresh {H : Hp} {a b : Addr} (h : H a ≠ none) (h' : H b = none) : a ≠ b := fun e => h (by rw [e]; exact h')
theorem tr_some {H : Hp} {a : Addr} {o : HO} (h : H a = some o) : H a ≠ none := by rw [h]; exact fun z => nomatch z
theorem tr_same {H : Hp} {a : Addr} {o : HO} : upd H a o a ≠ none := tr_some upd_same
theorem tr_upd {H : Hp} {a b : Addr} {o : HO} (h : H b ≠ none) : upd H a o b ≠ none := by
  by_cases e : b = a
  · rw [e]; exact tr_same
  · rw [upd_ne e]; exact h
/-- all but the last new thing forgotten -/
theorem Trim.last {H0 H H' : Hp} {p : Addr} {o : HO} (r : Rst H0 H) (e : Ex H0 H') (hp : H0 p = none) (c : Clo H0) (ho : plainO o = true) : Trim H (upd H' p o) (upd H0 p o) :=
  Trim.to r (Ex.new (Ex.refl _) hp) (Ex.both e) (clo_new c hp ho)
theorem Trim.base {H0 H H' : Hp} (r : Rst H0 H) (e : Ex H0 H') (c : Clo H0) : Trim H H' H0 := Trim.to r (Ex.refl _) e c
theorem upd_self {H : Hp} {p : Addr} {o : HO} (h : H p = some o) : upd H p o = H := by
  funext b
  by_cases e : b = p
  · rw [e, upd_same, h]
  · rw [upd_ne e]
/-- a list that was laid ahead and has grown stays -/
theorem Trim.grown {H H' : Hp} {p : Addr} {xs ys : List V} (hp : H p = none) (e : Ex H H') (h : H' p = some (.lst ys)) (c : Clo H) : Trim (upd H p (.lst xs)) H' (upd H p (.lst ys)) := by
  have k := Trim.keep (H' := H') e hp h c (okO_plain rfl)
  refine ⟨k.sub, fun a zs q => ?_, fun a ob u q => ?_, fun a ps q => ⟨#[], ?_⟩, k.clo⟩
  · by_cases ha : a = p
    · rw [ha, upd_same] at q; cases q
    · rw [upd_ne ha] at q ⊢; exact q
  · by_cases ha : a = p
    · rw [ha, upd_same] at q; cases q
    · rw [upd_ne ha] at q ⊢; exact q
  · by_cases ha : a = p
    · rw [ha, upd_same] at q; cases q
    · rw [upd_ne ha] at q ⊢; rw [q, Array.append_empty]
/-- what a list's own change, a new object leave -/
abbrev Kp (H H' : Hp) : Prop := Trim H H' H'
theorem Kp.refl {H : Hp} (c : Clo H) : Kp H H := Trim.refl c
theorem Kp.trans {H H1 H2 : Hp} (a : Kp H H1) (b : Kp H1 H2) : Kp H H2 := by
  refine ⟨fun _ _ h => h, fun x xs h => b.tup x xs (a.tup x xs h), fun x o u h => b.frz x o u (a.frz x o u h), fun x ps h => ?_, b.clo⟩
  obtain ⟨m1, e1⟩ := a.tbl x ps h
  obtain ⟨m2, e2⟩ := b.tbl x _ e1
  exact ⟨m1 ++ m2, by rw [e2, Array.append_assoc]⟩
theorem Kp.set {H : Hp} {p : Addr} {xs : List V} {o : HO} (c : Clo H) (hp : H p = some (.lst xs)) (ho : plainO o = true) : Kp H (upd H p o) := by
  refine ⟨fun _ _ h => h, fun a ys h => ?_, fun a ob u h => ?_, fun a ps h => ⟨#[], ?_⟩, clo_set c (fun x z => by rw [hp] at z; cases z) ho⟩
  · rw [upd_ne (fun e => by rw [e, hp] at h; cases h)]; exact h
  · rw [upd_ne (fun e => by rw [e, hp] at h; cases h)]; exact h
  · rw [upd_ne (fun e => by rw [e, hp] at h; cases h), h, Array.append_empty]
theorem Kp.new {H : Hp} {p : Addr} {o : HO} (c : Clo H) (hp : H p = none) (ho : plainO o = true) : Kp H (upd H p o) :=
  Trim.to (Rst.refl H) (Ex.new (Ex.refl H) hp) (Ex.refl _) (clo_new c hp ho)
theorem Kp.ex {H H' : Hp} (e : Ex H H') (c : Clo H') : Kp H H' := Trim.to (Rst.refl H) e (Ex.refl _) c
theorem clo_only {H : Hp} (h : Only H) : Clo H := fun a o e => by
  rcases h a with z | ⟨ob, xs, z⟩
  · rw [z] at e; cases e
  · rw [z] at e; cases e; trivial

/-! ### own defs by name -/
structure FnG (P : Program) (w : World) (K : PySem.W.Frag) (mg : Str → Option Value) (base : Heap) (CX : CXT) (x : Str) (ps : List Str) (k : Nat) (sp : Sp) : Prop where
  ex : ∃ f fd, mg x = some (.ref f) ∧ PySem.W.keepIn K (.ref f) = true ∧ Binds K fd ps [] ∧ FnOk P w K mg base CX k f fd ps sp
section
variable {X : Cx} {CX : CXT} {j k : Nat} {ps : List Str} {sp : Sp} {x : Str} {p pos : Pos} {e : Expr} {es : List Expr} {t : TA} {E : XK}
theorem pe_G (G : FnG X.prog X.w X.K X.mg X.base CX x ps k sp) (hr : Room j X.A) (hjk : k ≤ j) (hg : Gl X x) (hx : Passes CX X E) (ha : PA X (e :: es) t)
    (hdb : (x == ("__debug__" : Str)) = false := by decide) (he : starEach (e :: es) X.env = (false, eval e X.env) :: starEach es X.env := by rfl) (hpl : (backTo pos (starEach es X.env)).any (·.1) = false := by rfl) :
    PE X (.Call (.Name x p) (e :: es) [] pos) (tCall sp [] E t) := by
  obtain ⟨f, fd, hm, hk, hb, F⟩ := G.ex
  exact pe_call F (hr.mono hjk) hg hm hk hb .nil hx ha hdb he hpl
theorem pe_G0 (G : FnG X.prog X.w X.K X.mg X.base CX x ps k sp) (hr : Room j X.A) (hjk : k ≤ j) (hg : Gl X x) (hx : Passes CX X E) (hdb : (x == ("__debug__" : Str)) = false := by decide) :
    PE X (.Call (.Name x p) [] [] pos) (tCall sp [] E tNil) := by
  obtain ⟨f, fd, hm, hk, hb, F⟩ := G.ex
  exact pe_call0 F (hr.mono hjk) hg hm hk hb .nil hx hdb
end

/-! ### blocks, tests that forget -/
section
variable {X : Cx}
theorem pss_trim {st : List Stmt} {t : TS} (h : PSs X st t) : PSs X st (tTrim t) := ⟨fun pins s σ H D I q => by
  refine thn (h.run pins s σ H _ I q) fun f s' z => ?_
  cases f with
  | next =>
    obtain ⟨σ', H', I', H2, tr, d⟩ := z
    exact ⟨σ', H2, inv_trim I I' tr, d⟩
  | brk =>
    obtain ⟨σ', H', I', H2, tr, d⟩ := z
    exact ⟨σ', H2, inv_trim I I' tr, d⟩
  | cont =>
    obtain ⟨σ', H', I', H2, tr, d⟩ := z
    exact ⟨σ', H2, inv_trim I I' tr, d⟩
  | ret u =>
    obtain ⟨v, σ', H', I', r, H2, tr, d⟩ := z
    exact ⟨v, σ', H2, inv_trim I I' tr, r, d⟩⟩
def tTrimT (t : TT) : TT := fun σ H Q => t σ H fun b H1 => ∃ H2, Trim H H1 H2 ∧ Q b H2
theorem pt_trim {e : Expr} {t : TT} (h : PT X e t) : PT X e (tTrimT t) := ⟨fun pins s σ H Q I q => by
  refine thn (h.run pins s σ H _ I q) fun b s' z => ?_
  obtain ⟨H', I', H2, tr, d⟩ := z
  exact ⟨H2, inv_trim I I' tr, d⟩⟩
theorem pe_GS {k j : Nat} {ps : List Str} {sp : Sp} {x : Str} {p pos : Pos} {e : Expr} {es : List Expr} {t : TA} {E : L2.St → XK} (G : FnG X.prog X.w X.K X.mg X.base (L2.CX X.prog X.w) x ps k sp) (hr : Room j X.A) (hjk : k ≤ j) (hg : Gl X x) (hx : ∀ σ, PassesAt (L2.CX X.prog X.w) X σ (E σ)) (ha : PA X (e :: es) t)
    (hdb : (x == ("__debug__" : Str)) = false := by decide) (he : starEach (e :: es) X.env = (false, eval e X.env) :: starEach es X.env := by rfl) (hpl : (backTo pos (starEach es X.env)).any (·.1) = false := by rfl) :
    PE X (.Call (.Name x p) (e :: es) [] pos) (tCallSD sp [] E t) := by
  obtain ⟨f, fd, hm, hk, hb, F⟩ := G.ex
  exact pe_callSD F (hr.mono hjk) hg hm hk hb .nil hx ha hdb he hpl
end
/-- a meeting of ways: Mid holds behind the first statement -/
def tMeet (t u : TS) : TS := fun D σ H => ∃ Mid : L2.St → Hp → Prop, t { D with nx := Mid } σ H ∧ ∀ σ1 H1, Mid σ1 H1 → u D σ1 H1
theorem pss_meet {X : Cx} {st : Stmt} {rest : List Stmt} {t u : TS} (h1 : PS X st t) (h2 : PSs X rest u) : PSs X (st :: rest) (tMeet t u) := ⟨fun pins s σ H D I h => by
  obtain ⟨Mid, a, b⟩ := h
  refine wpAny_execs_cons (thn (h1.run pins s σ H _ I a) fun f s1 hf => ?_)
  cases f with
  | next =>
    obtain ⟨σ1, H1, I1, q⟩ := hf
    exact h2.run pins s1 σ1 H1 D I1 (b σ1 H1 q)
  | brk => exact hf
  | cont => exact hf
  | ret v => exact hf⟩
/-! ### readings by name -/
abbrev rInsert : V → List V → Hp → VK → Prop := fun x vs H Q => ∃ (l : Addr) (xs : List V) (i : Int) (y : V), x = .ref l ∧ vs = [.int i, y] ∧ H l = some (.lst xs) ∧ xs.length < sizeLine ∧ 0 ≤ i ∧ i < 2 ^ 63 ∧ Q .non (upd H l (.lst (xs.take i.toNat ++ [y] ++ xs.drop i.toNat)))
abbrev rStrI : List V → Hp → VK → Prop := fun xs H Q => ∃ i : Int, xs = [.int i] ∧ i.natAbs.log2 < 1920 ∧ Q (.str (toString i)) H
abbrev rAddI : R2 := rI0 fun i j => .int (i + j)
abbrev rSubI : R2 := rI0 fun i j => .int (i - j)
abbrev rMulW : R2 := rI CMulW fun i j => .int (i * j)
abbrev rDivW : R2 := rI CDivW fun i j => .int (i / j)
abbrev rModI : R2 := rI (fun _ j => 0 < j) fun i j => .int (i % j)
abbrev rPowI : R2 := rI CPow fun i j => .int (i ^ j.toNat)
abbrev rShrI : R2 := rI (fun _ j => 0 ≤ j) fun i j => .int (i / 2 ^ j.toNat)
abbrev rLtI : R2 := rI0 fun i j => .bl (decide (i < j))
abbrev rLeI : R2 := rI0 fun i j => .bl (decide (i ≤ j))
abbrev rGtI : R2 := rI0 fun i j => .bl (decide (j < i))
abbrev rGeI : R2 := rI0 fun i j => .bl (decide (j ≤ i))
abbrev rLtS : R2 := fun x y H Q => ∃ i j, x = .str i ∧ y = .str j ∧ Q (.bl (decide (i.cps.toList < j.cps.toList))) H
abbrev rLeS : R2 := fun x y H Q => ∃ i j, x = .str i ∧ y = .str j ∧ Q (.bl (!decide (j.cps.toList < i.cps.toList))) H
abbrev rGtS : R2 := fun x y H Q => ∃ i j, x = .str i ∧ y = .str j ∧ Q (.bl (decide (j.cps.toList < i.cps.toList))) H
abbrev rGeS : R2 := fun x y H Q => ∃ i j, x = .str i ∧ y = .str j ∧ Q (.bl (!decide (i.cps.toList < j.cps.toList))) H
abbrev rAddS1 : R2 := fun x y H Q => ∃ i j, x = .str i ∧ y = .str j ∧ i.length + j.length ≤ sizeLine ∧ Q (.str (i ++ j)) H
abbrev rInC : R2 := fun x y H Q => ∃ (c : Nat) (z : Str), x = .str ⟨#[c]⟩ ∧ y = .str z ∧ Q (.bl (decide (c ∈ z.cps.toList))) H
abbrev rNotInC : R2 := fun x y H Q => ∃ (c : Nat) (z : Str), x = .str ⟨#[c]⟩ ∧ y = .str z ∧ Q (.bl (!decide (c ∈ z.cps.toList))) H
abbrev rNotN : R2 := fun x y H Q => y = .non ∧ Q (.bl (!decide (x = .non))) H
abbrev rIsN : R2 := fun x y H Q => y = .non ∧ Q (.bl (decide (x = .non))) H
abbrev rNegI : V → Hp → VK → Prop := rU fun i => .int (-i)
abbrev rLenQ (K : PySem.W.Frag) : List V → Hp → VK → Prop := fun xs H Q => ∃ p ys, xs = [.ref p] ∧ (SqL K H p ys ∨ SqT K H p ys) ∧ Q (.int ys.length) H
abbrev rLenS1 : List V → Hp → VK → Prop := fun xs H Q => ∃ z, xs = [.str z] ∧ z.length ≤ sizeLine ∧ Q (.int z.length) H
abbrev rListQ (K : PySem.W.Frag) : List V → Hp → VK → Prop := fun xs H Q => ∃ p ys, xs = [.ref p] ∧ (SqL K H p ys ∨ SqT K H p ys) ∧ ∀ l, H l = none → Q (.ref l) (upd H l (.lst ys))
abbrev rDivmod : List V → Hp → VK → Prop := fun xs H Q => ∃ i j, xs = [.int i, .int j] ∧ CDiv i j ∧ ∀ p, H p = none → Q (.ref p) (upd H p (.tup [.int (i / j), .int (i % j)]))
abbrev rMin2 : List V → Hp → VK → Prop := fun xs H Q => ∃ i j, xs = [.int i, .int j] ∧ Q (.int (if j < i then j else i)) H
abbrev rMax2 : List V → Hp → VK → Prop := fun xs H Q => ∃ i j, xs = [.int i, .int j] ∧ Q (.int (if j > i then j else i)) H
abbrev rInt1 : List V → Hp → VK → Prop := fun xs H Q => (∃ i, xs = [.int i] ∧ Q (.int i) H) ∨ ∃ k, xs = [.bl k] ∧ Q (.int (if k then 1 else 0)) H
abbrev rJoin (K : PySem.W.Frag) : V → List V → Hp → VK → Prop := fun x xs H Q => ∃ a p, ∃ ys : List Str, x = .str a ∧ xs = [.ref p] ∧ (SqL K H p (ys.map V.str) ∨ SqT K H p (ys.map V.str)) ∧ (ys.map (·.length)).sum + ys.length * a.length ≤ 16777216 ∧ Q (.str (Txt.join a ys)) H
abbrev rSlX : V → Option Int → Option Int → Hp → VK → Prop := fun x lo hi H Q => ∃ z, x = .str z ∧ z.length ≤ sizeLine ∧ Q (.str (Txt.slice z lo hi)) H
abbrev rRstrip : V → List V → Hp → VK → Prop := fun x xs H Q => ∃ a b, x = .str a ∧ xs = [.str b] ∧ a.length ≤ sizeLine ∧ Q (.str (Txt.rstripChars a b)) H
abbrev tTru (K : PySem.W.Frag) (ta : TE) : TT := fun σ H Q => ta σ H fun x H' => ∃ k, TruV K x H' k ∧ Q k H'
def tTry (K : PySem.W.Frag) (c : Value) (ts : Addr → Value → Option Addr → TS) (Wout : WX) (tb : WX → TS) : TS := fun D σ H => tb (wOnly K c ts Wout D) D σ H
def tTryAs (K : PySem.W.Frag) (c : Value) (i : Nat) (ts : Addr → Value → Option Addr → TS) (Wout : WX) (tb : WX → TS) : TS := fun D σ H => tb (wAs K c i ts Wout D) D σ H
def tRaiseO (K : PySem.W.Frag) (x : Str) (W : WX) : TS := fun _ σ H => W (.ref (He.ga K x)) none σ H
section
variable {X : Cx} {x n : Str} {c : Value} {i : Nat} {body suite : List Stmt} {b₀ : Stmt} {np pos pos' : Pos} {tb : WX → TS} {ts : Addr → Value → Option Addr → TS} {Wout : WX}
theorem ps_try1 (hs : X.stack = X.env :: X.outer) (hf : X.env.frame = some X.env.locals) (hc : Names X x c) (tk : Takes X Wout)
    (hb : ∀ (W : WX) (pn : List (Addr × Obj)) (xe : Value → Shared → Prop), Takes (X.tr pn xe) W → PassesOwn (model X.prog X.w) X.A X.env xe → PSs (X.tr pn xe) body (tb W))
    (hsu : ∀ (a : Addr) (oe : Obj) (cls : Value) (d : Option Addr) (pn : List (Addr × Obj)), Zc cls d oe → (∃ vs, oe.data = .fields vs) → PSs (X.suite a ((a, oe) :: pn)) (b₀ :: suite) (ts a cls d)) :
    PS X (.Try body [.ExceptHandler (some (.Name x np)) none (b₀ :: suite) pos'] [] [] pos) (tTry X.K c ts Wout tb) := ps_try_only hs hf hc tk hb hsu
theorem ps_try1As (hs : X.stack = X.env :: X.outer) (hf : X.env.frame = some X.env.locals) (hN : X.N.Nodup) (hi : X.N[i]? = some n) (hln : X.env.kindOf n = some .local) (hc : Names X x c) (tk : Takes X Wout)
    (hb : ∀ (W : WX) (pn : List (Addr × Obj)) (xe : Value → Shared → Prop), Takes (X.tr pn xe) W → PassesOwn (model X.prog X.w) X.A X.env xe → PSs (X.tr pn xe) body (tb W))
    (hsu : ∀ (a : Addr) (oe : Obj) (cls : Value) (d : Option Addr) (pn : List (Addr × Obj)), Zc cls d oe → (∃ vs, oe.data = .fields vs) → PSs (X.suite a ((a, oe) :: pn)) (b₀ :: suite) (ts a cls d)) :
    PS X (.Try body [.ExceptHandler (some (.Name x np)) (some n) (b₀ :: suite) pos'] [] [] pos) (tTryAs X.K c i ts Wout tb) := ps_try_as hs hf hN hi hln hc tk hb hsu
end
/-- a statement that needs a fact of what stands -/
def tWhen (c : Prop) (t : TS) : TS := fun D σ H => c ∧ t D σ H
theorem pss_when {X : Cx} {st : List Stmt} {c : Prop} {t : TS} (h : c → PSs X st t) : PSs X st (tWhen c t) := ⟨fun pins s σ H D I q => (h q.1).run pins s σ H D I q.2⟩
/-! ### own rules -/
def chars (z : Str) : List Str := z.cps.toList.map fun c => ⟨#[c]⟩
abbrev rListS : List V → Hp → VK → Prop := fun xs H Q => ∃ z, xs = [.str z] ∧ z.length ≤ sizeLine ∧ ∀ l, H l = none → Q (.ref l) (upd H l (.lst ((chars z).map V.str)))
section
variable {X : Cx}
theorem Room.units65 {k : Nat} {A : Around} (r : Room k A) : A.units + 65 < cLine := by have := r.un; omega
/-- s.index(c), found -/
def rIndexS : L2.St → V → List V → Hp → VK → Prop := fun _ x xs H Q => ∃ (a b : Str) (k : Nat), x = .str a ∧ xs = [.str b] ∧ Txt.index0 a b = some k ∧ Q (.int (k : Nat)) H
theorem mt_indexS (hc : X.calm = true) : MtS X "str.index" rIndexS := fun pins s σ H x xs v us Q I rx rs h => by
  obtain ⟨a, b, k, e1, e2, e3, q⟩ := h
  exact mt_indexX hc takes0 pins s σ H x xs v us Q I rx rs ⟨a, b, e1, e2, fun k' e => by rw [e3] at e; cases e; exact q, fun e => by rw [e3] at e; cases e⟩
theorem paired_ix {α β : Type} {F : α → β → Prop} : ∀ {xs : List α} {ys : List β}, xs.length = ys.length → (∀ (i : Nat) (x : α) (y : β), xs[i]? = some x → ys[i]? = some y → F x y) → Paired F xs ys
  | [], [], _, _ => .nil
  | [], _ :: _, h, _ => by cases h
  | _ :: _, [], h, _ => by cases h
  | x :: xs, y :: ys, h, k => .cons (k 0 x y rfl rfl) (paired_ix (Nat.succ.inj h) fun i a b ha hb => k (i + 1) a b (by simpa using ha) (by simpa using hb))
theorem call_listS (hc : X.calm = true) : CallR X (.type "list") rListS := by
  intro pins s σ H xs us Q I r h
  obtain ⟨z, rfl, hz, q⟩ := h
  obtain ⟨u, rfl, t, rfl⟩ := vals1 r
  refine PySem.call_list_str (I.ok.hd hc) z t (fun h' tk acc c' k e it => ?_) (hn := hz)
  obtain ⟨it1, it2⟩ := it
  refine ⟨.ref s.heap.objs.size, upd H s.heap.objs.size (.lst ((chars z).map V.str)), I.laid (t' := tk) k (Nat.le_refl _) ⟨?_, acc.toList, c', ?_, e⟩, rfl, q _ (I.hok.fresh (Nat.le_refl _))⟩
  · rw [List.length_map]
    show (List.map _ _).length ≤ _
    rw [List.length_map, Array.length_toList]
    exact hz
  · refine paired_ix ?_ fun i x y hx hy => ?_
    · rw [List.length_map]
      show (List.map _ _).length = _
      rw [List.length_map, Array.length_toList, Array.length_toList, it1]
    · rw [Array.getElem?_toList] at hy
      obtain ⟨c, u, hc', rfl⟩ := it2 i y hy
      rw [List.getElem?_map] at hx
      have hx2 : (chars z)[i]? = some ⟨#[c]⟩ := by
        show (List.map _ _)[i]? = _
        rw [List.getElem?_map, Array.getElem?_toList, hc']
        rfl
      rw [hx2] at hx
      cases hx
      exact ⟨u, rfl⟩
end
/-! ### sorted, texts, any number of them -/
def sv : Value → List Nat
  | .str z _ => z.cps.toList
  | _ => []
def svS : Value → Str
  | .str z _ => z
  | _ => ⟨#[]⟩
def ltSv (v u : Value) : Bool := decide (sv v < sv u)
theorem swo_str : SrtO.Swo ltSv := by
  refine ⟨fun x y h => ?_, fun x y z h1 h2 => ?_⟩
  · have a := of_decide_eq_true (p := sv x < sv y) h
    exact decide_eq_false (p := sv y < sv x) (List.lt_asymm a)
  · have a := of_decide_eq_false (p := sv y < sv x) h1
    have b := of_decide_eq_false (p := sv z < sv y) h2
    exact decide_eq_false (p := sv z < sv x) (List.not_lt.mpr (List.le_trans (List.not_lt.mp a) (List.not_lt.mp b)))
theorem strs_mem : ∀ {vs : List Value} {ns : List Str}, StrsAre vs ns → ∀ v ∈ vs, ∃ i t, v = Value.str i t
  | _, _, .nil, v, h => absurd h (by simp)
  | _, _, .cons n t r, v, h => by
    rcases List.mem_cons.mp h with e | h
    · exact ⟨n, t, e⟩
    · exact strs_mem r v h
theorem strs_sv : ∀ {vs : List Value}, (∀ v ∈ vs, ∃ i t, v = Value.str i t) → StrsAre vs (vs.map svS)
  | [], _ => .nil
  | v :: vs, h => by
    obtain ⟨i, t, e⟩ := h v List.mem_cons_self
    subst e
    exact .cons i t (strs_sv fun u hu => h u (List.mem_cons_of_mem _ hu))
theorem sv_strs : ∀ {vs : List Value} {ns : List Str}, StrsAre vs ns → vs.map svS = ns
  | _, _, .nil => rfl
  | _, _, .cons n t r => congrArg (n :: ·) (sv_strs r)
section
variable {prog : Program} {w : World} {A : Around} {s : Shared}
theorem str_cmp {vs : List Value} {ns : List Str} (hI : StrsAre vs ns) : SrtO.Cmp prog w A s oneType' (fun p => p.1 ∈ vs) (SrtO.lt2 ltSv) := by
  intro p q hm hm'
  obtain ⟨a, t, e⟩ := strs_mem hI _ hm
  obtain ⟨b, u, e'⟩ := strs_mem hI _ hm'
  show wpAny (model prog w) A (keyLt' oneType' p.1 q.1) (fun r s' => s' = s ∧ r = ltSv p.1 q.1) (fun _ _ => False) s
  rw [e, e', keyLt'_oneType]
  exact oneLt_str ⟨rfl, rfl⟩
theorem strs_sortable {a : Addr} {vs : List Value} {ns : List Str} (hI : StrsAre vs ns) (h2 : 2 ≤ vs.length) : SrtO.SortableO prog w A s a vs ltSv := by
  intro h' _
  refine ⟨oneType', fun Q E hq => ?_, str_cmp hI⟩
  match vs, hI, h2 with
  | v1 :: v2 :: rest, hI, _ =>
    rw [keyKind_strs hI]
    exact wpAny_pure hq
  | [], _, h => exact absurd h (by decide)
  | [v], _, h => exact absurd h (by simp)
theorem strs_out {vs out : List Value} {ns : List Str} (hI : StrsAre vs ns) (hs : SrtO.Srtd ltSv out) (hb : SrtO.Stb ltSv out vs) : StrsAre out (out.map svS) ∧ (out.map svS).Perm ns ∧ (out.map svS).Pairwise fun a b => a.cps.toList ≤ b.cps.toList := by
  have hm := fun v hv => strs_mem hI v (hb.perm.mem_iff.mp hv)
  refine ⟨strs_sv hm, ?_, ?_⟩
  · have q := hb.perm.map svS
    rw [sv_strs hI] at q
    exact q
  · refine List.pairwise_map.mpr (List.Pairwise.imp_of_mem (fun {x y} hx hy h => ?_) hs)
    obtain ⟨a, t, rfl⟩ := hm x hx
    obtain ⟨b, u, rfl⟩ := hm y hy
    exact List.not_lt.mp (of_decide_eq_false (p := sv (.str b u) < sv (.str a t)) h)
end
def rSortedSO (K : PySem.W.Frag) : List V → Hp → VK → Prop := fun vs H Q => ∃ (a : Addr) (ns : List Str), vs = [V.ref a] ∧ SqL K H a (ns.map V.str) ∧
  ∀ (ns' : List Str) (p : Addr), ns'.Perm ns → (ns'.Pairwise fun a b => a.cps.toList ≤ b.cps.toList) → H p = none → Q (.ref p) (upd H p (.lst (ns'.map V.str)))
theorem cr_sortedSO {X : Cx} : CallR X (.builtin "sorted") (rSortedSO X.K) := by
  intro pins s σ H vs us Q I r h
  obtain ⟨a, ns, rfl, hs, q⟩ := h
  obtain ⟨its, rv, hl, hz⟩ := I.list hs
  rw [Vals.ref1 r]
  have hi := rv.strs
  refine SrtO.sorted_ord swo_str hl.isList (by rw [← rv.length]; exact hz) (fun h2 h₁ a' _ _ => strs_sortable hi h2) fun out h1 h2 => ?_
  obtain ⟨k1, k2, k3⟩ := strs_out hi h1 h2
  obtain ⟨ep, he'⟩ := PyProof.Rows.sortedAll_at s.heap its out.toArray
  have hlen : ((out.map svS).map V.str).length ≤ sizeLine := by
    rw [List.length_map, k2.length_eq]
    rw [List.length_map] at hz
    exact hz
  exact ⟨.ref _, upd H (s.heap.objs.size + 1) (.lst ((out.map svS).map V.str)), I.laid (t' := s.toks) (fun _ _ => PyProof.Rows.sortedAll_old) (Nat.le_succ _) ⟨hlen, out, ep, vals_of_strs k1, he'⟩, rfl, q _ _ k2 k3 (I.hok.fresh (Nat.le_succ _))⟩
/-! ### loops and comprehensions over what is walked -/
theorem walk_listF {K : PySem.W.Frag} {a : Addr} {xs : List V} : Walk (Itl K a) xs.length (fun H => SqL K H a xs) (YFn fun i => xs.getD i .non) :=
  walk_list.mono (fun _ h => h) fun i H x H' hi _ y => ⟨y.1, by show x = xs.getD i .non; rw [List.getD_eq_getElem?_getD, y.2]; rfl⟩
theorem walk_tupF {K : PySem.W.Frag} {a : Addr} {xs : List V} : Walk (Itt K a) xs.length (fun H => SqT K H a xs) (YFn fun i => xs.getD i .non) :=
  walk_tup.mono (fun _ h => h) fun i H x H' hi _ y => ⟨y.1, by show x = xs.getD i .non; rw [List.getD_eq_getElem?_getD, y.2]; rfl⟩
theorem walk_strF {z : Str} : Walk (Its z) z.cps.size (fun _ => True) (YFn fun i => .str ⟨#[z.cps.toList.getD i 0]⟩) :=
  walk_str.mono (fun _ h => h) fun i H x H' hi _ y => ⟨y.1, by
    obtain ⟨_, c, h1, h2⟩ := y
    show x = .str ⟨#[z.cps.toList.getD i 0]⟩
    rw [h2, List.getD_eq_getElem?_getD, Array.getElem?_toList, h1]; rfl⟩
theorem walk_range1 {n : Nat} : Walk (Itr 0 n) n (fun _ => True) (YFn fun i => .int (i : Int)) :=
  walk_range.mono (fun _ h => h) fun i H x H' _ _ y => ⟨y.1, by
    have e : x = .int (0 + (i : Int)) := y.2
    rw [e, Int.zero_add]⟩
theorem walk_rangeF {lo : Int} {n : Nat} : Walk (Itr lo n) n (fun _ => True) (YFn fun i => .int (lo + (i : Int))) :=
  walk_range.mono (fun _ h => h) fun i H x H' _ _ y => ⟨y.1, y.2⟩
/-- a comprehension whose turns leave nothing but the list -/
theorem lc_fn {J : It} {n : Nat} {G : Hp → Prop} {f : Nat → V} (w : Walk J n G (YFn f)) {g : TG} {tt : TT} {te : TE} {vs : List Nat} {σ : L2.St} {H1 : Hp} {D : Addr} {Qd : Hp → Prop} (b : Nat → Bool) (v : Nat → V) (hn : n ≤ 1000000)
    (hG : ∀ acc, G (upd H1 D (.lst acc)))
    (turn : ∀ i acc, i < n → acc.length ≤ i → ∀ N : Hp → Prop, (b i = true → N (upd H1 D (.lst (acc ++ [v i])))) → (b i = false → N (upd H1 D (.lst acc))) →
      g (f i) (wipe σ vs) (upd H1 D (.lst acc)) fun σ2 H2 => wipe σ2 vs = wipe σ vs ∧ tt σ2 H2 fun c H3 =>
        if c = true then te σ2 H3 fun y H4 => ∃ acc, H4 D = some (.lst acc) ∧ acc.length < sizeLine ∧ N (upd H4 D (.lst (acc ++ [y]))) else N H3)
    (hq : Qd (upd H1 D (.lst (((List.range n).filter b).map v)))) :
    ∃ W : Nat → Nat → Hp → Prop, (∃ m, W 0 m (upd H1 D (.lst []))) ∧ ∀ i m H, W i m H →
      (J.stop i H ∧ Qd H) ∨ (J.go i H ∧ ∃ Nx : Hp → Prop, (∀ H', Nx H' → ∃ m', m' < m ∧ W (i + 1) m' H') ∧ ∀ x H', J.yld i H x H' → g x (wipe σ vs) H' fun σ2 H2 => wipe σ2 vs = wipe σ vs ∧ tt σ2 H2 fun b H3 =>
        if b = true then te σ2 H3 fun y H4 => ∃ acc, H4 D = some (.lst acc) ∧ acc.length < sizeLine ∧ Nx (upd H4 D (.lst (acc ++ [y]))) else Nx H3) := by
  refine lc_it w (fun i H => H = upd H1 D (.lst (((List.range i).filter b).map v))) rfl (fun i H _ h => by rw [h]; exact hG _) ?_ (fun H h => by rw [h]; exact hq)
  rintro i x H H' hi rfl ⟨rfl, rfl⟩
  refine turn i _ hi ?_ (fun H' => H' = upd H1 D (.lst (((List.range (i + 1)).filter b).map v))) (fun hb => ?_) fun hb => ?_
  · rw [List.length_map]
    exact Nat.le_trans (List.length_filter_le _ _) (by rw [List.length_range]; exact Nat.le_refl _)
  · rw [List.range_succ, List.filter_append, List.map_append, List.filter_cons, if_pos hb]; rfl
  · rw [List.range_succ, List.filter_append, List.map_append, List.filter_cons, if_neg (by rw [hb]; decide)]
    show _ = upd H1 D (.lst (_ ++ []))
    rw [List.append_nil]
theorem filt_all {α : Type} (l : List α) : l.filter (fun _ => true) = l := List.filter_eq_self.mpr fun _ _ => rfl
/-- the turn's end -/
theorem lc_end {H1 : Hp} {D : Addr} {acc : List V} {y : V} {n : Nat} {N : Hp → Prop} (hn : acc.length ≤ n) (hz : n < 1000000) (h : N (upd H1 D (.lst (acc ++ [y])))) :
    ∃ acc', (upd H1 D (.lst acc)) D = some (.lst acc') ∧ acc'.length < sizeLine ∧ N (upd (upd H1 D (.lst acc)) D (.lst (acc' ++ [y]))) :=
  ⟨acc, upd_same, by rw [sizeLine_eq]; omega, by rw [upd_upd]; exact h⟩
theorem range_map {α : Type} (xs : List α) (d : α) : (List.range xs.length).map (fun i => xs.getD i d) = xs := by
  apply List.ext_getElem?
  intro i
  rw [List.getElem?_map]
  by_cases h : i < xs.length
  · rw [List.getElem?_range h, List.getElem?_eq_getElem h]
    show some (xs.getD i d) = _
    rw [List.getD_eq_getElem?_getD, List.getElem?_eq_getElem h]; rfl
  · rw [List.getElem?_eq_none (by rw [List.length_range]; omega), List.getElem?_eq_none (by omega)]; rfl
theorem range_filter_map {α β : Type} (xs : List α) (d : α) (b : α → Bool) (v : α → β) : ((List.range xs.length).filter fun i => b (xs.getD i d)).map (fun i => v (xs.getD i d)) = (xs.filter b).map v := by
  have e : ((List.range xs.length).filter fun i => b (xs.getD i d)).map (fun i => v (xs.getD i d)) = (((List.range xs.length).map fun i => xs.getD i d).filter b).map v := by
    rw [List.filter_map, List.map_map]; rfl
  rw [e, range_map]
section
variable {J : It} {n : Nat} {G : Hp → Prop} {f : Nat → V} {g : TG} {tb : TS} {D : Ends} {σ : L2.St} {H : Hp}
theorem for_fn (w : Walk J n G (YFn f)) (Pv : Nat → L2.St → Hp → Prop) (h0 : Pv 0 σ H) (hG : ∀ i σ' H', i ≤ n → Pv i σ' H' → G H')
    (hs : ∀ i σ' H', i < n → Pv i σ' H' → g (f i) σ' H' fun σ2 H2 => tb { D with nx := Pv (i + 1), ct := Pv (i + 1), bk := D.nx } σ2 H2) (hd : ∀ σ' H', Pv n σ' H' → D.nx σ' H') :
    ∃ W : Nat → Nat → L2.St → Hp → Prop, (∃ m, W 0 m σ H) ∧ ∀ i m σ H, W i m σ H →
      (J.stop i H ∧ D.nx σ H) ∨ (J.go i H ∧ ∃ N : L2.St → Hp → Prop, (∀ σ' H', N σ' H' → ∃ m', m' < m ∧ W (i + 1) m' σ' H') ∧ ∀ x H', J.yld i H x H' → g x σ H' fun σ2 H2 => tb { D with nx := N, ct := N, bk := D.nx } σ2 H2) :=
  for_it w Pv h0 hG (fun i x σ' H' H'' hi p y => by
    obtain ⟨e1, e2⟩ := y
    subst e1 e2
    exact hs i σ' _ hi p) hd
/-- a loop that leaves the heap as it was -/
theorem for_fix (w : Walk J n G (YFn f)) (Pv : Nat → L2.St → Prop) (hG : G H) (h0 : Pv 0 σ)
    (hs : ∀ i σ', i < n → Pv i σ' → g (f i) σ' H fun σ2 H2 => tb { D with nx := fun σ3 H3 => H3 = H ∧ Pv (i + 1) σ3, ct := fun σ3 H3 => H3 = H ∧ Pv (i + 1) σ3, bk := D.nx } σ2 H2) (hd : ∀ σ', Pv n σ' → D.nx σ' H) :
    ∃ W : Nat → Nat → L2.St → Hp → Prop, (∃ m, W 0 m σ H) ∧ ∀ i m σ H, W i m σ H →
      (J.stop i H ∧ D.nx σ H) ∨ (J.go i H ∧ ∃ N : L2.St → Hp → Prop, (∀ σ' H', N σ' H' → ∃ m', m' < m ∧ W (i + 1) m' σ' H') ∧ ∀ x H', J.yld i H x H' → g x σ H' fun σ2 H2 => tb { D with nx := N, ct := N, bk := D.nx } σ2 H2) :=
  for_fn w (fun i σ' H' => H' = H ∧ Pv i σ') ⟨rfl, h0⟩ (fun _ _ _ _ p => p.1 ▸ hG) (fun i σ' H' hi p => by
    obtain ⟨e, p⟩ := p
    subst e
    exact hs i σ' hi p) fun σ' H' p => by
    obtain ⟨e, p⟩ := p
    subst e
    exact hd σ' p
end
/-- a loop over a list, each item with P -/
theorem for_list {K : PySem.W.Frag} {a : Addr} {xs : List V} {g : TG} {tb : TS} {D : Ends} {σ : L2.St} {H : Hp} (P : V → Prop) (Pv : L2.St → Prop) (hS : SqL K H a xs) (hP : ∀ x ∈ xs, P x) (h0 : Pv σ)
    (hs : ∀ x σ', P x → Pv σ' → g x σ' H fun σ2 H2 => tb { D with nx := fun σ3 H3 => H3 = H ∧ Pv σ3, ct := fun σ3 H3 => H3 = H ∧ Pv σ3, bk := D.nx } σ2 H2) (hd : ∀ σ', Pv σ' → D.nx σ' H) :
    ∃ W : Nat → Nat → L2.St → Hp → Prop, (∃ m, W 0 m σ H) ∧ ∀ i m σ H, W i m σ H →
      ((Itl K a).stop i H ∧ D.nx σ H) ∨ ((Itl K a).go i H ∧ ∃ N : L2.St → Hp → Prop, (∀ σ' H', N σ' H' → ∃ m', m' < m ∧ W (i + 1) m' σ' H') ∧ ∀ x H', (Itl K a).yld i H x H' → g x σ H' fun σ2 H2 => tb { D with nx := N, ct := N, bk := D.nx } σ2 H2) :=
  for_fix walk_listF (fun _ => Pv) hS h0 (fun i σ' hi p => hs _ σ' (by
    show P (xs.getD i .non)
    rw [List.getD_eq_getElem?_getD, List.getElem?_eq_getElem hi]
    exact hP _ (List.getElem_mem hi)) p) hd
theorem meet_fix {t u : TS} {D : Ends} {σ : L2.St} {H : Hp} (P : L2.St → Prop) (h1 : t { D with nx := fun σ1 H1 => H1 = H ∧ P σ1 } σ H) (h2 : ∀ σ1, P σ1 → u D σ1 H) : tMeet t u D σ H :=
  ⟨fun σ1 H1 => H1 = H ∧ P σ1, h1, fun σ1 H1 p => by
    obtain ⟨e, p⟩ := p
    subst e
    exact h2 σ1 p⟩
/-- a while: P by a measure, the heap by it -/
theorem while_fn {c : TT} {tb : TS} {D : Ends} {σ : L2.St} {H : Hp} (P : Nat → L2.St → Hp → Prop) (m : Nat) (h0 : P m σ H)
    (hs : ∀ m σ' H', P m σ' H' → c σ' H' fun b H1 => if b = true then tb { D with nx := fun σ2 H2 => ∃ m', m' < m ∧ P m' σ2 H2, ct := fun σ2 H2 => ∃ m', m' < m ∧ P m' σ2 H2, bk := D.nx } σ' H1 else D.nx σ' H1)
    (mono : ∀ σ' H' (Q Q' : Bool → Hp → Prop), (∀ b H1, Q b H1 → Q' b H1) → c σ' H' Q → c σ' H' Q') : tWhile c tb D σ H := by
  refine ⟨P, ⟨m, h0⟩, fun m σ' H' p => mono σ' H' _ _ (fun b H1 q => ?_) (hs m σ' H' p)⟩
  cases b with
  | false => simpa using q
  | true =>
    have q' : tb { D with nx := fun σ2 H2 => ∃ m', m' < m ∧ P m' σ2 H2, ct := fun σ2 H2 => ∃ m', m' < m ∧ P m' σ2 H2, bk := D.nx } σ' H1 := by simpa using q
    show if true = true then _ else _
    rw [if_pos rfl]
    exact ⟨_, fun _ _ n => n, q'⟩
/-- fresh things apart -/
theorem fresh_ne {H : Hp} {p q : Addr} {o : HO} (h : upd H q o p = none) : p ≠ q := fun e => by rw [e, upd_same] at h; cases h
theorem fresh_of {H : Hp} {p q : Addr} {o : HO} (h : upd H q o p = none) : H p = none := by
  have ne := fresh_ne h
  rw [upd_ne ne] at h; exact h
theorem sqL_new {K : PySem.W.Frag} {H : Hp} {a p : Addr} {o : HO} {xs : List V} (h : SqL K H a xs) (hp : H p = none) : SqL K (upd H p o) a xs := by
  rcases h with h | h
  · rcases h with h | ⟨ob, h⟩
    · exact .inl (.inl (by rw [upd_ne (ne_of_none h hp)]; exact h))
    · exact .inl (.inr ⟨ob, by rw [upd_ne (ne_of_none h hp)]; exact h⟩)
  · exact .inr h
theorem sqL_at {K : PySem.W.Frag} {H : Hp} {p : Addr} {xs : List V} : SqL K (upd H p (.lst xs)) p xs := .inl (.inl upd_same)
theorem sqT_at {K : PySem.W.Frag} {H : Hp} {p : Addr} {xs : List V} : SqT K (upd H p (.tup xs)) p xs := .inl (.inl upd_same)
/-- a text so many times -/
def MulFit (z : Str) (n : Int) : Prop := z.length ≤ 100 ∧ -100000 ≤ n ∧ n ≤ 100000
abbrev rMulS : R2 := fun x y H Q => ∃ z n, x = .str z ∧ y = .int n ∧ MulFit z n ∧ Q (.str (Txt.mul z n)) H
theorem op_mul_str {X : Cx} : OpR X (binaryOp .Mult) rMulS := by
  intro pins s σ H x y u v Q I rx ry h
  obtain ⟨z, n, rfl, rfl, ⟨h1, h2, h3⟩, q⟩ := h
  obtain ⟨t, rfl⟩ := rx
  obtain ⟨t', rfl⟩ := ry
  have e1 : ¬ n < -(2 ^ 63 : Int) := by omega
  have e2 : ¬ n ≥ 2 ^ 63 := by omega
  refine PySem.SB.mul (x := z) (n := n) ⟨by rw [decide_eq_false e1, decide_eq_false e2]; rfl, fun h4 _ => ?_, fun h4 _ => ?_⟩ (fun t' k => ⟨.str (Txt.mul z n), H, I.tok _, ⟨_, rfl⟩, q⟩)
  · have h5 : (100 : Int) ≤ (2 ^ 63 - 1) / n := (Int.le_ediv_iff_mul_le (by omega)).mpr (by omega)
    omega
  · have h6 : z.length * n.toNat ≤ 100 * 100000 := Nat.mul_le_mul h1 (by omega)
    show decide (z.length * n.toNat > 2 ^ 24) = false
    exact decide_eq_false (by omega)
theorem rIsi_of {K : PySem.W.Frag} {x : V} {a b : String} {r : Bool} {H : Hp} {Q : VK} (h : TyX K H x (.type a)) (hb : kitB a b = some r) (q : Q (.bl r) H) : rIsi K [x, .ty b] H Q := ⟨_, _, _, _, _, rfl, .ty _, h, kit_ty hb, q⟩
section
variable {K : PySem.W.Frag} {H : Hp} {Q : VK}
theorem isi_bl_bool {b : Bool} (q : Q (.bl true) H) : rIsi K [.bl b, .ty "bool"] H Q := rIsi_of (.base (.bl _)) (by decide +kernel) q
theorem isi_int_int {i : Int} (q : Q (.bl true) H) : rIsi K [.int i, .ty "int"] H Q := rIsi_of (.base (.int _)) (by decide +kernel) q
theorem isi_int_bool {i : Int} (q : Q (.bl false) H) : rIsi K [.int i, .ty "bool"] H Q := rIsi_of (.base (.int _)) (by decide +kernel) q
theorem isi_str_str {z : Str} (q : Q (.bl true) H) : rIsi K [.str z, .ty "str"] H Q := rIsi_of (.base (.str _)) (by decide +kernel) q
theorem isi_lst {p : Addr} {xs : List V} (h : H p = some (.lst xs)) (q : Q (.bl true) H) : rIsi K [.ref p, .ty "list"] H Q := rIsi_of (.base (.lst h)) (by decide +kernel) q
end
theorem isi1 {K : PySem.W.Frag} {σ : L2.St} {x : V} {b : String} {H : Hp} {Q : VK} (h : rIsi K [x, .ty b] H Q) : tCons (tC (V.ty b)) tNil σ H (fun xs H2 => rIsi K (x :: xs) H2 Q) := h
/-! ### min, max of two texts -/
def val2 (a b : Str) (i : Nat) : Str := if i = 0 then a else b
theorem val2_at {a b : Str} {t u : Tok} {i : Nat} {v : Value} (h : (#[Value.str a t, Value.str b u] : Array Value)[i]? = some v) : ∃ k, v = .str (val2 a b i) k := by
  match i, h with
  | 0, h => exact ⟨t, (Option.some.inj h).symm⟩
  | 1, h => exact ⟨u, (Option.some.inj h).symm⟩
  | i + 2, h => simp at h
theorem cmp_strs_lt {prog : Program} {w : World} {A : Around} {P : Nat → Value → Prop} (val : Nat → Str) (hval : ∀ i v, P i v → ∃ t, v = .str (val i) t) :
    CmpOf prog w A .Lt P fun i j => decide ((val i).cps.toList < (val j).cps.toList) := by
  intro i j vi vj s Q E hi hj hQ
  obtain ⟨t, rfl⟩ := hval i vi hi
  obtain ⟨u, rfl⟩ := hval j vj hj
  exact PySem.P.lt_str hQ
theorem cmp_strs_gt {prog : Program} {w : World} {A : Around} {P : Nat → Value → Prop} (val : Nat → Str) (hval : ∀ i v, P i v → ∃ t, v = .str (val i) t) :
    CmpOf prog w A .Gt P fun i j => decide ((val j).cps.toList < (val i).cps.toList) := by
  intro i j vi vj s Q E hi hj hQ
  obtain ⟨t, rfl⟩ := hval i vi hi
  obtain ⟨u, rfl⟩ := hval j vj hj
  exact PySem.P.gt_str hQ
theorem min_two_strs {prog : Program} {w : World} {A : Around} {E : Value → Shared → Prop} {s : Shared} {a b : Str} {t u : Tok} {Q : Value → Shared → Prop} (hh : A.handled = none)
    (h : ∀ h' tk, (∀ c o, s.heap.get? c = some o → h'.get? c = some o) → Q (if b.cps.toList < a.cps.toList then .str b u else .str a t) { s with heap := h', toks := tk }) :
    wpAny (model prog w) A (call (.builtin "min") [.str a t, .str b u]) Q E s := by
  have hT : (s.heap.push { cls := .type "tuple", data := .seq #[.str a t, .str b u] }).IsTuple s.heap.objs.size #[.str a t, .str b u] := ⟨_, Heap.get?_push_size _ rfl, rfl, 0, by simp⟩
  refine call_min_two (wpAny_pyIter_tuple hT ?_)
  have hsz : (s.heap.push { cls := .type "tuple", data := .seq #[.str a t, .str b u] }).objs.size = s.heap.objs.size + 1 := Heap.size_push ..
  refine ⟨_, [_, s.heap.objs.size], [_], _, _, _, _, rfl, Walks.tuple (A := A.in1) hh _ s.heap.objs.size (by rw [hsz]; exact Nat.ne_of_lt (Nat.lt_succ_self _)) #[.str a t, .str b u],
    ⟨⟨_, Heap.get?_push_size _ rfl, rfl, rfl⟩, hT.push _⟩, fun c hc => ?_, by simp, cmp_strs_lt (val2 a b) (fun i v hv => val2_at hv), fun v h' tk hP hk => ?_⟩
  · show c < ((s.heap.push _).push _).objs.size
    rw [Heap.size_push, hsz]
    rcases List.mem_cons.mp hc with rfl | hc
    · rw [hsz]; exact Nat.lt_succ_self _
    · rcases List.mem_cons.mp hc with rfl | hc
      · exact Nat.lt_succ_of_lt (Nat.lt_succ_self _)
      · cases hc
  · have hold : ∀ c o, s.heap.get? c = some o → h'.get? c = some o := fun c o e => by
      refine hk c o (fun hm => ?_) (Heap.get?_push_of_some _ (Heap.get?_push_of_some _ e))
      rcases List.mem_cons.mp hm with e1 | hm
      · have := Heap.lt_size e; rw [e1, hsz] at this; exact Nat.lt_irrefl _ (Nat.lt_of_succ_lt this)
      · cases hm
    have := h h' tk hold
    have hv : v = if b.cps.toList < a.cps.toList then Value.str b u else Value.str a t := by
      have hP' : (#[Value.str a t, Value.str b u] : Array Value)[argBest (fun i j => decide ((val2 a b i).cps.toList < (val2 a b j).cps.toList)) 1]? = some v := hP
      by_cases hba : b.cps.toList < a.cps.toList
      · have e : argBest (fun i j => decide ((val2 a b i).cps.toList < (val2 a b j).cps.toList)) 1 = 1 := by simp [argBest, val2, hba]
        rw [e] at hP'
        rw [if_pos hba]
        exact (Option.some.inj hP').symm
      · have e : argBest (fun i j => decide ((val2 a b i).cps.toList < (val2 a b j).cps.toList)) 1 = 0 := by simp [argBest, val2, hba]
        rw [e] at hP'
        rw [if_neg hba]
        exact (Option.some.inj hP').symm
    rw [hv]; exact this
theorem max_two_strs {prog : Program} {w : World} {A : Around} {E : Value → Shared → Prop} {s : Shared} {a b : Str} {t u : Tok} {Q : Value → Shared → Prop} (hh : A.handled = none)
    (h : ∀ h' tk, (∀ c o, s.heap.get? c = some o → h'.get? c = some o) → Q (if a.cps.toList < b.cps.toList then .str b u else .str a t) { s with heap := h', toks := tk }) :
    wpAny (model prog w) A (call (.builtin "max") [.str a t, .str b u]) Q E s := by
  have hT : (s.heap.push { cls := .type "tuple", data := .seq #[.str a t, .str b u] }).IsTuple s.heap.objs.size #[.str a t, .str b u] := ⟨_, Heap.get?_push_size _ rfl, rfl, 0, by simp⟩
  refine call_max_two (wpAny_pyIter_tuple hT ?_)
  have hsz : (s.heap.push { cls := .type "tuple", data := .seq #[.str a t, .str b u] }).objs.size = s.heap.objs.size + 1 := Heap.size_push ..
  refine ⟨_, [_, s.heap.objs.size], [_], _, _, _, _, rfl, Walks.tuple (A := A.in1) hh _ s.heap.objs.size (by rw [hsz]; exact Nat.ne_of_lt (Nat.lt_succ_self _)) #[.str a t, .str b u],
    ⟨⟨_, Heap.get?_push_size _ rfl, rfl, rfl⟩, hT.push _⟩, fun c hc => ?_, by simp, cmp_strs_gt (val2 a b) (fun i v hv => val2_at hv), fun v h' tk hP hk => ?_⟩
  · show c < ((s.heap.push _).push _).objs.size
    rw [Heap.size_push, hsz]
    rcases List.mem_cons.mp hc with rfl | hc
    · rw [hsz]; exact Nat.lt_succ_self _
    · rcases List.mem_cons.mp hc with rfl | hc
      · exact Nat.lt_succ_of_lt (Nat.lt_succ_self _)
      · cases hc
  · have hold : ∀ c o, s.heap.get? c = some o → h'.get? c = some o := fun c o e => by
      refine hk c o (fun hm => ?_) (Heap.get?_push_of_some _ (Heap.get?_push_of_some _ e))
      rcases List.mem_cons.mp hm with e1 | hm
      · have := Heap.lt_size e; rw [e1, hsz] at this; exact Nat.lt_irrefl _ (Nat.lt_of_succ_lt this)
      · cases hm
    have := h h' tk hold
    have hv : v = if a.cps.toList < b.cps.toList then Value.str b u else Value.str a t := by
      have hP' : (#[Value.str a t, Value.str b u] : Array Value)[argBest (fun i j => decide ((val2 a b j).cps.toList < (val2 a b i).cps.toList)) 1]? = some v := hP
      by_cases hba : a.cps.toList < b.cps.toList
      · have e : argBest (fun i j => decide ((val2 a b j).cps.toList < (val2 a b i).cps.toList)) 1 = 1 := by simp [argBest, val2, hba]
        rw [e] at hP'
        rw [if_pos hba]
        exact (Option.some.inj hP').symm
      · have e : argBest (fun i j => decide ((val2 a b j).cps.toList < (val2 a b i).cps.toList)) 1 = 0 := by simp [argBest, val2, hba]
        rw [e] at hP'
        rw [if_neg hba]
        exact (Option.some.inj hP').symm
    rw [hv]; exact this
abbrev rMin2S : List V → Hp → VK → Prop := fun xs H Q => ∃ i j, xs = [.str i, .str j] ∧ Q (.str (if j.cps.toList < i.cps.toList then j else i)) H
abbrev rMax2S : List V → Hp → VK → Prop := fun xs H Q => ∃ i j, xs = [.str i, .str j] ∧ Q (.str (if i.cps.toList < j.cps.toList then j else i)) H
section
variable {X : Cx}
theorem call_min2S (hc : X.calm = true) : CallR X (.builtin "min") rMin2S := by
  intro pins s σ H xs us Q I r h
  obtain ⟨i, j, rfl, q⟩ := h
  obtain ⟨u, w', rfl, ⟨t, rfl⟩, ⟨t', rfl⟩⟩ := vals2 r
  refine min_two_strs (I.ok.hd hc) fun h' tk k => ⟨_, H, I.kept k, ?_, q⟩
  by_cases hj : j.cps.toList < i.cps.toList
  · rw [if_pos hj, if_pos hj]; exact ⟨_, rfl⟩
  · rw [if_neg hj, if_neg hj]; exact ⟨_, rfl⟩
theorem call_max2S (hc : X.calm = true) : CallR X (.builtin "max") rMax2S := by
  intro pins s σ H xs us Q I r h
  obtain ⟨i, j, rfl, q⟩ := h
  obtain ⟨u, w', rfl, ⟨t, rfl⟩, ⟨t', rfl⟩⟩ := vals2 r
  refine max_two_strs (I.ok.hd hc) fun h' tk k => ⟨_, H, I.kept k, ?_, q⟩
  by_cases hj : i.cps.toList < j.cps.toList
  · rw [if_pos hj, if_pos hj]; exact ⟨_, rfl⟩
  · rw [if_neg hj, if_neg hj]; exact ⟨_, rfl⟩
end
theorem range_mapF {α β : Type} (xs : List α) (d : α) (v : α → β) : (List.range xs.length).map (fun i => v (xs.getD i d)) = xs.map v := by
  have e := range_filter_map xs d (fun _ => true) v
  rw [List.filter_eq_self.mpr fun _ _ => rfl, List.filter_eq_self.mpr fun _ _ => rfl] at e
  exact e
/-! ### list(range(i, j, c)) -/
def rngL (i c : Int) (n : Nat) : List V := (List.range n).map fun (k : Nat) => .int (i + (k : Int) * c)
def tListR3 (ta : TA) : TE := fun σ H Q => ta σ H fun vs H1 => ∃ (i j c : Int) (n : Nat), vs = [.int i, .int j, .int c] ∧ RgC i j c n ∧ n ≤ 1000000 ∧ ∀ p, H1 p = none → Q (.ref p) (upd H1 p (.lst (rngL i c n)))
theorem pe_listRange3 {X : Cx} {a b c : Expr} {ta : TA} {p1 p2 q1 q2 : Pos} (hc : X.calm = true) (hgl : Gl X "list") (hml : X.mg "list" = none) (hg : Gl X "range") (hm : X.mg "range" = none) (ha : PA X [a, b, c] ta)
    (hs : starEach [a, b, c] X.env = (false, eval a X.env) :: starEach [b, c] X.env := by rfl) (hpl : (backTo q2 (starEach [b, c] X.env)).any (·.1) = false := by rfl)
    (he : starEach [.Call (.Name "range" p2) [a, b, c] [] q2] X.env = (false, eval (.Call (.Name "range" p2) [a, b, c] [] q2) X.env) :: starEach [] X.env := by rfl) :
    PE X (.Call (.Name "list" p1) [.Call (.Name "range" p2) [a, b, c] [] q2] [] q1) (tListR3 ta) := by
  refine ⟨fun pins s σ H Q I h => ?_⟩
  refine wpAny_Call_Name_kw (ld_blt I hgl hml (u := .type "list") (by rfl) ?_ (by decide) (by decide))
  refine PyProof.Rows.callWith_type1 ?_ he (by rfl)
  rw [he]
  show wpAny _ _ (spliced ((false, eval (.Call (.Name "range" p2) [a, b, c] [] q2) X.env) :: backTo q1 (starEach [] X.env))) _ _ s
  refine Calls.spliced_cons ?_
  refine wpAny_Call_Name_kw (ld_blt I hg hm (u := .type "range") (by rfl) ?_ (by decide) (by decide))
  refine PyProof.Rows.callWith_type1 (thn (ha.run q2 pins s σ H _ I h) fun us s1 ⟨vs, H1, I1, r1, q⟩ => ?_) hs hpl
  obtain ⟨i, j, k, n, e, ⟨c0, c1, c2, c3⟩, hn, q⟩ := q
  subst e
  cases r1 with
  | cons r rr =>
    cases rr with
    | cons r' rr =>
      cases rr with
      | cons r'' rr =>
        cases rr
        obtain ⟨t, rfl⟩ := r
        obtain ⟨t', rfl⟩ := r'
        obtain ⟨t'', rfl⟩ := r''
        refine call_range_3 c0 ?_ (.inl (PyProof.noPylong_small c1))
        refine Calls.spliced_nil ?_
        have I2 : Inv X pins σ H1 { s1 with heap := s1.heap.push { cls := .type "range", data := .fields #[.int i t, .int j t', .int k t''] } } := I1.kept (t' := s1.toks) fun b o e => Heap.get?_push_of_some _ e
        refine PySem.call_list_range (I2.ok.hd hc) (IsRange.new ..) c2 c3 (by omega) fun h' tk acc c' kk e it => ?_
        obtain ⟨it1, it2⟩ := it
        have hl : (rngL i k n).length = n := by
          unfold rngL
          rw [List.length_map, List.length_range]
        refine ⟨.ref _, upd H1 _ (.lst (rngL i k n)), I2.laid (t' := tk) kk (Nat.le_refl _) ⟨?_, acc.toList, c', ?_, e⟩, rfl, q _ (I2.hok.fresh (Nat.le_refl _))⟩
        · rw [hl, sizeLine_eq]; omega
        · refine paired_ix ?_ fun m x y hx hy => ?_
          · rw [hl, Array.length_toList, it1]
          · rw [Array.getElem?_toList] at hy
            obtain ⟨tt, rfl⟩ := it2 m y hy
            unfold rngL at hx
            rw [List.getElem?_map] at hx
            cases hm2 : (List.range n)[m]? with
            | none => rw [hm2] at hx; cases hx
            | some w =>
              rw [hm2] at hx
              have := List.getElem?_range (n := n) (i := m)
              have hw : w = m := by
                have hlt : m < n := by
                  rcases Nat.lt_or_ge m n with z | z
                  · exact z
                  · rw [List.getElem?_eq_none (by rw [List.length_range]; exact z)] at hm2; cases hm2
                rw [List.getElem?_range hlt] at hm2
                exact (Option.some.inj hm2).symm
              subst hw
              cases hx
              exact ⟨tt, rfl⟩
theorem gTupN2 {K : PySem.W.Frag} {a : Addr} {v w : V} {i j : Nat} {σ : L2.St} {H : Hp} {Q : L2.St → Hp → Prop} (h : SqT K H a [v, w]) (q : Q ((σ.set i (some v)).set j (some w)) H) : gTup K 2 (gCons (gName i) (gCons (gName j) gNil)) (.ref a) σ H Q :=
  ⟨a, _, rfl, h, rfl, v, _, rfl, w, _, rfl, rfl, q⟩
theorem gTupN3 {K : PySem.W.Frag} {a : Addr} {v w x : V} {i j k : Nat} {σ : L2.St} {H : Hp} {Q : L2.St → Hp → Prop} (h : SqT K H a [v, w, x]) (q : Q (((σ.set i (some v)).set j (some w)).set k (some x)) H) : gTup K 3 (gCons (gName i) (gCons (gName j) (gCons (gName k) gNil))) (.ref a) σ H Q :=
  ⟨a, _, rfl, h, rfl, v, _, rfl, w, _, rfl, x, _, rfl, rfl, q⟩
theorem tyV_list {K : PySem.W.Frag} {H : Hp} {p : Addr} {xs : List V} (h : H p = some (.lst xs)) : tyV K "list" (.ref p) H := .inl ⟨rfl, xs, .inl (.inl h)⟩
theorem app_to {H : Hp} {p : Addr} {xs : List V} {y : V} {Q : VK} (h : H p = some (.lst xs)) (hz : xs.length < sizeLine) (q : Q .non (upd H p (.lst (xs ++ [y])))) : rAppend (.ref p) [y] H Q := ⟨p, xs, y, rfl, rfl, h, hz, q⟩
theorem app_new {H : Hp} {p : Addr} {xs : List V} {y : V} {Q : VK} (hz : xs.length < sizeLine) (q : Q .non (upd H p (.lst (xs ++ [y])))) : rAppend (.ref p) [y] (upd H p (.lst xs)) Q := ⟨p, xs, y, rfl, rfl, upd_same, hz, by rw [upd_upd]; exact q⟩
theorem rev_new {H : Hp} {p : Addr} {xs : List V} {Q : VK} (q : Q .non (upd H p (.lst xs.reverse))) : rReverse (.ref p) [] (upd H p (.lst xs)) Q := ⟨p, xs, rfl, rfl, upd_same, by rw [upd_upd]; exact q⟩
/-- the end of a law: what it raises may hang on the world -/
theorem walk_ofW {l : PySem.W.OpenLaw} {n k : Nat} {q : Program} {loose : List Str} {XP : (Str → Option Value) → Heap → Prop} {YP : World → Heap → Prop} {d : DefRec} {CX : World → CXT} {x : Str} (h1 : l.most = some n) (h2 : n ≤ sizeLine) (h3 : d.params.defaults = [])
    (h4 : Room k callerA)
    (F : ∀ (w : World) (mg : Str → Option Value) (fa : Addr) (h : Heap), YP w h → h.Ns mainGlobals mg → mg d.name = some (.ref fa) → ∃ (K : PySem.W.Frag) (fd : FuncData) (sp : Sp), K.In h ∧ (∀ (s : Shared) (u : Value), BindsTo s fd ⟨[u], []⟩ [(x, u)]) ∧
      (∀ (H : Hp) (a : Addr) (ns : List Int), ns.length ≤ n → Only H → SqL K H a (ns.map V.int) → sp [.ref a] H (fun v _ => v = .bl true) fun _ _ _ => False) ∧ ∀ base : Heap, K.In base → base.Ns mainGlobals mg → FnOk l.prog w K mg base (CX w) k fa fd [x] sp)
    (h5 : ∀ (w : World) (H : Hp) (s : Shared) (e : Value) (s1 : Shared), CX w [] H s (fun _ _ _ => False) e s1 → False) : PySem.W.WalkO q loose XP YP l.row.toRowW d [] (fun f vs => PySem.call f vs) := by
  refine Att.attach_call h1 h3 ?_
  intro w s0 s1 mg mb fa o pm cd doc a vs ns G Y _ _ _ hm hob hin hln hg
  obtain ⟨K, fd, sp, kx, b1, b2, b3⟩ := F w mg fa _ Y G.T.g hm
  exact law_call kx G.T.g G.T.b G.T.builtins G.T.nolimit hg hob hin (Nat.le_trans hln h2) h4 b3 b1 (fun H y z => b2 H a ns hln y z) (fun H e s2 => h5 w H s1 e s2)
theorem cx_none {P : Program} {w : World} {l : List Env} {H : Hp} {s : Shared} {e : Value} {s1 : Shared} (h : L2.CX P w l H s (fun _ _ _ => False) e s1) : False := by
  obtain ⟨_, _, _, _, _, _, _, _, _, _, _, _, z⟩ := h
  exact z
/-! ### own classes: methods, makers -/
structure FnM (P : Program) (w : World) (K : PySem.W.Frag) (mg : Str → Option Value) (base : Heap) (CX : CXT) (C : Addr) (m : Str) (ps : List Str) (k : Nat) (sp : Sp) : Prop where
  ex : ∃ f fd, Meth K C m f ∧ Binds K fd ps [] ∧ FnOk P w K mg base CX k f fd ps sp
structure FnI (P : Program) (w : World) (K : PySem.W.Frag) (mg : Str → Option Value) (base : Heap) (CX : CXT) (C : Addr) (ps : List Str) (k : Nat) (sp : Sp) : Prop where
  ex : ∃ f fd, Mk K C f ∧ Binds K fd ps [] ∧ FnOk P w K mg base CX k f fd ps sp
/-- o.m(..) where what is raised is wished for at the caller's slots -/
def tMethSD (C : Addr) (m : Str) (sp : Sp) (E : L2.St → XK) (ta : TE) (t : TA) : TE := fun σ H Q => ta σ H fun x H1 => ∃ a dx fs, x = .ref a ∧ H1 a = some (.ins C dx fs) ∧ fs.lookup m = none ∧ t σ H1 fun vs H2 => sp (x :: (vs ++ [])) H2 Q (E σ)
def tMakeSD (C : Addr) (sp : Sp) (E : L2.St → XK) (t : TA) : TE := fun σ H Q => t σ H fun vs H1 => ∀ x dx, H1 x = none → H1 dx = none → dx ≠ x →
  sp (.ref x :: (vs ++ [])) (upd (upd H1 dx (.own x)) x (.ins C dx [])) (fun v H2 => v = .non ∧ Q (.ref x) H2) (E σ)
section
variable {X : Cx} {CX : CXT} {j k : Nat} {C : Addr} {ps : List Str} {sp : Sp} {x m : Str} {p pos apos : Pos} {e o : Expr} {es : List Expr} {ta : TE} {t : TA} {E : XK} {pl : Sem Bool}
theorem pe_Gm (G : FnM X.prog X.w X.K X.mg X.base CX C m ps k sp) (hr : Room j X.A) (hjk : k ≤ j) (he : PE X o ta) (c : Cls X.K C) (hx : Passes CX X E) (ha : PA X (e :: es) t)
    (hst : starEach (e :: es) X.env = (false, eval e X.env) :: starEach es X.env := by rfl) (hpl : (backTo pos (starEach es X.env)).any (·.1) = false := by rfl)
    (ht : eval (.Call (.Attribute o m apos) (e :: es) [] pos) X.env = (do
      let ov ← eval o X.env
      standAt apos.atName
      let (f, first) ← holding [ov] (getMethod ov m pl)
      callWith pos f first (backTo pos (starEach (e :: es) X.env)) (backToKw pos (keywordEach [] X.env))) := by rfl) :
    PE X (.Call (.Attribute o m apos) (e :: es) [] pos) (tMeth C m sp [] E ta t) := by
  obtain ⟨f, fd, hm, hb, F⟩ := G.ex
  exact pe_meth he c hm F (hr.mono hjk) hb .nil hx ha hst hpl ht
theorem pe_Gm0 (G : FnM X.prog X.w X.K X.mg X.base CX C m ps k sp) (hr : Room j X.A) (hjk : k ≤ j) (he : PE X o ta) (c : Cls X.K C) (hx : Passes CX X E)
    (ht : eval (.Call (.Attribute o m apos) [] [] pos) X.env = (do
      let ov ← eval o X.env
      standAt apos.atName
      let (f, first) ← holding [ov] (getMethod ov m pl)
      callWith pos f first (backTo pos (starEach [] X.env)) (backToKw pos (keywordEach [] X.env))) := by rfl) :
    PE X (.Call (.Attribute o m apos) [] [] pos) (tMeth C m sp [] E ta tNil) := by
  obtain ⟨f, fd, hm, hb, F⟩ := G.ex
  exact pe_meth0 he c hm F (hr.mono hjk) hb .nil hx ht
theorem pe_GM (G : FnI X.prog X.w X.K X.mg X.base CX C ps k sp) (hr : Room j X.A) (hjk : k + 1 ≤ j) (hg : Gl X x) (hm : X.mg x = some (.ref C)) (hx : Passes CX X E) (ha : PA X (e :: es) t)
    (hdb : (x == ("__debug__" : Str)) = false := by decide) (he : starEach (e :: es) X.env = (false, eval e X.env) :: starEach es X.env := by rfl) (hpl : (backTo pos (starEach es X.env)).any (·.1) = false := by rfl) :
    PE X (.Call (.Name x p) (e :: es) [] pos) (tMake C sp [] E t) := by
  obtain ⟨f, fd, M, hb, F⟩ := G.ex
  exact pe_make M F (hr.mono hjk) hg hm hb .nil hx ha hdb he hpl
end
section
variable {X : Cx} {j k : Nat} {C : Addr} {ps : List Str} {sp : Sp} {x m : Str} {p pos apos : Pos} {e o : Expr} {es : List Expr} {ta : TE} {t : TA} {E : L2.St → XK} {pl : Sem Bool}
theorem pe_GmS (G : FnM X.prog X.w X.K X.mg X.base (L2.CX X.prog X.w) C m ps k sp) (hr : Room j X.A) (hjk : k ≤ j) (he : PE X o ta) (c : Cls X.K C) (hx : ∀ σ, PassesAt (L2.CX X.prog X.w) X σ (E σ)) (ha : PA X (e :: es) t)
    (hst : starEach (e :: es) X.env = (false, eval e X.env) :: starEach es X.env := by rfl) (hpl : (backTo pos (starEach es X.env)).any (·.1) = false := by rfl)
    (ht : eval (.Call (.Attribute o m apos) (e :: es) [] pos) X.env = (do
      let ov ← eval o X.env
      standAt apos.atName
      let (f, first) ← holding [ov] (getMethod ov m pl)
      callWith pos f first (backTo pos (starEach (e :: es) X.env)) (backToKw pos (keywordEach [] X.env))) := by rfl) :
    PE X (.Call (.Attribute o m apos) (e :: es) [] pos) (tMethSD C m sp E ta t) := by
  obtain ⟨f, fd, hm, hb, F⟩ := G.ex
  refine ⟨fun pins s σ H Q I h => ?_⟩
  refine PySem.W.methodCall_KW (pl := pl) (thn (he.run pins s σ H _ I h) fun u s1 z => ?_) ht
  obtain ⟨y, H1, I1, rx, a, dx, fs, ex, ea, l, q⟩ := z
  subst ex
  obtain rfl : u = Value.ref a := rx
  refine getmeth_ok I1 ea c hm l ?_
  refine PySem.W.callWith_K (first := [.ref a]) (h₀ := X.base) I1.ok.mod.kin hm.kp (thn (ha.run pos pins s1 σ H1 _ I1 q) fun us s2 z => ?_) hst hpl
  obtain ⟨vs, H2, I2, r, q2⟩ := z
  exact ⟨I2.kIn, run_fnSD (us := .ref a :: us) (vs := .ref a :: vs) F (hr.mono hjk) hb .nil (hx σ) I2 (.cons rfl r) q2⟩
theorem pe_GmS0 (G : FnM X.prog X.w X.K X.mg X.base (L2.CX X.prog X.w) C m ps k sp) (hr : Room j X.A) (hjk : k ≤ j) (he : PE X o ta) (c : Cls X.K C) (hx : ∀ σ, PassesAt (L2.CX X.prog X.w) X σ (E σ))
    (ht : eval (.Call (.Attribute o m apos) [] [] pos) X.env = (do
      let ov ← eval o X.env
      standAt apos.atName
      let (f, first) ← holding [ov] (getMethod ov m pl)
      callWith pos f first (backTo pos (starEach [] X.env)) (backToKw pos (keywordEach [] X.env))) := by rfl) :
    PE X (.Call (.Attribute o m apos) [] [] pos) (tMethSD C m sp E ta tNil) := by
  obtain ⟨f, fd, hm, hb, F⟩ := G.ex
  refine ⟨fun pins s σ H Q I h => ?_⟩
  refine PySem.W.methodCall_KW (pl := pl) (thn (he.run pins s σ H _ I h) fun u s1 z => ?_) ht
  obtain ⟨y, H1, I1, rx, a, dx, fs, ex, ea, l, q⟩ := z
  subst ex
  obtain rfl : u = Value.ref a := rx
  refine getmeth_ok I1 ea c hm l ?_
  exact PySem.W.callWith_K0 (first := [.ref a]) I1.kIn hm.kp (run_fnSD (us := [.ref a]) (vs := [.ref a]) F (hr.mono hjk) hb .nil (hx σ) I1 (.cons rfl .nil) q)
theorem pe_GMS (G : FnI X.prog X.w X.K X.mg X.base (L2.CX X.prog X.w) C ps k sp) (hr : Room j X.A) (hjk : k + 1 ≤ j) (hg : Gl X x) (hm : X.mg x = some (.ref C)) (hx : ∀ σ, PassesAt (L2.CX X.prog X.w) X σ (E σ)) (ha : PA X (e :: es) t)
    (hdb : (x == ("__debug__" : Str)) = false := by decide) (he : starEach (e :: es) X.env = (false, eval e X.env) :: starEach es X.env := by rfl) (hpl : (backTo pos (starEach es X.env)).any (·.1) = false := by rfl) :
    PE X (.Call (.Name x p) (e :: es) [] pos) (tMakeSD C sp E t) := by
  obtain ⟨f, fd, M, hb, F⟩ := G.ex
  refine ⟨fun pins s σ H Q I h => ?_⟩
  refine wpAny_Call_Name_kw (ld_glob I hg hm ?_ hdb)
  refine PySem.W.callWith_K (h₀ := X.base) I.ok.mod.kin M.kp (thn (ha.run pos pins s σ H _ I h) fun us s1 z => ?_) he hpl
  obtain ⟨vs, H1, I1, r, q⟩ := z
  refine ⟨I1.kIn, ?_⟩
  have hq := q (s1.heap.objs.size + 1) s1.heap.objs.size (I1.hok.fresh (Nat.le_succ _)) (I1.hok.fresh (Nat.le_refl _)) (Nat.ne_of_lt (Nat.lt_succ_self _))
  have I2 := Inv.made (C := C) I1
  have r2 : Vals (V.ref (s1.heap.objs.size + 1) :: (vs ++ [])) (Value.ref (s1.heap.objs.size + 1) :: (us ++ [])) := .cons rfl (r.append .nil)
  have hl : (Value.ref (s1.heap.objs.size + 1) :: us ++ []).length = ps.length := by
    have e := r2.length
    rw [F.len _ _ _ _ hq] at e
    exact e.symm
  have hbb := hb _ (Value.ref (s1.heap.objs.size + 1) :: us) I2.kIn hl
  rw [List.cons_append] at hbb
  refine wpAny_call (make_map (f := f) I1.kIn M.makes M.init (beq_iff_eq.mp M.fn) (codeAny_mono (F.run _ X.stack _ _ ⟨Value.ref (s1.heap.objs.size + 1) :: us, []⟩ (Value.ref (s1.heap.objs.size + 1) :: (us ++ [])) _ _ (E σ) ((hr.mono hjk).make C us [])
    (I2.env0.make C us []) hbb r2 hq) fun r s' hq' => ?_))
  cases r with
  | error e => exact hx σ pins _ _ e s' I2 hq'
  | ok fl =>
    cases fl with
    | ret u =>
      obtain ⟨v, H', I3, rv, ev, q3⟩ := I2.after hq'
      subst ev
      exact ⟨rv, ⟨V.ref (s1.heap.objs.size + 1), H', I3, rfl, q3⟩⟩
    | next => exact False.elim hq'
    | brk => exact False.elim hq'
    | cont => exact False.elim hq'
end
/-! ### max(list, default=d) -/
section
variable {prog : Program} {w : World} {A : Around} {R : Result → Shared → Prop} {I : Addr} {fp wr : List Addr} {n : Nat} {P : Nat → Value → Prop} {St : Nat → Heap → Prop} {kw : List (Str × Value)}
theorem mx_loop (W : Walks prog w A.in1 I fp wr n P St) (bt : Nat → Nat → Bool) (hcmp : CmpOf prog w A.in1 .Gt P bt) (S : Addr) (hSf : S ∉ fp) :
    ∀ (k j : Nat) (s : Shared) (vb : Value) (c : Nat), n - (j + 1) = k → j + 1 ≤ n → St (j + 1) s.heap → P (argBest bt j) vb →
    s.heap.get? S = some { cls := .type "list", dict := none, data := .seq #[vb, vb] c, slots := #[] } →
    (∀ v h' tk, P (argBest bt (n - 1)) v → (∀ b o, b ∉ wr → b ≠ S → s.heap.get? b = some o → h'.get? b = some o) → R (.ok (.ret v)) { s with heap := h', toks := tk }) →
    codeAny (model prog w) A (.builtin "max.loop" ⟨[.ref I, .none, .ref S], kw⟩) R s := by
  have hSw : S ∉ wr := fun h => hSf (W.sub _ h)
  have hname : (toString "max" ++ toString ".loop" : String) = "max.loop" := by decide
  intro k
  induction k with
  | zero =>
    intro j s vb c hk hj hst hPb hS hR
    have hin : j + 1 = n := by omega
    refine codeAny_builtin F.entry_max_loop ?_
    rw [Around.under_plainId F.plain_max_loop _]
    show wpAny _ A.in1 (seqItems? (.ref S) >>= _) _ _ s
    refine wpAny_bind (wpAny_seqItems hS rfl ?_)
    show wpAny _ A.in1 (tryCatch (pyNext (.ref I)) _ >>= _) _ _ s
    refine wpAny_bind (wpAny_tryCatch (W.done s _ _ (hin ▸ hst) fun h' tk hk' => ?_))
    have hS' := hk' S _ hSw hS
    show wpAny _ A.in1 (updateSeq S (fun _ => #[]) >>= _) _ _ _
    refine wpAny_bind ?_
    refine wpAny_updateSeq hS' rfl (wpAny_bind (wpAny_letGo (wpAny_pure ?_)))
    exact hR vb _ tk (by rw [← hin]; exact hPb) fun b o hbw hbS e => (Heap.get?_update_other _ _ (Ne.symm hbS)).trans (hk' b o hbw e)
  | succ k ih =>
    intro j s vb c hk hj hst hPb hS hR
    have hlt : j + 1 < n := by omega
    refine codeAny_builtin F.entry_max_loop ?_
    rw [Around.under_plainId F.plain_max_loop _]
    show wpAny _ A.in1 (seqItems? (.ref S) >>= _) _ _ s
    refine wpAny_bind (wpAny_seqItems hS rfl ?_)
    show wpAny _ A.in1 (tryCatch (pyNext (.ref I)) _ >>= _) _ _ s
    refine wpAny_bind (wpAny_tryCatch (W.item (j + 1) s _ _ hlt hst fun v h' tk hP hst' hk' => ?_))
    have hS' := hk' S _ hSw hS
    show wpAny _ A.in1 (tryCatch (holding [v, v] (richCompare .Gt v vb >>= _)) _ >>= _) _ _ _
    refine wpAny_bind (wpAny_tryCatch (wpAny_holding (wpAny_bind (hcmp (j + 1) (argBest bt j) v vb _ _ _ hP hPb ?_))))
    refine wpAny_bind (wpAny_holding (wpAny_truthy_bool ?_))
    refine wpAny_bind (wpAny_letGo (wpAny_pure ?_))
    cases hb : bt (j + 1) (argBest bt j) with
    | true =>
      simp only [if_true]
      refine wpAny_bind ?_
      refine wpAny_updateSeq hS' rfl (wpAny_bind (wpAny_letGo ?_))
      rw [hname]
      refine wpAny_pure ⟨plainId_quiet F.plain_max_loop _, ih (j + 1) _ v _ (by omega) hlt (W.frame _ _ _ hst' fun b hbf o e => ?_) (by simp only [argBest, hb, if_true]; exact hP) (Heap.get?_update_self _ hS' rfl) fun v' h'' tk'' hP' hk'' => ?_⟩
      · exact (Heap.get?_update_other _ _ (fun h : S = b => hSf (by rw [h]; exact hbf))).trans e
      · exact hR v' h'' tk'' hP' fun b o hbw hbS e => hk'' b o hbw hbS ((Heap.get?_update_other _ _ (Ne.symm hbS)).trans (hk' b o hbw e))
    | false =>
      simp only [Bool.false_eq_true, if_false]
      refine wpAny_bind (wpAny_letGo ?_)
      rw [hname]
      refine wpAny_pure ⟨plainId_quiet F.plain_max_loop _, ih (j + 1) _ vb c (by omega) hlt hst' (by simp only [argBest, hb, Bool.false_eq_true, if_false]; exact hPb) hS' fun v' h'' tk'' hP' hk'' => ?_⟩
      exact hR v' h'' tk'' hP' fun b o hbw hbS e => hk'' b o hbw hbS (hk' b o hbw e)
theorem mx_first (W : Walks prog w A.in1 I fp wr n P St) (bt : Nat → Nat → Bool) (hcmp : CmpOf prog w A.in1 .Gt P bt) (S : Addr) (hSf : S ∉ fp) (hn : 0 < n) {s : Shared} {c : Nat} (hst : St 0 s.heap)
    (hS : s.heap.get? S = some { cls := .type "list", dict := none, data := .seq #[] c, slots := #[] })
    (hR : ∀ v h' tk, P (argBest bt (n - 1)) v → (∀ b o, b ∉ wr → b ≠ S → s.heap.get? b = some o → h'.get? b = some o) → R (.ok (.ret v)) { s with heap := h', toks := tk }) :
    codeAny (model prog w) A (.builtin "max.loop" ⟨[.ref I, .none, .ref S], kw⟩) R s := by
  have hSw : S ∉ wr := fun h => hSf (W.sub _ h)
  have hname : (toString "max" ++ toString ".loop" : String) = "max.loop" := by decide
  refine codeAny_builtin F.entry_max_loop ?_
  rw [Around.under_plainId F.plain_max_loop _]
  show wpAny _ A.in1 (seqItems? (.ref S) >>= _) _ _ s
  refine wpAny_bind (wpAny_seqItems hS rfl ?_)
  show wpAny _ A.in1 (tryCatch (pyNext (.ref I)) _ >>= _) _ _ s
  refine wpAny_bind (wpAny_tryCatch (W.item 0 s _ _ hn hst fun v h' tk hP hst' hk' => ?_))
  have hS' := hk' S _ hSw hS
  show wpAny _ A.in1 (updateSeq S (fun _ => #[v, v]) >>= _) _ _ _
  refine wpAny_bind ?_
  refine wpAny_updateSeq hS' rfl ?_
  rw [hname]
  refine wpAny_pure ⟨plainId_quiet F.plain_max_loop _, mx_loop W bt hcmp S hSf _ 0 _ v _ rfl hn (W.frame _ _ _ hst' fun b hbf o e => ?_) hP (Heap.get?_update_self _ hS' rfl) fun v' h'' tk'' hP' hk'' => ?_⟩
  · exact (Heap.get?_update_other _ _ (fun h : S = b => hSf (by rw [h]; exact hbf))).trans e
  · exact hR v' h'' tk'' hP' fun b o hbw hbS e => hk'' b o hbw hbS ((Heap.get?_update_other _ _ (Ne.symm hbS)).trans (hk' b o hbw e))
/-- nothing to walk: the default -/
theorem mx_none {d : Value} {kn : Str} (W : Walks prog w A.in1 I fp wr 0 P St) (S : Addr) (hSf : S ∉ fp) {s : Shared} {c : Nat} (hst : St 0 s.heap)
    (hS : s.heap.get? S = some { cls := .type "list", dict := none, data := .seq #[] c, slots := #[] })
    (hR : ∀ h' tk, (∀ b o, b ∉ wr → s.heap.get? b = some o → h'.get? b = some o) → R (.ok (.ret d)) { s with heap := h', toks := tk }) :
    codeAny (model prog w) A (.builtin "max.loop" ⟨[.ref I, .none, .ref S], [(kn, d)]⟩) R s := by
  have hSw : S ∉ wr := fun h => hSf (W.sub _ h)
  refine codeAny_builtin F.entry_max_loop ?_
  rw [Around.under_plainId F.plain_max_loop _]
  show wpAny _ A.in1 (seqItems? (.ref S) >>= _) _ _ s
  refine wpAny_bind (wpAny_seqItems hS rfl ?_)
  show wpAny _ A.in1 (tryCatch (pyNext (.ref I)) _ >>= _) _ _ s
  refine wpAny_bind (wpAny_tryCatch (W.done s _ _ hst fun h' tk hk' => ?_))
  exact wpAny_bind (wpAny_rule (wpAny_pure (hR h' tk hk')))
end
section
variable {prog : Program} {w : World} {A : Around} {E : Value → Shared → Prop} {s : Shared}
theorem call_tree_kw {id : String} {b : Builtin} {args : List Value} {kw : List (Str × Value)} {Q : Value → Shared → Prop} (hk : builtinKind id = none) (hp : plainId id = true)
    (hb : entryFor table id = some b) (ha : argsOk id ⟨args, kw⟩)
    (hfin : wpAny (model prog w) A.in1 (b ⟨args, kw⟩) (fun fin s' => match fin with
      | .done f => (match (Except.ok f : Result) with | .ok (.ret v) => Q v s' | .ok _ => False | .error e => E e s')
      | .again c' => c'.quiet = true ∧ codeAny (model prog w) A c' (fun r s' => match r with | .ok (.ret v) => Q v s' | .ok _ => False | .error e => E e s') s') E s) : wpAny (model prog w) A (call (.builtin id) args kw) Q E s := by
  refine wpAny_call (codeAny_call_builtin hp hb ?_)
  simp only [checkBuiltinCall, hk]
  cases hsig : Manifest.signature? id with
  | none => exact wpAny_pure hfin
  | some sig =>
    have ha' : Bind.checkArgs id sig ⟨args, kw⟩ = pure () := by simpa only [argsOk, hsig] using ha
    simp only [ha']
    exact wpAny_pure hfin
theorem mx_args (a d : Value) : argsOk "max" ⟨[a], [(Str.ofString "default", d)]⟩ := by unfold argsOk; kernel_rfl
theorem mx_call {x d : Value} {Q : Value → Shared → Prop}
    (h : wpAny (model prog w) A.in1 (pyIter x) (fun it s₂ => ∃ I fp wr n P St bt, it = .ref I ∧ Walks prog w A.in1 I fp wr n P St ∧ St 0 s₂.heap ∧ (∀ b ∈ fp, b < s₂.heap.objs.size) ∧ CmpOf prog w A.in1 .Gt P bt ∧
      (0 < n → ∀ v h' tk, P (argBest bt (n - 1)) v → (∀ b o, b ∉ wr → s₂.heap.get? b = some o → h'.get? b = some o) → Q v { s₂ with heap := h', toks := tk }) ∧
      (n = 0 → ∀ h' tk, (∀ b o, b ∉ wr → s₂.heap.get? b = some o → h'.get? b = some o) → Q d { s₂ with heap := h', toks := tk })) E s) :
    wpAny (model prog w) A (call (.builtin "max") [x] [(Str.ofString "default", d)]) Q E s := by
  have hname : (toString "max" ++ toString ".loop" : String) = "max.loop" := by decide
  refine call_tree_kw F.kind_max F.plain_max F.entry_max (mx_args _ _) ?_
  show wpAny _ A.in1 (Builtin.Builtins.bindParams "max" ["key", "default"] 0 ⟨[], [(Str.ofString "default", d)]⟩ >>= _) _ _ s
  refine wpAny_bind (wpAny_of_eq (show Builtin.Builtins.bindParams "max" ["key", "default"] 0 ⟨[], [(Str.ofString "default", d)]⟩ = pure [none, some d] from by kernel_rfl) ?_)
  refine wpAny_bind (wpAny_pure ?_)
  refine wpAny_bind (wpAny_mono h (fun it s₂ h₂ => ?_) fun _ _ e => e)
  obtain ⟨I, fp, wr, n, P, St, bt, rfl, W, hst, hfp, hcmp, hQ, hZ⟩ := h₂
  refine wpAny_bind (wpAny_newObj_type ?_)
  have hSf : s₂.heap.objs.size ∉ fp := fun hm => Nat.lt_irrefl _ (hfp _ hm)
  rw [hname]
  cases n with
  | zero =>
    refine wpAny_pure ⟨plainId_quiet F.plain_max_loop _, mx_none W s₂.heap.objs.size hSf (W.frame _ _ _ hst fun b _ o e => Heap.get?_push_of_some _ e) (Heap.get?_push_size _ rfl) fun h' tk hk => ?_⟩
    exact hZ rfl h' tk fun b o hbw e => hk b o hbw (Heap.get?_push_of_some _ e)
  | succ n =>
    refine wpAny_pure ⟨plainId_quiet F.plain_max_loop _, mx_first W bt hcmp s₂.heap.objs.size hSf (Nat.succ_pos _) (W.frame _ _ _ hst fun b _ o e => Heap.get?_push_of_some _ e) (Heap.get?_push_size _ rfl) fun v h' tk hP hk => ?_⟩
    exact hQ (Nat.succ_pos _) v h' tk hP fun b o hbw e => hk b o hbw (Nat.ne_of_lt (Heap.lt_size e)) (Heap.get?_push_of_some _ e)
end
/-- the greatest of some whole numbers, d where there is none -/
def MaxOf (d : Int) (ns : List Int) (m : Int) : Prop := (ns = [] ∧ m = d) ∨ (m ∈ ns ∧ ∀ y, y ∈ ns → y ≤ m)
abbrev rMaxDef (K : PySem.W.Frag) : List V → List V → Hp → VK → Prop := fun vs zs H Q => ∃ (a : Addr) (ns : List Int) (d : Int), vs = [V.ref a] ∧ zs = [V.int d] ∧ SqL K H a (ns.map V.int) ∧ ∀ m, MaxOf d ns m → Q (.int m) H
theorem call_maxDef {X : Cx} (hc : X.calm = true) : CallRK X (.builtin "max") [Str.ofString "default"] (rMaxDef X.K) := by
  intro pins s σ H vs zs us ws Q I r rz h
  obtain ⟨a, ns, d, rfl, rfl, hs, q⟩ := h
  obtain ⟨its, rv, hl, _⟩ := I.list hs
  rw [Vals.ref1 r]
  obtain ⟨u, rfl, t, rfl⟩ := vals1 rz
  have hi := rv.ints
  have hli := hl.isList
  obtain ⟨xs, e⟩ := hi.allInts.items
  have hn : numsOf (intItems xs).toList = ns := by rw [← e]; exact hi.numsOf
  rw [nums_intItems] at hn
  subst hn
  rw [e] at hli
  refine mx_call (iter_intList hli fun s₂ e2 st hfp hlI => ?_)
  subst e2
  refine ⟨_, _, _, _, _, _, _, rfl, Walks.list (A := X.A.in1) (I.ok.hd hc) _ a hlI (intItems xs), st, hfp, CmpOf.ints_gt (numAt xs) (fun _ _ => intItems_at), fun hpos v h' tk hP hk => ?_, fun h0 h' tk hk => ?_⟩
  · have hsz : 0 < xs.size := by simpa [intItems] using hpos
    have hP' : (intItems xs)[argBest (fun i j => decide (numAt xs i > numAt xs j)) (xs.size - 1)]? = some v := by simpa [intItems] using hP
    obtain ⟨t2, rfl⟩ := intItems_at hP'
    obtain ⟨h1, h2⟩ := argBest_gt (numAt xs) (xs.size - 1)
    refine ⟨.int _, H, I.kept (old_kept hk), ⟨_, rfl⟩, q _ (.inr ⟨?_, fun y hy => ?_⟩)⟩
    · rw [numAt_eq]; exact PySem.getD_mem (by rw [List.length_map, Array.length_toList]; omega)
    · obtain ⟨j, hj, rfl⟩ := mem_getD hy
      rw [List.length_map, Array.length_toList] at hj
      rw [← numAt_eq]; exact h2 j (by omega)
  · have hsz : xs.size = 0 := by simpa [intItems] using h0
    refine ⟨.int _, H, I.kept (old_kept hk), ⟨_, rfl⟩, q _ (.inl ⟨?_, rfl⟩)⟩
    rw [List.map_eq_nil_iff]
    exact List.eq_nil_of_length_eq_zero (by rw [Array.length_toList]; exact hsz)
abbrev rShl1 : R2 := fun x y H Q => ∃ k : Nat, x = .int 1 ∧ y = .int (k : Int) ∧ k ≤ 134217727 ∧ Q (.int (2 ^ k)) H
/-! ### how often a text stands in a list -/
def eqsV (k : Str) : Value → Bool
  | .str z _ => z.cps.toList == k.cps.toList
  | _ => false
def rCntS (K : PySem.W.Frag) : V → List V → Hp → VK → Prop := fun x xs H Q => ∃ (p : Addr) (ns : List Str) (k : Str), x = .ref p ∧ xs = [.str k] ∧ SqL K H p (ns.map V.str) ∧ Q (.int ((ns.countP fun z => z.cps.toList == k.cps.toList : Nat) : Int)) H
theorem eqsV_count {k : Str} : ∀ {vs : List Value} {ns : List Str}, StrsAre vs ns → vs.countP (eqsV k) = ns.countP fun z => z.cps.toList == k.cps.toList
  | _, _, .nil => rfl
  | _, _, .cons n t r => by
    rw [List.countP_cons, List.countP_cons, eqsV_count r]
    rfl
theorem mt_lcountS {X : Cx} : MtR X "list.count" (rCntS X.K) := by
  intro pins s σ H x xs v us Q I rx rxs h
  obtain ⟨p, ns, k, rfl, rfl, hs, q⟩ := h
  cases rx
  obtain ⟨u, rfl, ru⟩ := rxs.one
  obtain ⟨t, rfl⟩ := ru
  obtain ⟨its, rv, ⟨⟨cls, dd, data, sl⟩, n, ho, hc, hdn, hd⟩, hlen⟩ := I.list hs
  simp only at hc hd
  subst hc hd
  have hi := rv.strs
  refine call_meets PySem.F.slot_list_count ⟨_, ho, rfl⟩ PySem.F.entry_list_count (PySem.F.args_list_count_2 _ _)
    (SeqAt.list_countAt p its.toArray n dd sl (.str k t) (eqsV k)) ⟨ho, fun y hy => ?_, ?_⟩
  · obtain ⟨z, u, e⟩ := strs_mem hi y (by simpa using hy)
    rw [e]
    exact (SeqRoads2.EqGives.str z k u t).at _ _
  have ec : its.toArray.toList.countP (eqsV k) = ns.countP fun z => z.cps.toList == k.cps.toList := eqsV_count hi
  refine ⟨.int ((ns.countP fun z => z.cps.toList == k.cps.toList : Nat) : Int), H, I.tok _, ⟨s.toks, ?_⟩, q⟩
  show Value.int ((its.toArray.toList.countP (eqsV k) : Nat) : Int) s.toks = Value.int ((ns.countP fun z => z.cps.toList == k.cps.toList : Nat) : Int) s.toks
  rw [ec]
/-! ### the least, the greatest of a list of texts -/
theorem strs_atD : ∀ {us : List Value} {xs : List Str}, StrsAre us xs → ∀ (i : Nat) (v : Value), us[i]? = some v → ∃ t, v = .str (xs.getD i Str.empty) t
  | _, _, .nil, i, v, h => by simp at h
  | _, _, .cons n t hr, 0, v, h => by simp at h; exact ⟨t, by rw [← h] <;> rfl⟩
  | _, _, .cons n t hr, i + 1, v, h => by
    simp only [List.getElem?_cons_succ] at h
    obtain ⟨t', e⟩ := strs_atD hr i v h
    exact ⟨t', by rw [e] <;> rfl⟩
theorem cmpS_gt {prog : Program} {w : World} {A : Around} {P : Nat → Value → Prop} (val : Nat → Str) (hval : ∀ i v, P i v → ∃ t, v = .str (val i) t) :
    CmpOf prog w A .Gt P (fun i j => decide ((val j).cps.toList < (val i).cps.toList)) := fun i j vi vj s Q E hi hj h => by
  obtain ⟨t, rfl⟩ := hval i vi hi
  obtain ⟨u, rfl⟩ := hval j vj hj
  exact richCompare_gives (op := .Gt) (typeIs_str s _ t) (typeIs_str s _ u) PySem.F.slot_str_gt PySem.F.entry_str_gt (PySem.F.args_str_gt_2 _ _) (gives_str_gt _ _ t u) (fun x => nomatch x) h
theorem cmpS_lt {prog : Program} {w : World} {A : Around} {P : Nat → Value → Prop} (val : Nat → Str) (hval : ∀ i v, P i v → ∃ t, v = .str (val i) t) :
    CmpOf prog w A .Lt P (fun i j => decide ((val i).cps.toList < (val j).cps.toList)) := fun i j vi vj s Q E hi hj h => by
  obtain ⟨t, rfl⟩ := hval i vi hi
  obtain ⟨u, rfl⟩ := hval j vj hj
  exact richCompare_gives (op := .Lt) (typeIs_str s _ t) (typeIs_str s _ u) PySem.F.slot_str_lt PySem.F.entry_str_lt (PySem.F.args_str_lt_2 _ _) (gives_str_lt _ _ t u) (fun x => nomatch x) h
theorem bestL_gt (key : Nat → List Nat) : ∀ k, argBest (fun i j => decide (key j < key i)) k ≤ k ∧ ∀ j, j ≤ k → key j ≤ key (argBest (fun i j => decide (key j < key i)) k)
  | 0 => ⟨Nat.le_refl _, fun j hj => by obtain rfl : j = 0 := by omega
                                        exact List.le_refl _⟩
  | k + 1 => by
    obtain ⟨h1, h2⟩ := bestL_gt key k
    simp only [argBest]
    by_cases hc : key (argBest (fun i j => decide (key j < key i)) k) < key (k + 1)
    · rw [if_pos (decide_eq_true hc)]
      refine ⟨Nat.le_refl _, fun j hj => ?_⟩
      rcases Nat.lt_or_ge k j with h | h
      · obtain rfl : j = k + 1 := by omega
        exact List.le_refl _
      · exact List.le_trans (h2 j h) (List.le_of_lt hc)
    · rw [if_neg (by simpa using hc)]
      refine ⟨by omega, fun j hj => ?_⟩
      rcases Nat.lt_or_ge k j with h | h
      · obtain rfl : j = k + 1 := by omega
        exact List.not_lt.mp hc
      · exact h2 j h
theorem bestL_lt (key : Nat → List Nat) : ∀ k, argBest (fun i j => decide (key i < key j)) k ≤ k ∧ ∀ j, j ≤ k → key (argBest (fun i j => decide (key i < key j)) k) ≤ key j
  | 0 => ⟨Nat.le_refl _, fun j hj => by obtain rfl : j = 0 := by omega
                                        exact List.le_refl _⟩
  | k + 1 => by
    obtain ⟨h1, h2⟩ := bestL_lt key k
    simp only [argBest]
    by_cases hc : key (k + 1) < key (argBest (fun i j => decide (key i < key j)) k)
    · rw [if_pos (decide_eq_true hc)]
      refine ⟨Nat.le_refl _, fun j hj => ?_⟩
      rcases Nat.lt_or_ge k j with h | h
      · obtain rfl : j = k + 1 := by omega
        exact List.le_refl _
      · exact List.le_trans (List.le_of_lt hc) (h2 j h)
    · rw [if_neg (by simpa using hc)]
      refine ⟨by omega, fun j hj => ?_⟩
      rcases Nat.lt_or_ge k j with h | h
      · obtain rfl : j = k + 1 := by omega
        exact List.not_lt.mp hc
      · exact h2 j h
theorem iter_anyList {prog : Program} {w : World} {A : Around} {E : Value → Shared → Prop} {s : Shared} {l : Addr} {xs : Array Value} {Q : Value → Shared → Prop} (hl : s.heap.IsList l xs)
    (h : ∀ s₂ : Shared, s₂ = { s with heap := s.heap.push { cls := .type "list_iterator", data := .fields #[.ref l, .int 0 0] } } →
      (s₂.heap.IsListIter s.heap.objs.size l 0 ∧ s₂.heap.IsList l xs) → (∀ b ∈ [s.heap.objs.size, l], b < s₂.heap.objs.size) → l ≠ s.heap.objs.size → Q (.ref s.heap.objs.size) s₂) :
    wpAny (model prog w) A (pyIter (.ref l)) Q E s := by
  have hlt : l < s.heap.objs.size := by obtain ⟨_, e, _⟩ := hl; exact Heap.lt_size e
  refine wpAny_pyIter_list hl (h _ rfl ⟨⟨_, Heap.get?_push_size _ rfl, rfl, rfl⟩, hl.push _⟩ (fun b hb => ?_) (Nat.ne_of_lt hlt))
  show b < (s.heap.push _).objs.size
  rw [Heap.size_push]
  rcases List.mem_cons.mp hb with rfl | hb
  · exact Nat.lt_succ_self _
  · rcases List.mem_cons.mp hb with rfl | hb
    · exact Nat.lt_succ_of_lt hlt
    · cases hb
def rMaxS (K : PySem.W.Frag) : List V → Hp → VK → Prop := fun vs H Q => ∃ (a : Addr) (ns : List Str), vs = [V.ref a] ∧ SqL K H a (ns.map V.str) ∧ 0 < ns.length ∧ ∀ m, m ∈ ns → (∀ y, y ∈ ns → y.cps.toList ≤ m.cps.toList) → Q (.str m) H
def rMinS (K : PySem.W.Frag) : List V → Hp → VK → Prop := fun vs H Q => ∃ (a : Addr) (ns : List Str), vs = [V.ref a] ∧ SqL K H a (ns.map V.str) ∧ 0 < ns.length ∧ ∀ m, m ∈ ns → (∀ y, y ∈ ns → m.cps.toList ≤ y.cps.toList) → Q (.str m) H
theorem cr_maxS {X : Cx} (hc : X.calm = true) : CallR X (.builtin "max") (rMaxS X.K) := by
  intro pins s σ H vs us Q I r h
  obtain ⟨a, ns, rfl, hs, hne, q⟩ := h
  obtain ⟨its, rv, hl, _⟩ := I.list hs
  rw [Vals.ref1 r]
  have hi := rv.strs
  have hli := hl.isList
  have hsz : its.length = ns.length := hi.len_eq
  refine call_max_walk (iter_anyList hli fun s₂ e2 st hfp hlI => ?_)
  subst e2
  refine ⟨_, _, _, _, _, _, _, rfl, Walks.list (A := X.A.in1) (I.ok.hd hc) _ a hlI its.toArray, st, hfp, by rw [List.size_toArray, hsz]; exact hne, cmpS_gt (fun i => ns.getD i Str.empty) (fun i v h => strs_atD hi i v (by simpa using h)), fun v h' tk hP hk => ?_⟩
  obtain ⟨t2, rfl⟩ := strs_atD hi _ v (by rw [List.getElem?_toArray] at hP; exact hP)
  obtain ⟨h1, h2⟩ := bestL_gt (fun i => (ns.getD i Str.empty).cps.toList) (its.toArray.size - 1)
  rw [List.size_toArray, hsz] at h1 h2
  refine ⟨.str _, H, I.kept (old_kept hk), ⟨_, rfl⟩, q _ ?_ fun y hy => ?_⟩
  · rw [List.size_toArray, hsz, List.getD_eq_getElem?_getD, List.getElem?_eq_getElem (by omega)]
    exact List.getElem_mem _
  · obtain ⟨j, hj, rfl⟩ := List.mem_iff_getElem.mp hy
    have e : ns[j] = ns.getD j Str.empty := by rw [List.getD_eq_getElem?_getD, List.getElem?_eq_getElem hj]; rfl
    rw [List.size_toArray, hsz, e]; exact h2 j (by omega)
theorem cr_minS {X : Cx} (hc : X.calm = true) : CallR X (.builtin "min") (rMinS X.K) := by
  intro pins s σ H vs us Q I r h
  obtain ⟨a, ns, rfl, hs, hne, q⟩ := h
  obtain ⟨its, rv, hl, _⟩ := I.list hs
  rw [Vals.ref1 r]
  have hi := rv.strs
  have hli := hl.isList
  have hsz : its.length = ns.length := hi.len_eq
  refine call_min_walk (iter_anyList hli fun s₂ e2 st hfp hlI => ?_)
  subst e2
  refine ⟨_, _, _, _, _, _, _, rfl, Walks.list (A := X.A.in1) (I.ok.hd hc) _ a hlI its.toArray, st, hfp, by rw [List.size_toArray, hsz]; exact hne, cmpS_lt (fun i => ns.getD i Str.empty) (fun i v h => strs_atD hi i v (by simpa using h)), fun v h' tk hP hk => ?_⟩
  obtain ⟨t2, rfl⟩ := strs_atD hi _ v (by rw [List.getElem?_toArray] at hP; exact hP)
  obtain ⟨h1, h2⟩ := bestL_lt (fun i => (ns.getD i Str.empty).cps.toList) (its.toArray.size - 1)
  rw [List.size_toArray, hsz] at h1 h2
  refine ⟨.str _, H, I.kept (old_kept hk), ⟨_, rfl⟩, q _ ?_ fun y hy => ?_⟩
  · rw [List.size_toArray, hsz, List.getD_eq_getElem?_getD, List.getElem?_eq_getElem (by omega)]
    exact List.getElem_mem _
  · obtain ⟨j, hj, rfl⟩ := List.mem_iff_getElem.mp hy
    have e : ns[j] = ns.getD j Str.empty := by rw [List.getD_eq_getElem?_getD, List.getElem?_eq_getElem hj]; rfl
    rw [List.size_toArray, hsz, e]; exact h2 j (by omega)
/-! ### isinstance(e, (A, B, ..)), e the exception that the suite holds -/
def rIsET (K : PySem.W.Frag) (D a : Addr) : List V → Hp → VK → Prop := fun xs H Q => ∃ (tp : Addr) (cs : List V) (ws : List Value) (b : Bool), xs = [.ref a, .ref tp] ∧ H tp = some (.tup cs) ∧ Paired ClsV cs ws ∧ PySem.W.kitAny K (.ref D) ws = some b ∧ Q (.bl b) H
theorem call_isET {X : Cx} {a D : Addr} {oe : Obj} {pn : List (Addr × Obj)} (C : ExcC X.K D) (hz : Zc (.ref D) none oe) (hf : ∃ vs, oe.data = .fields vs) : CallR (X.suite a ((a, oe) :: pn)) (.builtin "isinstance") (rIsET X.K D a) := by
  intro pins s σ H xs us Q I r h
  obtain ⟨tp, cs, ws, b, rfl, hT, k, e, q⟩ := h
  obtain ⟨u1, u2, rfl, r1, r2⟩ := vals2 r
  cases (show u2 = Value.ref tp from r2)
  cases (show u1 = Value.ref a from r1)
  obtain ⟨hget, _⟩ := I.pin (a, oe) (List.mem_append.mpr (.inl List.mem_cons_self))
  obtain ⟨vs, hv⟩ := hf
  have J : PySem.W.InstAt s.heap a oe D none := by
    obtain ⟨oc, od, oda, osl⟩ := oe
    obtain ⟨h1, h2⟩ := hz
    dsimp only at h1 h2 hv
    subst h1 h2 hv
    exact ⟨hget, rfl, rfl, trivial⟩
  obtain ⟨_, its, rv, o, h1, h2, n, h3⟩ := (show ObjOk _ _ H s.heap tp (.tup cs) from I.hok tp _ hT)
  have e3 := ClsV.all k rv
  subst e3
  obtain ⟨oc, od, dt, sl⟩ := o
  simp only at h2 h3
  subst h2 h3
  exact PySem.W.kia_tup (PySem.W.handS_kitx_exc C.hg C.hk C.hs C.hd C.ha C.hn C.ht C.hm) I.kIn J h1 e (fun z => nomatch z) fun tk => ⟨.bl b, H, I.tok tk, rfl, q⟩
/-! ### how often True (False) stands in a list of such -/
def eqbV (k : Bool) : Value → Bool
  | .bool z => z == k
  | _ => false
def rCntB (K : PySem.W.Frag) : V → List V → Hp → VK → Prop := fun x xs H Q => ∃ (p : Addr) (ns : List Bool) (k : Bool), x = .ref p ∧ xs = [.bl k] ∧ SqL K H p (ns.map V.bl) ∧ Q (.int ((ns.countP fun z => z == k : Nat) : Int)) H
theorem eqbV_count {k : Bool} : ∀ ns : List Bool, (ns.map Value.bool).countP (eqbV k) = ns.countP fun z => z == k
  | [] => rfl
  | n :: r => by
    rw [List.map_cons, List.countP_cons, List.countP_cons, eqbV_count r]
    rfl
theorem mt_lcountB {X : Cx} : MtR X "list.count" (rCntB X.K) := by
  intro pins s σ H x xs v us Q I rx rxs h
  obtain ⟨p, ns, k, rfl, rfl, hs, q⟩ := h
  cases rx
  obtain ⟨u, rfl, ru⟩ := rxs.one
  cases (show u = Value.bool k from ru)
  obtain ⟨its, rv, ⟨⟨cls, dd, data, sl⟩, n, ho, hc, hdn, hd⟩, hlen⟩ := I.list hs
  simp only at hc hd
  subst hc hd
  have hi := Vals.bls rv
  subst hi
  refine call_meets PySem.F.slot_list_count ⟨_, ho, rfl⟩ PySem.F.entry_list_count (PySem.F.args_list_count_2 _ _)
    (SeqAt.list_countAt p (ns.map Value.bool).toArray n dd sl (.bool k) (eqbV k)) ⟨ho, fun y hy => ?_, ?_⟩
  · obtain ⟨z, hz, rfl⟩ := List.mem_map.mp (show y ∈ ns.map Value.bool by simpa using hy)
    exact eqAt_V (y := .bl z) (x := .bl k) rfl rfl rfl rfl
  have ec : (ns.map Value.bool).toArray.toList.countP (eqbV k) = ns.countP fun z => z == k := eqbV_count ns
  refine ⟨.int ((ns.countP fun z => z == k : Nat) : Int), H, I.tok _, ⟨s.toks, ?_⟩, q⟩
  show Value.int (((ns.map Value.bool).toArray.toList.countP (eqbV k) : Nat) : Int) s.toks = Value.int ((ns.countP fun z => z == k : Nat) : Int) s.toks
  rw [ec]
abbrev rEndsw : V → List V → Hp → VK → Prop := fun x xs H Q => ∃ a b, x = .str a ∧ xs = [.str b] ∧ Q (.bl (Txt.endswith a b)) H
/-! ### the keys of a dict, sorted -/
theorem risingS_pw : ∀ {r : List Str} {x : Str}, risingS x r = true → (x :: r).Pairwise fun a b => a.cps.toList ≤ b.cps.toList
  | [], _, _ => List.pairwise_singleton _ _
  | y :: r, x, h => by
    have h0 : (!ltCps y.cps.toList x.cps.toList && risingS y r) = true := h
    obtain ⟨h1, h2⟩ := (Bool.and_eq_true _ _).mp h0
    rw [ltCps_eq] at h1
    have hxy : x.cps.toList ≤ y.cps.toList := List.not_lt.mp (by simpa using h1)
    have ih := risingS_pw h2
    refine List.pairwise_cons.mpr ⟨fun z hz => ?_, ih⟩
    rcases List.mem_cons.mp hz with e | e
    · rw [e]; exact hxy
    · exact List.le_trans hxy ((List.pairwise_cons.mp ih).1 z e)
theorem sortedS_pw : ∀ {ys : List Str}, sortedS ys = true → ys.Pairwise fun a b => a.cps.toList ≤ b.cps.toList
  | [], _ => .nil
  | _ :: _, h => risingS_pw h
def rSortedD : List V → Hp → VK → Prop := fun xs H Q => ∃ (a : Addr) (kvs : List (Key × V)) (ks : List Str), xs = [.ref a] ∧ Rd H a (.dK kvs) ∧ kvs.map (·.1) = ks.map Sum.inr ∧ ks.length < 64 ∧
    ∀ (ys : List Str) (p : Addr), ys.Perm ks → (ys.Pairwise fun a b => a.cps.toList ≤ b.cps.toList) → H p = none → Q (.ref p) (upd H p (.lst (ys.map V.str)))
theorem cr_sortedD {X : Cx} (hc : X.calm = true) : CallR X (.builtin "sorted") rSortedD := fun pins s σ H xs us Q I r h =>
  call_sortedD hc pins s σ H xs us Q I r (by
    obtain ⟨a, kvs, ks, h1, h2, h3, h4, q⟩ := h
    exact ⟨a, kvs, ks, h1, h2, h3, h4, fun ys p k1 k2 k3 => q ys p k1 (sortedS_pw k2) k3⟩)
/-! ### a comprehension within another one's block -/
theorem blkOk_in {X : Cx} {s : Shared} {H : Hp} {scope scope2 sc0 : Scope} {cl : List (Str × Addr)} {C : Addr} {fp : List Addr} {N : List Str} {own : List (Str × Nat)} (hN : X.N = N) (e : X.env.scope = sc0) (h : blkC N (relS scope sc0) scope2 own = true) :
    BlkOk (X.blk s H scope (compEnvC scope cl C X.env) fp).N (X.blk s H scope (compEnvC scope cl C X.env) fp).env.scope scope2 own := by
  subst hN e
  exact blkOk_by (sc := relS scope X.env.scope) h
end Sm
/-! SmMath: plain mathematics of marks. -/
namespace Sm
open PySem PySem.Spec PyProof.Rows L2
theorem mulW {i j : Int} (a b : Nat) (h1 : i.natAbs < 2 ^ a) (h2 : j.natAbs < 2 ^ b) (ha : 0 < a := by decide) (hb : 0 < b := by decide) (h : a + b ≤ 1000000 := by decide) : CMulW i j := wide_mul h1 h2 ha hb h
theorem mulW64 {i j : Int} (h1 : -(2 ^ 64) < i ∧ i < 2 ^ 64) (h2 : -(2 ^ 64) < j ∧ j < 2 ^ 64) : CMulW i j := mulW 64 64 (by omega) (by omega)
theorem divW64 {i j : Int} (h1 : 0 < j) (h2 : j < 2 ^ 64) : CDivW i j := wide_div (b := 64) h1 (by omega) (by decide) (by decide)
/-! ### ifs -/
theorem iteD {p A B : Prop} [Decidable p] (h1 : p → A) (h2 : ¬ p → B) : if decide p = true then A else B := by
  by_cases h : p
  · rw [decide_eq_true h]; exact iteT (h1 h)
  · rw [decide_eq_false h]; exact iteF (h2 h)
theorem iteDN {p A B : Prop} [Decidable p] (h1 : ¬ p → A) (h2 : p → B) : if (!decide p) = true then A else B := by
  by_cases h : p
  · rw [decide_eq_true h]; exact iteF (h2 h)
  · rw [decide_eq_false h]; exact iteT (h1 h)
theorem iteEI {x y : Int} {A B : Prop} (h1 : x = y → A) (h2 : ¬ x = y → B) : if decide (V.int x = V.int y) = true then A else B :=
  iteD (fun h => h1 (V.int.inj h)) fun h => h2 fun e => h (by rw [e])
theorem iteNI {x y : Int} {A B : Prop} (h1 : ¬ x = y → A) (h2 : x = y → B) : if (!decide (V.int x = V.int y)) = true then A else B :=
  iteDN (fun h => h1 fun e => h (by rw [e])) fun h => h2 (V.int.inj h)
theorem iteES {x y : Str} {A B : Prop} (h1 : x = y → A) (h2 : ¬ x = y → B) : if decide (V.str x = V.str y) = true then A else B :=
  iteD (fun h => h1 (V.str.inj h)) fun h => h2 fun e => h (by rw [e])
theorem iteNS' {x y : Str} {A B : Prop} (h1 : ¬ x = y → A) (h2 : x = y → B) : if (!decide (V.str x = V.str y)) = true then A else B :=
  iteDN (fun h => h1 fun e => h (by rw [e])) fun h => h2 (V.str.inj h)
theorem sz : sizeLine = 16777216 := sizeLine_eq
/-! ### letters, texts -/
open SX
/-- a text of letters by their numbers -/
def txt (ds : List Nat) : Str := S (ds.map (97 + ·))
abbrev LET : Str := "abcdefghijklmnopqrstuvwxyz"
theorem let_S : LET = txt (List.range 26) := by decide +kernel
theorem txt_len (ds : List Nat) : (txt ds).length = ds.length := by unfold txt; rw [S_len, List.length_map]
theorem txt_inj {a b : List Nat} (h : txt a = txt b) : a = b := by
  have e := S_inj h
  exact List.map_inj_right (fun x y h => by omega) |>.mp e
theorem txt_cat (a b : List Nat) : txt a ++ txt b = txt (a ++ b) := by unfold txt; rw [S_cat, List.map_append]
theorem txt_tl (ds : List Nat) : (txt ds).cps.toList = ds.map (97 + ·) := rfl
theorem txt_nil : txt [] = ("" : Str) := by decide +kernel
theorem let_len : ("abcdefghijklmnopqrstuvwxyz" : Str).length = 26 := by decide +kernel
theorem S_nil : ("" : Str) = S [] := by decide +kernel
theorem S_a : ("a" : Str) = S [97] := by decide +kernel
theorem let_atN {i : Nat} (h : i < 26) : LET.cps.toList[i]? = some (97 + i) := by
  rw [let_S, txt_tl, List.getElem?_map, List.getElem?_range h]; rfl
theorem let_at {j : Int} (h0 : 0 ≤ j) (h : j < 26) : atI LET.cps.toList j = some (97 + j.toNat) := by
  obtain ⟨n, rfl⟩ := Int.eq_ofNat_of_zero_le h0
  exact atI_nat (let_atN (by omega))
theorem join_txt (ds : List Nat) : Txt.join ("" : Str) (ds.map fun d => txt [d]) = txt ds := by
  have e : (ds.map fun d => txt [d]) = ((ds.map fun d => [97 + d]).map S) := by rw [List.map_map]; rfl
  rw [e, show ("" : Str) = S [] by decide +kernel, join_S]
  refine congrArg S ?_
  clear e
  induction ds with
  | nil => rfl
  | cons a r ih =>
    cases r with
    | nil => rfl
    | cons b r =>
      show [97 + a] ++ ([] ++ TL.joinL [] ((b :: r).map fun d => [97 + d])) = _
      rw [ih]; rfl
theorem slice_mid {a : List Nat} {i j : Nat} (h1 : i ≤ j) (h2 : j ≤ a.length) : Txt.slice (S a) (some (i : Int)) (some (j : Int)) = S ((a.drop i).take (j - i)) := by
  have e := beq_iff_eq.mp (PyProof.Rows.slice_closesL (x := S a) (i := (i : Int)) (j := (j : Int)) (by omega) (by omega) (by rw [S_len]; omega))
  refine e.trans ?_
  show S (List.take _ (List.drop _ a)) = _
  rw [Int.toNat_natCast, show ((j : Int) - i).toNat = j - i by omega]
theorem slice_txt {ds : List Nat} {i j : Nat} (h1 : i ≤ j) (h2 : j ≤ ds.length) : Txt.slice (txt ds) (some (i : Int)) (some (j : Int)) = txt ((ds.drop i).take (j - i)) := by
  unfold txt
  rw [slice_mid h1 (by rw [List.length_map]; exact h2), ← List.map_drop, ← List.map_take]
/-! ### order of texts, sorted ones -/
theorem str_ext {x y : Str} (h : x.cps.toList = y.cps.toList) : x = y := by
  obtain ⟨a⟩ := x; obtain ⟨b⟩ := y
  have h' : a.toList = b.toList := h
  rw [Array.toList_inj.mp h']
theorem rising_pw : ∀ {l : List Str} {p : Str}, risingS p l = true → (p :: l).Pairwise fun a b => a.cps.toList ≤ b.cps.toList
  | [], p, _ => List.pairwise_singleton _ _
  | x :: r, p, h => by
    have h' : (!ltCps x.cps.toList p.cps.toList && risingS x r) = true := h
    rw [Bool.and_eq_true, ltCps_eq, Bool.not_eq_true', decide_eq_false_iff_not] at h'
    have ih := rising_pw h'.2
    refine List.pairwise_cons.mpr ⟨fun b hb => ?_, ih⟩
    have px : p.cps.toList ≤ x.cps.toList := h'.1
    rcases List.mem_cons.mp hb with rfl | hb
    · exact px
    · exact List.le_trans px ((List.pairwise_cons.mp ih).1 b hb)
theorem sorted_pw : ∀ {l : List Str}, sortedS l = true → l.Pairwise fun a b => a.cps.toList ≤ b.cps.toList
  | [], _ => List.Pairwise.nil
  | _ :: _, h => rising_pw h
theorem sorted_eq {xs ys : List Str} (hp : ys.Perm xs) (hs : sortedS ys = true) (hx : xs.Pairwise fun a b => a.cps.toList ≤ b.cps.toList) : ys = xs :=
  List.Perm.eq_of_pairwise (le := fun a b => a.cps.toList ≤ b.cps.toList) (fun a b _ _ h1 h2 => str_ext (List.le_antisymm h1 h2)) (sorted_pw hs) hx hp
theorem sorted_eqP {xs ys : List Str} (hp : ys.Perm xs) (hs : ys.Pairwise fun a b => a.cps.toList ≤ b.cps.toList) (hx : xs.Pairwise fun a b => a.cps.toList ≤ b.cps.toList) : ys = xs :=
  List.Perm.eq_of_pairwise (le := fun a b => a.cps.toList ≤ b.cps.toList) (fun a b _ _ h1 h2 => str_ext (List.le_antisymm h1 h2)) hs hx hp
/-! ### two lists of texts compared -/
theorem dpAll_strs {K : PySem.W.Frag} {H : Hp} : ∀ ys : List Str, DpAll K H (ys.map V.str) (ys.map PyData.str)
  | [] => .nil
  | y :: r => .cons (.str y) (dpAll_strs r)
structure Sh (n : Nat) (d : PyData) : Prop where
  lay : d.canLay0 = true
  dep : d.depth ≤ n
theorem Sh.shaped {n : Nat} {d : PyData} (h : Sh n d) (hn : n ≤ 64 := by decide) : SeqAt.shaped d = true := by
  show (d.canLay0 && decide (d.depth ≤ 64)) = true
  rw [h.lay, decide_eq_true (Nat.le_trans h.dep hn)]; rfl
theorem Sh.int {n : Nat} (i : Int) : Sh n (.int i) := ⟨by simp [PyData.canLay0], by simp [PyData.depth]⟩
theorem Sh.bl {n : Nat} (i : Bool) : Sh n (.bool i) := ⟨by simp [PyData.canLay0], by simp [PyData.depth]⟩
theorem Sh.non {n : Nat} : Sh n .none := ⟨by simp [PyData.canLay0], by simp [PyData.depth]⟩
theorem Sh.str {n : Nat} {x : Str} (h : PyData.strOk x = true) : Sh n (.str x) := ⟨by simpa [PyData.canLay0] using h, by simp [PyData.depth]⟩
theorem sh_all {n : Nat} : ∀ {ds : List PyData}, (∀ d ∈ ds, Sh n d) → PyData.canLayAll0 ds = true ∧ PyData.depthAll ds ≤ n
  | [], _ => ⟨by simp [PyData.canLayAll0], by simp [PyData.depthAll]⟩
  | d :: ds, h => by
    obtain ⟨a, b⟩ := sh_all fun x hx => h x (List.mem_cons_of_mem _ hx)
    have c := h d List.mem_cons_self
    exact ⟨by simp [PyData.canLayAll0, a, c.lay], by simp only [PyData.depthAll]; exact Nat.max_le.mpr ⟨c.dep, b⟩⟩
theorem Sh.list {n : Nat} {ds : List PyData} (h : ∀ d ∈ ds, Sh n d) : Sh (n + 1) (.list ds) := by
  obtain ⟨a, b⟩ := sh_all h
  exact ⟨by simpa [PyData.canLay0] using a, by simp only [PyData.depth]; omega⟩
theorem Sh.tup {n : Nat} {ds : List PyData} (h : ∀ d ∈ ds, Sh n d) : Sh (n + 1) (.tuple ds) := by
  obtain ⟨a, b⟩ := sh_all h
  exact ⟨by simpa [PyData.canLay0] using a, by simp only [PyData.depth]; omega⟩
theorem strOk_S {l : List Nat} (h : ∀ c ∈ l, c < 0x110000) : PyData.strOk (S l) = true := by
  show (S l).cps.all (· < 0x110000) = true
  rw [← Array.all_toList]
  exact List.all_eq_true.mpr fun c hc => decide_eq_true (h c hc)
theorem strOk_txt {ds : List Nat} (h : ∀ d ∈ ds, d < 1000) : PyData.strOk (txt ds) = true := strOk_S fun c hc => by
  obtain ⟨d, hd, rfl⟩ := List.mem_map.mp hc
  have := h d hd
  omega
theorem sh_strs {ys : List Str} (h : ∀ y ∈ ys, PyData.strOk y = true) : Sh 1 (.list (ys.map PyData.str)) := Sh.list fun d hd => by
  obtain ⟨y, hy, rfl⟩ := List.mem_map.mp hd
  exact Sh.str (h y hy)
theorem eqvAll_strs : ∀ xs ys : List Str, PyData.eqvAll (xs.map .str) (ys.map .str) = decide (xs = ys)
  | [], [] => by simp [PyData.eqvAll]
  | x :: xs, y :: ys => by
    rw [List.map_cons, List.map_cons, PyData.eqvAll, PyData.eqv, eqvAll_strs xs ys]
    by_cases h : x = y
    · subst h; simp
    · simp [h]
  | [], y :: ys => by simp [PyData.eqvAll]
  | x :: xs, [] => by simp [PyData.eqvAll]
theorem eqv_strs (xs ys : List Str) : PyData.eqv (.list (xs.map .str)) (.list (ys.map .str)) = decide (xs = ys) := by rw [PyData.eqv, eqvAll_strs]
/-! ### an item by its place -/
theorem pick {xs : List V} {e : Int} (P : V → Prop) (h0 : 0 ≤ e) (h1 : e < xs.length) (hP : ∀ x ∈ xs, P x) : ∃ x, atI xs e = some x ∧ P x := by
  obtain ⟨n, rfl⟩ := Int.eq_ofNat_of_zero_le h0
  have hn : n < xs.length := by omega
  exact ⟨xs[n], atI_nat (List.getElem?_eq_getElem hn), hP _ (List.getElem_mem hn)⟩
theorem all1 {α : Type} {P : α → Prop} {x : α} {r : List α} (h : P x) (t : ∀ y ∈ r, P y) : ∀ y ∈ x :: r, P y := fun y hy => by
  rcases List.mem_cons.mp hy with rfl | hy
  · exact h
  · exact t y hy
theorem all0 {α : Type} {P : α → Prop} : ∀ y ∈ ([] : List α), P y := fun _ h => nomatch h
/-! ### the law's own head -/
def sp_law (K : PySem.W.Frag) : Sp := fun vs H Q _ => ∃ (a : Addr) (ns : List Int), vs = [.ref a] ∧ SqL K H a (ns.map V.int) ∧ ns.length ≤ 63 ∧ Only H ∧ ∀ H', Q (.bl true) H'
theorem law_in {K : PySem.W.Frag} {H : Hp} {a : Addr} {ns : List Int} (hO : Only H) (hS : SqL K H a (ns.map V.int)) (hl : ns.length ≤ 63) : sp_law K [.ref a] H (fun v _ => v = .bl true) fun _ _ _ => False :=
  ⟨a, ns, rfl, hS, hl, hO, fun _ => rfl⟩
/-- the letters from b on whose number less 1 has rest d by h -/
def ends (L h d : Nat) : List Nat := ((List.range (L - 1)).filter fun i => i % h == d).map (· + 1)
theorem ends_le (L h d : Nat) : (ends L h d).length ≤ L := by
  unfold ends
  rw [List.length_map]
  exact Nat.le_trans (List.length_filter_le _ _) (by rw [List.length_range]; omega)
theorem filt_step {w d m m2 : Nat} (hd : m % w = d) (h1 : m < m2) (h2 : m2 ≤ m + w) : (List.range m2).filter (fun i => i % w == d) = (List.range m).filter (fun i => i % w == d) ++ [m] := by
  obtain ⟨k, rfl⟩ : ∃ k, m2 = m + 1 + k := ⟨m2 - (m + 1), by omega⟩
  induction k with
  | zero =>
    rw [Nat.add_zero, List.range_succ, List.filter_append, List.filter_cons, if_pos (beq_iff_eq.mpr hd)]; rfl
  | succ k ih =>
    have hne : ¬ ((m + 1 + k) % w == d) = true := fun h => by
      have e : (m + 1 + k) % w = m % w := (beq_iff_eq.mp h).trans hd.symm
      have z := Nat.sub_mod_eq_zero_of_mod_eq e
      rw [show m + 1 + k - m = k + 1 by omega, Nat.mod_eq_of_lt (by omega)] at z
      omega
    rw [show m + 1 + (k + 1) = (m + 1 + k) + 1 by omega, List.range_succ, List.filter_append, ih (by omega) (by omega), List.filter_cons, if_neg hne]
    show _ ++ [] = _
    rw [List.append_nil]
theorem filt_none {w d m : Nat} (h : m ≤ d) (hd : d < w) : (List.range m).filter (fun i => i % w == d) = [] := by
  rw [List.filter_eq_nil_iff]
  intro i hi
  have := List.mem_range.mp hi
  rw [Nat.mod_eq_of_lt (by omega), beq_iff_eq]
  omega
theorem ends_mem {L h d k : Nat} : k ∈ ends L h d ↔ 1 ≤ k ∧ k < L ∧ (k - 1) % h = d := by
  unfold ends
  rw [List.mem_map]
  constructor
  · rintro ⟨i, hi, rfl⟩
    obtain ⟨h1, h2⟩ := List.mem_filter.mp hi
    have := List.mem_range.mp h1
    exact ⟨by omega, by omega, by simpa using h2⟩
  · rintro ⟨h1, h2, h3⟩
    exact ⟨k - 1, List.mem_filter.mpr ⟨List.mem_range.mpr (by omega), by simpa using h3⟩, by omega⟩
theorem ends_ne {L h d : Nat} (h1 : d < h) (h2 : h < L) : ends L h d ≠ [] := fun e => by
  have : d + 1 ∈ ends L h d := ends_mem.mpr ⟨by omega, by omega, by rw [Nat.add_sub_cancel, Nat.mod_eq_of_lt h1]⟩
  rw [e] at this
  cases this
theorem nodup_filter {α : Type} {p : α → Bool} {l : List α} (h : l.Nodup) : (l.filter p).Nodup := List.filter_sublist.nodup h
theorem nodup_map {α β : Type} {f : α → β} (hf : ∀ x y, f x = f y → x = y) {l : List α} (h : l.Nodup) : (l.map f).Nodup :=
  List.Pairwise.map f (fun _ _ n e => n (hf _ _ e)) h
theorem ends_nodup (L h d : Nat) : (ends L h d).Nodup := nodup_map (fun _ _ e => by omega) (nodup_filter List.nodup_range)
/-- the ends of all hands ahead of n -/
def allEnds (L h : Nat) : Nat → List Nat
  | 0 => []
  | n + 1 => allEnds L h n ++ ends L h n
theorem allEnds_mem {L h : Nat} : ∀ {n k : Nat}, k ∈ allEnds L h n ↔ 1 ≤ k ∧ k < L ∧ (k - 1) % h < n
  | 0, k => ⟨fun h => (by cases h), fun h => by omega⟩
  | n + 1, k => by
    show k ∈ allEnds L h n ++ ends L h n ↔ _
    rw [List.mem_append, allEnds_mem, ends_mem]
    omega
theorem allEnds_nodup (L h : Nat) : ∀ n, (allEnds L h n).Nodup
  | 0 => List.nodup_nil
  | n + 1 => List.nodup_append.mpr ⟨allEnds_nodup L h n, ends_nodup L h n, fun a ha b hb e => by
      have h1 := (allEnds_mem.mp ha).2.2
      have h2 := (ends_mem.mp hb).2.2
      rw [← e] at h2
      omega⟩
theorem allEnds_len (L h n : Nat) : (allEnds L h n).length ≤ L - 1 := by
  have h1 := List.Nodup.length_le_of_subset (allEnds_nodup L h n) (l₂ := (List.range (L - 1)).map (· + 1)) fun k hk => by
    have := allEnds_mem.mp hk
    exact List.mem_map.mpr ⟨k - 1, List.mem_range.mpr (by omega), by omega⟩
  rw [List.length_map, List.length_range] at h1
  exact h1
theorem allEnds_perm {L h : Nat} (h0 : 0 < h) : (allEnds L h h).Perm ((List.range (L - 1)).map (· + 1)) := by
  refine (List.perm_ext_iff_of_nodup (allEnds_nodup L h h) (nodup_map (fun _ _ e => by omega) List.nodup_range)).mpr fun k => ?_
  rw [allEnds_mem, List.mem_map]
  constructor
  · rintro ⟨h1, h2, _⟩
    exact ⟨k - 1, List.mem_range.mpr (by omega), by omega⟩
  · rintro ⟨i, hi, rfl⟩
    have := List.mem_range.mp hi
    exact ⟨by omega, by omega, Nat.mod_lt _ h0⟩
theorem chars_txt (ds : List Nat) : chars (txt ds) = ds.map fun d => txt [d] := by
  show (List.map _ (txt ds).cps.toList) = _
  rw [txt_tl, List.map_map]; rfl
theorem letters_from_b (L : Nat) (h : L ≤ 26) (h1 : 1 ≤ L) : Txt.slice LET (some 1) (some (L : Int)) = txt ((List.range (L - 1)).map (· + 1)) := by
  rw [let_S]
  have e := slice_txt (ds := List.range 26) (i := 1) (j := L) h1 (by rw [List.length_range]; exact h)
  refine e.trans (congrArg txt ?_)
  apply List.ext_getElem?
  intro k
  rw [List.getElem?_map, List.getElem?_take, List.getElem?_drop]
  by_cases hk : k < L - 1
  · rw [if_pos hk, List.getElem?_range (show 1 + k < 26 by omega), List.getElem?_range hk]
    show some (1 + k) = some (k + 1)
    rw [Nat.add_comm]
  · rw [if_neg hk, List.getElem?_eq_none (l := List.range (L - 1)) (by rw [List.length_range]; omega)]
    rfl
theorem singles_pw {ds : List Nat} (h : ds.Pairwise (· < ·)) : (ds.map fun d => txt [d]).Pairwise fun a b => a.cps.toList ≤ b.cps.toList := by
  refine List.Pairwise.map _ (fun a b hab => ?_) h
  show [97 + a] ≤ [97 + b]
  exact List.le_of_lt (List.Lex.rel (by omega))
/-! ### marks as texts -/
/-- a sign is one of the first L letters -/
def isLet (L c : Nat) : Bool := decide (97 ≤ c) && decide (c < 97 + L)
/-- a text is a mark -/
def isMk (L : Nat) (l : List Nat) : Bool := !l.isEmpty && (!(l.getLast? == some 97) && l.all (isLet L))
theorem let_take {L : Nat} (h : L ≤ 26) : Txt.slice LET none (some (L : Int)) = txt (List.range L) := by
  rw [let_S]
  unfold txt
  rw [slice_to (by omega), Int.toNat_natCast, ← List.map_take, List.take_range]
  rw [show min L 26 = L by omega]
theorem mem_take {L c : Nat} : decide (c ∈ (txt (List.range L)).cps.toList) = isLet L c := by
  rw [txt_tl, Bool.eq_iff_iff, decide_eq_true_iff, isLet, Bool.and_eq_true, decide_eq_true_iff, decide_eq_true_iff, List.mem_map]
  constructor
  · rintro ⟨d, hd, rfl⟩
    have := List.mem_range.mp hd
    omega
  · rintro ⟨h1, h2⟩
    exact ⟨c - 97, List.mem_range.mpr (by omega), by omega⟩
theorem at_last {α : Type} {l : List α} (h : l ≠ []) : atI l (-1) = some (l.getLast h) := by
  have := atI_last l.dropLast (l.getLast h)
  rw [List.dropLast_concat_getLast] at this
  exact this
theorem at_len1 {α : Type} {l : List α} (h : l ≠ []) {j : Int} (e : j = (l.length : Int) - 1) : atI l j = some (l.getLast h) := by
  have hp : 0 < l.length := List.length_pos_iff.mpr h
  rw [e, show (l.length : Int) - 1 = ((l.length - 1 : Nat) : Int) by omega]
  refine atI_nat ?_
  rw [List.getLast_eq_getElem, List.getElem?_eq_getElem]
theorem S1_inj {c d : Nat} (h : (S [c] : Str) = S [d]) : c = d := by
  have := S_inj h
  simpa using this
theorem at_some {α : Type} {l : List α} {j : Int} (h0 : 0 ≤ j) (h1 : j < l.length) : ∃ c, atI l j = some c := by
  obtain ⟨n, rfl⟩ := Int.eq_ofNat_of_zero_le h0
  exact ⟨l[n]'(by omega), atI_nat (List.getElem?_eq_getElem (by omega))⟩
/-! ### figures, wholes, marks -/
/-- figures, first the lightest -/
def low (L n : Nat) : Nat → List Nat
  | 0 => []
  | k + 1 => low L n k ++ [n / L ^ k % L]
def digs (L n k : Nat) : List Nat := (low L n k).reverse
def trim (ds : List Nat) : List Nat := (ds.reverse.dropWhile (· == 0)).reverse
def markOf (L n k : Nat) : List Nat := trim (digs L n k)
def whole (L : Nat) (ds : List Nat) : Nat → Nat
  | 0 => 0
  | k + 1 => whole L ds k * L + ds.getD k 0
theorem low_len (L n : Nat) : ∀ k, (low L n k).length = k
  | 0 => rfl
  | k + 1 => by show (low L n k ++ _).length = _; rw [List.length_append, low_len L n k]; rfl
theorem low_cons (L n : Nat) : ∀ k, low L n (k + 1) = n % L :: low L (n / L) k
  | 0 => by show [] ++ [n / L ^ 0 % L] = _; rw [Nat.pow_zero, Nat.div_one]; rfl
  | k + 1 => by
    show low L n (k + 1) ++ [n / L ^ (k + 1) % L] = _
    rw [low_cons L n k, Nat.pow_succ, Nat.mul_comm, ← Nat.div_div_eq_div_mul]; rfl
theorem digs_len (L n k : Nat) : (digs L n k).length = k := by unfold digs; rw [List.length_reverse, low_len]
theorem digs_succ (L n k : Nat) : digs L n (k + 1) = digs L (n / L) k ++ [n % L] := by unfold digs; rw [low_cons, List.reverse_cons]
theorem low_lt {L n : Nat} (hL : 0 < L) : ∀ k, ∀ d ∈ low L n k, d < L
  | 0, d, h => nomatch h
  | k + 1, d, h => by
    rcases List.mem_append.mp h with h | h
    · exact low_lt hL k d h
    · rw [List.mem_singleton.mp h]; exact Nat.mod_lt _ hL
theorem digs_lt {L n k : Nat} (hL : 0 < L) : ∀ d ∈ digs L n k, d < L := fun d h => low_lt hL k d (List.mem_reverse.mp h)
theorem trim_snoc0 (ds : List Nat) : trim (ds ++ [0]) = trim ds := by unfold trim; rw [List.reverse_append]; rfl
theorem trim_last {ds : List Nat} (h : ∀ hn : ds ≠ [], ds.getLast hn ≠ 0) : trim ds = ds := by
  rcases List.eq_nil_or_concat ds with rfl | ⟨as, d, rfl⟩
  · rfl
  · have hd : d ≠ 0 := by simpa using h (by simp)
    unfold trim
    rw [List.concat_eq_append, List.reverse_append, List.reverse_singleton, List.singleton_append, List.dropWhile_cons, if_neg (by simpa using hd), List.reverse_cons, List.reverse_reverse]
theorem trim_rep (ds : List Nat) : ∀ m, trim (ds ++ List.replicate m 0) = trim ds
  | 0 => by rw [List.replicate_zero, List.append_nil]
  | m + 1 => by rw [List.replicate_succ', ← List.append_assoc, trim_snoc0, trim_rep ds m]
theorem trim_spec (ds : List Nat) : ∃ m, ds = trim ds ++ List.replicate m 0 := by
  suffices ∀ k (ds : List Nat), ds.length = k → ∃ m, ds = trim ds ++ List.replicate m 0 from this _ ds rfl
  intro k
  induction k with
  | zero => intro ds h; rw [List.length_eq_zero_iff.mp h]; exact ⟨0, rfl⟩
  | succ k ih =>
    intro ds h
    rcases List.eq_nil_or_concat ds with rfl | ⟨as, d, rfl⟩
    · exact ⟨0, rfl⟩
    · rw [List.concat_eq_append] at h ⊢
      by_cases hd : d = 0
      · subst hd
        obtain ⟨m, e⟩ := ih as (by simpa using h)
        refine ⟨m + 1, ?_⟩
        rw [trim_snoc0, List.replicate_succ', ← List.append_assoc, ← e]
      · refine ⟨0, ?_⟩
        rw [trim_last (fun _ => by simpa using hd), List.replicate_zero, List.append_nil]
theorem trim_ok (ds : List Nat) (h : trim ds ≠ []) : (trim ds).getLast h ≠ 0 := by
  intro e
  unfold trim at h e
  rw [List.getLast_reverse] at e
  have := List.head_dropWhile_not (fun x : Nat => x == 0) (l := ds.reverse) (by simpa using h)
  rw [e] at this
  simp at this
theorem trim_sub (ds : List Nat) : ∀ d ∈ trim ds, d ∈ ds := fun d h => by
  obtain ⟨m, e⟩ := trim_spec ds
  rw [e]; exact List.mem_append_left _ h
theorem trim_len (ds : List Nat) : (trim ds).length ≤ ds.length := by
  obtain ⟨m, e⟩ := trim_spec ds
  have := congrArg List.length e
  rw [List.length_append] at this
  omega
theorem getD_rep (ds : List Nat) (m j : Nat) : (ds ++ List.replicate m 0).getD j 0 = ds.getD j 0 := by
  rw [List.getD_eq_getElem?_getD, List.getD_eq_getElem?_getD, List.getElem?_append]
  by_cases h : j < ds.length
  · rw [if_pos h]
  · rw [if_neg h, List.getElem?_eq_none (l := ds) (by omega), List.getElem?_replicate]
    split <;> rfl
theorem trim_getD (ds : List Nat) (j : Nat) : (trim ds).getD j 0 = ds.getD j 0 := by
  obtain ⟨m, e⟩ := trim_spec ds
  conv => rhs; rw [e]
  rw [getD_rep]
theorem whole_congr {L : Nat} {a b : List Nat} : ∀ {k}, (∀ j, j < k → a.getD j 0 = b.getD j 0) → whole L a k = whole L b k
  | 0, _ => rfl
  | k + 1, h => by
    show whole L a k * L + a.getD k 0 = whole L b k * L + b.getD k 0
    rw [whole_congr fun j hj => h j (by omega), h k (by omega)]
theorem whole_trim (L : Nat) (ds : List Nat) (k : Nat) : whole L (trim ds) k = whole L ds k := whole_congr fun j _ => trim_getD ds j
theorem whole_nil (L : Nat) : ∀ k, whole L [] k = 0
  | 0 => rfl
  | k + 1 => by show whole L [] k * L + 0 = 0; rw [whole_nil L k, Nat.zero_mul]
theorem whole_cons (L d : Nat) (ds : List Nat) : ∀ k, whole L (d :: ds) (k + 1) = d * L ^ k + whole L ds k
  | 0 => by show 0 * L + d = d * L ^ 0 + 0; rw [Nat.zero_mul, Nat.pow_zero, Nat.mul_one, Nat.zero_add, Nat.add_zero]
  | k + 1 => by
    show whole L (d :: ds) (k + 1) * L + (d :: ds).getD (k + 1) 0 = d * L ^ (k + 1) + (whole L ds k * L + ds.getD k 0)
    rw [whole_cons L d ds k, Nat.add_mul, Nat.pow_succ, Nat.mul_assoc, Nat.add_assoc]; rfl
theorem getD_lt {L : Nat} (hL : 0 < L) {ds : List Nat} (h : ∀ d ∈ ds, d < L) (j : Nat) : ds.getD j 0 < L := by
  rw [List.getD_eq_getElem?_getD]
  cases e : ds[j]? with
  | none => exact hL
  | some d => exact h d (List.mem_of_getElem? e)
theorem whole_lt {L : Nat} (hL : 0 < L) {ds : List Nat} (h : ∀ d ∈ ds, d < L) : ∀ k, whole L ds k < L ^ k
  | 0 => by show 0 < L ^ 0; rw [Nat.pow_zero]; decide
  | k + 1 => by
    show whole L ds k * L + ds.getD k 0 < L ^ (k + 1)
    have h1 := whole_lt hL h k
    have h2 := getD_lt hL h k
    rw [Nat.pow_succ]
    have := Nat.mul_le_mul_right L (show whole L ds k + 1 ≤ L ^ k from h1)
    rw [Nat.add_mul, Nat.one_mul] at this
    omega
theorem whole_digs {L : Nat} : ∀ (k n : Nat), whole L (digs L n k) k = n % L ^ k
  | 0, n => by rw [Nat.pow_zero, Nat.mod_one]; rfl
  | k + 1, n => by
    show whole L (digs L n (k + 1)) k * L + (digs L n (k + 1)).getD k 0 = _
    have e1 : (digs L n (k + 1)).getD k 0 = n % L := by
      rw [digs_succ, List.getD_eq_getElem?_getD, List.getElem?_append_right (by rw [digs_len]; exact Nat.le_refl _), digs_len, Nat.sub_self]; rfl
    have e2 : whole L (digs L n (k + 1)) k = whole L (digs L (n / L) k) k := whole_congr fun j hj => by
      rw [digs_succ, List.getD_eq_getElem?_getD, List.getD_eq_getElem?_getD, List.getElem?_append_left (by rw [digs_len]; exact hj)]
    rw [e1, e2, whole_digs k (n / L), Nat.pow_succ, Nat.mul_comm (L ^ k) L, Nat.mod_mul, Nat.mul_comm, Nat.add_comm]
theorem whole_mark {L n k : Nat} (h : n < L ^ k) : whole L (markOf L n k) k = n := by
  unfold markOf
  rw [whole_trim, whole_digs, Nat.mod_eq_of_lt h]
/-- the first k figures, none missing -/
def cut (ds : List Nat) (k : Nat) : List Nat := ds.take k ++ List.replicate (k - ds.length) 0
theorem digs_whole {L : Nat} (hL : 0 < L) {ds : List Nat} (h : ∀ d ∈ ds, d < L) : ∀ k, digs L (whole L ds k) k = (List.range k).map fun j => ds.getD j 0
  | 0 => rfl
  | k + 1 => by
    have h2 := getD_lt hL h k
    rw [digs_succ]
    show digs L ((whole L ds k * L + ds.getD k 0) / L) k ++ [(whole L ds k * L + ds.getD k 0) % L] = _
    rw [Nat.mul_comm, Nat.mul_add_div hL, Nat.div_eq_of_lt h2, Nat.add_zero, Nat.mul_add_mod, Nat.mod_eq_of_lt h2, digs_whole hL h k, List.range_succ, List.map_append]; rfl
theorem range_getD {ds : List Nat} {k : Nat} (h : ds.length ≤ k) : ((List.range k).map fun j => ds.getD j 0) = ds ++ List.replicate (k - ds.length) 0 := by
  apply List.ext_getElem?
  intro i
  rw [List.getElem?_map, List.getElem?_append]
  by_cases hi : i < k
  · rw [List.getElem?_range hi]
    show some (ds.getD i 0) = _
    rw [List.getD_eq_getElem?_getD]
    by_cases h2 : i < ds.length
    · rw [if_pos h2, List.getElem?_eq_getElem h2]; rfl
    · rw [if_neg h2, List.getElem?_eq_none (l := ds) (by omega), List.getElem?_replicate, if_pos (by omega)]; rfl
  · rw [List.getElem?_eq_none (l := List.range k) (by rw [List.length_range]; omega), if_neg (by omega), List.getElem?_replicate, if_neg (by omega)]; rfl
/-- a mark or the empty text: the last figure is not 0, all are below L -/
structure Mk0 (L : Nat) (ds : List Nat) : Prop where
  lt : ∀ d ∈ ds, d < L
  last : ∀ h : ds ≠ [], ds.getLast h ≠ 0
theorem mk0_trim {L : Nat} {ds : List Nat} (h : ∀ d ∈ ds, d < L) : Mk0 L (trim ds) := ⟨fun d hd => h d (trim_sub ds d hd), fun z => trim_ok ds z⟩
theorem mk0_markOf {L n k : Nat} (hL : 0 < L) : Mk0 L (markOf L n k) := mk0_trim (digs_lt hL)
theorem markOf_len (L n k : Nat) : (markOf L n k).length ≤ k := Nat.le_trans (trim_len _) (Nat.le_of_eq (digs_len L n k))
theorem mark_whole {L : Nat} (hL : 0 < L) {ds : List Nat} (m : Mk0 L ds) {k : Nat} (h : ds.length ≤ k) : markOf L (whole L ds k) k = ds := by
  unfold markOf
  rw [digs_whole hL m.lt, range_getD h, trim_rep, trim_last m.last]
theorem Mk0.tail {L d : Nat} {ds : List Nat} (m : Mk0 L (d :: ds)) : Mk0 L ds := ⟨fun x hx => m.lt x (List.mem_cons_of_mem _ hx), fun h => by
  have := m.last (List.cons_ne_nil _ _)
  rwa [List.getLast_cons h] at this⟩
theorem whole_pos {L : Nat} (hL : 0 < L) : ∀ {ds : List Nat} {k : Nat}, Mk0 L ds → ds ≠ [] → ds.length ≤ k → 0 < whole L ds k
  | [], _, _, h, _ => absurd rfl h
  | d :: ds, 0, _, _, h => by cases h
  | d :: ds, k + 1, m, _, h => by
    rw [whole_cons]
    by_cases hn : ds = []
    · subst hn
      have hd : d ≠ 0 := by simpa using m.last (by simp)
      have := Nat.mul_pos (Nat.pos_of_ne_zero hd) (Nat.pow_pos (n := k) hL)
      omega
    · have := whole_pos hL m.tail hn (by simpa using h)
      omega
theorem ltG_whole {L : Nat} (hL : 0 < L) : ∀ {a b : List Nat} {k : Nat}, (∀ d ∈ a, d < L) → Mk0 L b → b.length ≤ k → (a < b ↔ whole L a k < whole L b k)
  | [], [], k, _, _, _ => by simp
  | [], e :: b, k, _, mb, hb => by
    have := whole_pos hL mb (by simp) hb
    rw [whole_nil]
    exact ⟨fun _ => this, fun _ => List.nil_lt_cons _ _⟩
  | d :: a, [], k, _, _, _ => by
    rw [whole_nil]
    exact ⟨fun h => absurd h (List.not_lt_nil _), fun h => by omega⟩
  | d :: a, e :: b, 0, _, _, h => by cases h
  | d :: a, e :: b, k + 1, ma, mb, hb => by
    have ma' : ∀ d ∈ a, d < L := fun x hx => ma x (List.mem_cons_of_mem _ hx)
    have ih := ltG_whole hL ma' mb.tail (k := k) (by simpa using hb)
    have h1 := whole_lt hL ma' k
    have h2 := whole_lt hL mb.tail.lt k
    rw [whole_cons, whole_cons, List.cons_lt_cons_iff]
    rcases Nat.lt_trichotomy d e with h | h | h
    · have z : (d + 1) * L ^ k ≤ e * L ^ k := Nat.mul_le_mul_right _ h
      rw [Nat.add_mul, Nat.one_mul] at z
      exact ⟨fun _ => by omega, fun _ => .inl h⟩
    · subst h
      exact ⟨fun z => by
        rcases z with z | ⟨_, z⟩
        · omega
        · have := ih.mp z; omega, fun z => .inr ⟨rfl, ih.mpr (by omega)⟩⟩
    · have z : (e + 1) * L ^ k ≤ d * L ^ k := Nat.mul_le_mul_right _ h
      rw [Nat.add_mul, Nat.one_mul] at z
      exact ⟨fun z2 => by
        rcases z2 with z2 | ⟨z2, _⟩ <;> omega, fun z2 => by omega⟩
theorem lt_whole {L : Nat} (hL : 0 < L) {a b : List Nat} {k : Nat} (ma : Mk0 L a) (mb : Mk0 L b) (ha : a.length ≤ k) (hb : b.length ≤ k) : (a < b ↔ whole L a k < whole L b k) := ltG_whole hL ma.lt mb hb
/-- a longer than k: behind a comes what is of at most k figures -/
theorem ltL_whole {L : Nat} (hL : 0 < L) {a b : List Nat} {k : Nat} (ma : Mk0 L a) (mb : Mk0 L b) (ha : a.length ≤ k) (hb : k < b.length) : (a < b ↔ whole L a k ≤ whole L b k) := by
  have h := ltG_whole hL mb.lt ma ha
  constructor
  · intro z
    refine Nat.not_lt.mp fun z2 => ?_
    exact absurd (h.mpr z2) (List.lt_asymm z)
  · intro z
    have n : ¬ b < a := fun z2 => by have := h.mp z2; omega
    rcases List.le_iff_lt_or_eq.mp (List.not_lt.mp n) with z2 | z2
    · exact z2
    · rw [z2] at ha; omega
theorem whole_inj {L : Nat} (hL : 0 < L) {a b : List Nat} {k : Nat} (ma : Mk0 L a) (mb : Mk0 L b) (ha : a.length ≤ k) (hb : b.length ≤ k) (h : whole L a k = whole L b k) : a = b := by
  rw [← mark_whole hL ma ha, ← mark_whole hL mb hb, h]
theorem map_lt {a b : List Nat} : a.map (97 + ·) < b.map (97 + ·) ↔ a < b := by
  induction a generalizing b with
  | nil => cases b with
    | nil => simp
    | cons e b => exact ⟨fun _ => List.nil_lt_cons _ _, fun _ => List.nil_lt_cons _ _⟩
  | cons d a ih => cases b with
    | nil => exact ⟨fun h => absurd h (List.not_lt_nil _), fun h => absurd h (List.not_lt_nil _)⟩
    | cons e b =>
      rw [List.map_cons, List.map_cons, List.cons_lt_cons_iff, List.cons_lt_cons_iff, ih]
      constructor
      · rintro (h | ⟨h, z⟩)
        · exact .inl (by omega)
        · exact .inr ⟨by omega, z⟩
      · rintro (h | ⟨h, z⟩)
        · exact .inl (by omega)
        · exact .inr ⟨by omega, z⟩
theorem txt_lt (a b : List Nat) : decide ((txt a).cps.toList < (txt b).cps.toList) = decide (a < b) := decide_eq_decide.mpr map_lt
theorem isMk_txt (L : Nat) (ds : List Nat) : isMk L (ds.map (97 + ·)) = (!ds.isEmpty && (!(ds.getLast? == some 0) && ds.all fun d => decide (d < L))) := by
  unfold isMk
  rw [List.isEmpty_map, List.getLast?_map, List.all_map]
  congr 2
  · cases ds.getLast? with
    | none => rfl
    | some d =>
      show (!(some (97 + d) == some 97)) = _
      congr 1
      rw [Bool.eq_iff_iff, beq_iff_eq, beq_iff_eq, Option.some_inj, Option.some_inj]
      omega
  · congr 1
    funext d
    show (decide (97 ≤ 97 + d) && decide (97 + d < 97 + L)) = decide (d < L)
    rw [decide_eq_true (by omega), Bool.true_and]
    exact decide_eq_decide.mpr (by omega)
theorem isMk_mk {L : Nat} {ds : List Nat} (m : Mk0 L ds) (h : ds ≠ []) : isMk L (ds.map (97 + ·)) = true := by
  rw [isMk_txt, List.getLast?_eq_some_getLast h]
  have h1 := m.last h
  have h2 : (ds.all fun d => decide (d < L)) = true := List.all_eq_true.mpr fun d hd => decide_eq_true (m.lt d hd)
  rw [h2]
  cases ds with
  | nil => exact absurd rfl h
  | cons d r =>
    have : (some ((d :: r).getLast h) == some 0) = false := by simpa using h1
    rw [this]; rfl
theorem takeWhile_map {p : Nat → Bool} {f : Nat → Nat} : ∀ l : List Nat, ((l.map f).takeWhile p).length = (l.takeWhile (fun x => p (f x))).length
  | [] => rfl
  | a :: l => by
    rw [List.map_cons, List.takeWhile_cons, List.takeWhile_cons]
    by_cases h : p (f a) = true
    · rw [if_pos h, if_pos h, List.length_cons, List.length_cons, takeWhile_map l]
    · rw [if_neg h, if_neg h]
theorem drop_take_len {p : Nat → Bool} (l : List Nat) : l.dropWhile p = l.drop (l.takeWhile p).length := by
  have e := List.takeWhile_append_dropWhile (p := p) (l := l)
  conv => rhs; arg 2; rw [← e]
  rw [List.drop_left]
theorem trim_take (ds : List Nat) : trim ds = ds.take (ds.length - (ds.reverse.takeWhile (· == 0)).length) := by
  unfold trim
  rw [drop_take_len, List.reverse_drop, List.reverse_reverse, List.length_reverse]
theorem strSub_tl (x : Str) (i j : Nat) : (Builtin.Str.strSub x i j).cps.toList = (x.cps.toList.drop i).take (j - i) := by
  show (x.cps.extract i j).toList = _
  simp [List.extract_eq_take_drop]
theorem rstrip_txt (ds : List Nat) : Txt.rstripChars (txt ds) "a" = txt (trim ds) := by
  refine str_ext ?_
  show (Txt.stripBy _ false true (txt ds)).cps.toList = _
  rw [PyProof.Rows.stripBy_eq, strSub_tl]
  have hc : ∀ c, ("a" : Str).cps.contains c = (c == 97) := fun c => by
    show (#[97] : Array Nat).contains c = _
    rw [Bool.eq_iff_iff]
    simp
  have e : stripHi ("a" : Str).cps.contains true (txt ds) (stripLo ("a" : Str).cps.contains false (txt ds)) = ds.length - (ds.reverse.takeWhile (· == 0)).length := by
    show (txt ds).length - (((txt ds).cps.toList.drop 0).reverse.takeWhile ("a" : Str).cps.contains).length = _
    rw [txt_len, List.drop_zero, txt_tl, ← List.map_reverse, takeWhile_map]
    congr 3
    funext x
    rw [hc, Bool.eq_iff_iff, beq_iff_eq, beq_iff_eq]
    omega
  rw [e, trim_take, txt_tl, txt_tl, List.map_take]
  rfl
theorem sum_singles : ∀ ds : List Nat, ((ds.map fun d => txt [d]).map (·.length)).sum = ds.length
  | [] => rfl
  | d :: ds => by
    rw [List.map_cons, List.map_cons, List.sum_cons, sum_singles ds, txt_len]
    show 1 + ds.length = ds.length + 1
    omega
theorem join_txts {K : PySem.W.Frag} {H : Hp} {p : Addr} {ds : List Nat} {Q : VK} (hS : SqL K H p ((ds.map fun d => txt [d]).map V.str)) (hz : ds.length ≤ 1000000) (q : Q (.str (txt ds)) H) : rJoin K (.str "") [.ref p] H Q :=
  ⟨_, p, _, rfl, rfl, .inl hS, by rw [sum_singles, show (Str.length "") = 0 from rfl]; omega, by rw [join_txt]; exact q⟩
theorem whole_lt26 {L : Nat} (hL : L ≤ 26) {ds : List Nat} (h : ∀ d ∈ ds, d < 26) : ∀ k, whole L ds k < 26 ^ k
  | 0 => by show 0 < 26 ^ 0; decide
  | k + 1 => by
    show whole L ds k * L + ds.getD k 0 < 26 ^ (k + 1)
    have h1 := whole_lt26 hL h k
    have h2 := getD_lt (L := 26) (by decide) h k
    have h3 := Nat.mul_le_mul_left (whole L ds k) hL
    rw [Nat.pow_succ]
    omega
theorem pow26 {k : Nat} (hk : k ≤ 100000) {L : Nat} (hL : L ≤ 26) : L ^ k ≤ 2 ^ 500000 := by
  refine Nat.le_trans (Nat.pow_le_pow_left (show L ≤ 2 ^ 5 by omega) k) ?_
  rw [← Nat.pow_mul]
  exact Nat.pow_le_pow_right (by decide) (by omega)
theorem whole_mulW {L : Nat} (hL : L ≤ 26) {ds : List Nat} (h : ∀ d ∈ ds, d < 26) {k : Nat} (hk : k ≤ 100000) : CMulW (whole L ds k : Int) (L : Int) :=
  mulW 500000 64 (Nat.lt_of_lt_of_le (whole_lt26 hL h k) (pow26 hk (Nat.le_refl _))) (by rw [Int.natAbs_natCast]; omega)
theorem pow_mulW {L : Nat} (hL : L ≤ 26) {k : Nat} (hk : k ≤ 100000) : CMulW ((L ^ k : Nat) : Int) (L : Int) :=
  mulW 500001 64 (Nat.lt_of_le_of_lt (pow26 hk hL) (Nat.pow_lt_pow_right (by decide) (by decide))) (by rw [Int.natAbs_natCast]; omega)
theorem idx_let : ∀ d, d < 26 → Txt.index0 ("abcdefghijklmnopqrstuvwxyz" : Str) ⟨#[97 + d]⟩ = some d := by decide +kernel
theorem txt_at {ds : List Nat} {j : Nat} (h : j < ds.length) : atI (txt ds).cps.toList (j : Int) = some (97 + ds.getD j 0) := by
  refine atI_nat ?_
  rw [txt_tl, List.getElem?_map, List.getElem?_eq_getElem h, List.getD_eq_getElem?_getD, List.getElem?_eq_getElem h]
  rfl
/-- the least long whose wholes pass m -/
structure Long (L m k : Nat) : Prop where
  gt : m < L ^ k
  le : ∀ j, j < k → L ^ j ≤ m
theorem Long.uniq {L m a b : Nat} (x : Long L m a) (y : Long L m b) : a = b := by
  rcases Nat.lt_trichotomy a b with h | h | h
  · have := y.le a h; have := x.gt; omega
  · exact h
  · have := x.le b h; have := y.gt; omega
theorem Long.le_m {L m k : Nat} (x : Long L m k) (hL : 2 ≤ L) : k ≤ m := by
  cases k with
  | zero => exact Nat.zero_le _
  | succ k =>
    have h1 := x.le k (by omega)
    have h2 : k < 2 ^ k := Nat.lt_two_pow_self
    have h3 := Nat.pow_le_pow_left hL k
    omega
/-- the i-th number of a renewal -/
def renN (L m k i : Nat) : Nat := (i + 1) * L ^ k / (m + 1)
def rens (L m k : Nat) : List (List Nat) := (List.range m).map fun i => markOf L (renN L m k i) k
theorem renN_lt {L m k i : Nat} (x : Long L m k) (hi : i < m) : 0 < renN L m k i ∧ renN L m k i < L ^ k := by
  unfold renN
  have h := x.gt
  constructor
  · refine Nat.div_pos ?_ (by omega)
    calc m + 1 ≤ L ^ k := h
      _ = 1 * L ^ k := (Nat.one_mul _).symm
      _ ≤ (i + 1) * L ^ k := Nat.mul_le_mul_right _ (by omega)
  · refine (Nat.div_lt_iff_lt_mul (by omega)).mpr ?_
    rw [Nat.mul_comm (L ^ k)]
    exact Nat.mul_lt_mul_of_pos_right (by omega) (by omega)
theorem renN_mono {L m k i j : Nat} (h : i ≤ j) : renN L m k i ≤ renN L m k j := Nat.div_le_div_right (Nat.mul_le_mul_right _ (by omega))
theorem mark_le {L a b k : Nat} (hL : 0 < L) (ha : a < L ^ k) (hb : b < L ^ k) (h : a ≤ b) : (txt (markOf L a k)).cps.toList ≤ (txt (markOf L b k)).cps.toList := by
  refine List.not_lt.mp fun z => ?_
  have z1 := map_lt.mp z
  have z2 := (lt_whole hL (mk0_markOf (n := b) (k := k) hL) (mk0_markOf (n := a) (k := k) hL) (markOf_len _ _ _) (markOf_len _ _ _)).mp z1
  rw [whole_mark ha, whole_mark hb] at z2
  omega
theorem rens_pw {L m k : Nat} (hL : 0 < L) (x : Long L m k) : ((rens L m k).map txt).Pairwise fun a b => a.cps.toList ≤ b.cps.toList := by
  unfold rens
  rw [List.map_map]
  refine List.pairwise_map.mpr ?_
  refine List.Pairwise.imp_of_mem (R := (· < ·)) (fun {a b} ha hb hab => ?_) List.pairwise_lt_range
  exact mark_le hL (renN_lt x (List.mem_range.mp ha)).2 (renN_lt x (List.mem_range.mp hb)).2 (renN_mono (Nat.le_of_lt hab))
theorem mark_ne {L n k : Nat} (h0 : 0 < n) (h : n < L ^ k) : markOf L n k ≠ [] := fun e => by
  have := whole_mark h
  rw [e, whole_nil] at this
  omega
theorem rens_V (L m k : Nat) : ((List.range m).map fun i => V.str (txt (markOf L (renN L m k i) k))) = ((rens L m k).map txt).map V.str := by
  unfold rens
  rw [List.map_map, List.map_map]
  rfl
theorem rens_ok {L m k : Nat} (hL : 0 < L) (hL2 : L ≤ 26) : ∀ y ∈ (rens L m k).map txt, PyData.strOk y = true := fun y hy => by
  obtain ⟨ds, hds, rfl⟩ := List.mem_map.mp hy
  obtain ⟨i, _, rfl⟩ := List.mem_map.mp hds
  exact strOk_txt fun d hd => by
    have := (mk0_markOf (L := L) (n := renN L m k i) (k := k) hL).lt d hd
    omega
theorem rens_len (L m k : Nat) : (rens L m k).length = m := by unfold rens; rw [List.length_map, List.length_range]
theorem neD_same {K : PySem.W.Frag} {H : Hp} {p q : Addr} {xs : List Str} {Q : VK} (hp : H p = some (.lst (xs.map V.str))) (hq : H q = some (.lst (xs.map V.str))) (hok : ∀ y ∈ xs, PyData.strOk y = true) (h : Q (.bl false) H) : rNeD K (.ref p) (.ref q) H Q :=
  ⟨_, _, .lst (.inl (.inl hp)) (dpAll_strs _), .lst (.inl (.inl hq)) (dpAll_strs _), (sh_strs hok).shaped, (sh_strs hok).shaped, by rw [eqv_strs, decide_eq_true rfl]; exact h⟩
theorem eqD_same {K : PySem.W.Frag} {H : Hp} {p q : Addr} {xs : List Str} {Q : VK} (hp : H p = some (.lst (xs.map V.str))) (hq : H q = some (.lst (xs.map V.str))) (hok : ∀ y ∈ xs, PyData.strOk y = true) (h : Q (.bl true) H) : rEqD K (.ref p) (.ref q) H Q :=
  ⟨_, _, .lst (.inl (.inl hp)) (dpAll_strs _), .lst (.inl (.inl hq)) (dpAll_strs _), (sh_strs hok).shaped, (sh_strs hok).shaped, by rw [eqv_strs, decide_eq_true rfl]; exact h⟩
/-- a whole number from lo to hi -/
def NatIn (lo hi : Nat) (v : V) : Prop := ∃ n : Nat, v = .int n ∧ lo ≤ n ∧ n ≤ hi
theorem natIn {lo hi : Nat} {x : Int} (h0 : (lo : Int) ≤ x) (h1 : x ≤ hi) : NatIn lo hi (.int x) := ⟨x.toNat, by congr 1; omega, by omega, by omega⟩
/-! ### numbers by their last figure -/
def cnt (F : List Nat) (r : Nat) : Nat := (F.filter fun f => decide (f < r)).length
def below (L : Nat) (F : List Nat) (n : Nat) : Nat := n / L * F.length + cnt F (n % L)
def nth (L : Nat) (F : List Nat) (m : Nat) : Nat := m / F.length * L + F.getD (m % F.length) 0
/-- figures of a hand: rising, below L, some -/
structure Figs (L : Nat) (F : List Nat) : Prop where
  lt : ∀ f ∈ F, f < L
  up : F.Pairwise (· < ·)
  ne : F ≠ []
theorem cnt_le (F : List Nat) (r : Nat) : cnt F r ≤ F.length := List.length_filter_le _ _
theorem cnt_all {L : Nat} {F : List Nat} (h : ∀ f ∈ F, f < L) : cnt F L = F.length := by
  unfold cnt
  rw [List.filter_eq_self.mpr fun f hf => decide_eq_true (h f hf)]
theorem cnt_succ {r : Nat} : ∀ {F : List Nat}, F.Pairwise (· < ·) → cnt F (r + 1) = cnt F r + if r ∈ F then 1 else 0
  | [], _ => rfl
  | f :: F, h => by
    have h2 := List.pairwise_cons.mp h
    have ih := cnt_succ (r := r) h2.2
    unfold cnt at ih ⊢
    rw [List.filter_cons, List.filter_cons]
    by_cases e : r = f
    · subst e
      have n : r ∉ F := fun z => by have := h2.1 r z; omega
      rw [if_neg n] at ih
      rw [if_pos (decide_eq_true (by omega)), if_neg (by simp), if_pos List.mem_cons_self, List.length_cons, ih]
    · have e2 : (r ∈ f :: F) = (r ∈ F) := by simp [e]
      simp only [e2]
      by_cases l : f < r
      · rw [if_pos (decide_eq_true (by omega)), if_pos (decide_eq_true l), List.length_cons, List.length_cons, ih]
        omega
      · rw [if_neg (by rw [decide_eq_false (by omega)]; decide), if_neg (by rw [decide_eq_false l]; decide), ih]
theorem getD_cnt {r : Nat} : ∀ {F : List Nat}, F.Pairwise (· < ·) → r ∈ F → cnt F r < F.length ∧ F.getD (cnt F r) 0 = r
  | [], _, h => nomatch h
  | f :: F, h, hr => by
    have h2 := List.pairwise_cons.mp h
    unfold cnt
    rw [List.filter_cons]
    by_cases e : r = f
    · subst e
      have z : F.filter (fun f => decide (f < r)) = [] := List.filter_eq_nil_iff.mpr fun f hf => by
        have := h2.1 f hf
        rw [decide_eq_true_iff]; omega
      rw [if_neg (by simp), z]
      exact ⟨by simp, rfl⟩
    · have hr2 : r ∈ F := by simpa [e] using hr
      have l := h2.1 r hr2
      have ih := getD_cnt h2.2 hr2
      unfold cnt at ih
      rw [if_pos (decide_eq_true l), List.length_cons, List.length_cons]
      exact ⟨by omega, ih.2⟩
theorem below_succ {L : Nat} {F : List Nat} (hF : Figs L F) (hL : 0 < L) (n : Nat) : below L F (n + 1) = below L F n + if n % L ∈ F then 1 else 0 := by
  unfold below
  have h1 := Nat.div_add_mod n L
  have h2 := Nat.mod_lt n hL
  by_cases e : n % L + 1 = L
  · have e1 : (n + 1) / L = n / L + 1 := by
      rw [show n + 1 = L * (n / L + 1) by rw [Nat.mul_add]; omega, Nat.mul_div_cancel_left _ hL]
    have e2 : (n + 1) % L = 0 := by
      rw [show n + 1 = L * (n / L + 1) by rw [Nat.mul_add]; omega, Nat.mul_mod_right]
    have e3 : cnt F 0 = 0 := by
      unfold cnt
      rw [List.filter_eq_nil_iff.mpr fun f _ => by simp]; rfl
    have e4 := cnt_succ (r := n % L) hF.up
    rw [e, cnt_all hF.lt] at e4
    rw [e1, e2, e3, Nat.add_mul, Nat.one_mul, Nat.add_zero, Nat.add_assoc, ← e4]
  · have e1 : (n + 1) / L = n / L := by
      rw [show n + 1 = (n % L + 1) + L * (n / L) by omega, Nat.add_mul_div_left _ _ hL, Nat.div_eq_of_lt (by omega), Nat.zero_add]
    have e2 : (n + 1) % L = n % L + 1 := by
      rw [show n + 1 = (n % L + 1) + L * (n / L) by omega, Nat.add_mul_mod_self_left, Nat.mod_eq_of_lt (by omega)]
    rw [e1, e2, cnt_succ hF.up, Nat.add_assoc]
theorem nth_below {L : Nat} {F : List Nat} (hF : Figs L F) {n : Nat} (h : n % L ∈ F) : nth L F (below L F n) = n := by
  obtain ⟨h1, h2⟩ := getD_cnt hF.up h
  have hp : 0 < F.length := List.length_pos_iff.mpr hF.ne
  unfold nth below
  rw [Nat.mul_comm (n / L), Nat.mul_add_div hp, Nat.div_eq_of_lt h1, Nat.add_zero, Nat.mul_add_mod, Nat.mod_eq_of_lt h1, h2, Nat.mul_comm]
  exact Nat.div_add_mod n L
theorem below_mono {L : Nat} {F : List Nat} (hF : Figs L F) (hL : 0 < L) {m n : Nat} (h : m ≤ n) : below L F m ≤ below L F n := by
  induction h with
  | refl => exact Nat.le_refl _
  | step h ih =>
    rw [below_succ hF hL]
    omega
/-- the numbers from lo to below n whose last figure is one of F -/
theorem nums_list {L : Nat} {F : List Nat} (hF : Figs L F) (hL : 0 < L) (lo : Nat) : ∀ n, (List.range n).filter (fun x => decide (x % L ∈ F) && decide (lo ≤ x)) = (List.range (below L F n - below L F lo)).map fun i => nth L F (below L F lo + i)
  | 0 => by
    have e : below L F 0 = 0 := by
      unfold below cnt
      rw [Nat.zero_div, Nat.zero_mul, Nat.zero_mod, List.filter_eq_nil_iff.mpr fun f _ => by simp]; rfl
    rw [e, Nat.zero_sub]; rfl
  | n + 1 => by
    rw [List.range_succ, List.filter_append, nums_list hF hL lo n, List.filter_cons, List.filter_nil]
    have hs := below_succ hF hL n
    by_cases h2 : lo ≤ n
    · have hm := below_mono hF hL h2
      by_cases h1 : n % L ∈ F
      · rw [if_pos h1] at hs
        rw [if_pos (by rw [decide_eq_true h1, decide_eq_true h2]; rfl), hs, show below L F n + 1 - below L F lo = (below L F n - below L F lo) + 1 by omega, List.range_succ, List.map_append]
        congr 1
        show [n] = [nth L F (below L F lo + (below L F n - below L F lo))]
        rw [show below L F lo + (below L F n - below L F lo) = below L F n by omega, nth_below hF h1]
      · rw [if_neg h1] at hs
        rw [if_neg (by rw [decide_eq_false h1]; simp), hs, List.append_nil]; rfl
    · have hm := below_mono hF hL (show n + 1 ≤ lo by omega)
      have hm2 := below_mono hF hL (show n ≤ lo by omega)
      rw [if_neg (by rw [decide_eq_false h2, Bool.and_false]; decide), List.append_nil, show below L F n - below L F lo = 0 by omega, show below L F (n + 1) - below L F lo = 0 by omega]
theorem figs_ends {L h d : Nat} (h1 : d < h) (h2 : h < L) : Figs L (ends L h d) := by
  refine ⟨fun f hf => (ends_mem.mp hf).2.1, ?_, ends_ne h1 h2⟩
  unfold ends
  exact List.Pairwise.map _ (fun _ _ h => by omega) (List.Pairwise.filter _ List.pairwise_lt_range)
/-! ### what lies between -/
def lowN (L : Nat) (lo : Option (List Nat)) (k : Nat) : Nat := match lo with | none => 1 | some a => whole L a k + 1
/-- one past the last -/
def pastN (L : Nat) (hi : Option (List Nat)) (k : Nat) : Nat := match hi with | none => L ^ k | some b => if b.length ≤ k then whole L b k else whole L b k + 1
def Betw (lo hi : Option (List Nat)) (x : List Nat) : Prop := (∀ a, lo = some a → a < x) ∧ ∀ b, hi = some b → x < b
/-- low, high: marks, low ahead of high -/
structure Ends2 (L : Nat) (lo hi : Option (List Nat)) : Prop where
  lo : ∀ a, lo = some a → Mk0 L a ∧ a ≠ []
  hi : ∀ b, hi = some b → Mk0 L b ∧ b ≠ []
theorem betw_iff {L k : Nat} {lo hi : Option (List Nat)} (hL : 0 < L) (e : Ends2 L lo hi) {x : List Nat} (m : Mk0 L x) (hx : x.length ≤ k) (h0 : x ≠ []) : Betw lo hi x ↔ lowN L lo k ≤ whole L x k ∧ whole L x k < pastN L hi k := by
  refine and_congr ?_ ?_
  · unfold lowN
    cases lo with
    | none => exact ⟨fun _ => whole_pos hL m h0 hx, fun _ a z => nomatch z⟩
    | some a =>
      have := ltG_whole hL (e.lo a rfl).1.lt m hx
      exact ⟨fun z => this.mp (z a rfl), fun z b hb => by cases hb; exact this.mpr z⟩
  · unfold pastN
    cases hi with
    | none => exact ⟨fun _ => whole_lt hL m.lt k, fun _ a z => nomatch z⟩
    | some b =>
      by_cases hb : b.length ≤ k
      · have := ltG_whole hL m.lt (e.hi b rfl).1 hb
        show _ ↔ _ < if b.length ≤ k then _ else _
        rw [if_pos hb]
        exact ⟨fun z => this.mp (z b rfl), fun z c hc => by cases hc; exact this.mpr z⟩
      · have := ltL_whole hL m (e.hi b rfl).1 hx (Nat.lt_of_not_le hb)
        show _ ↔ _ < if b.length ≤ k then _ else _
        rw [if_neg hb]
        exact ⟨fun z => Nat.lt_succ_of_le (this.mp (z b rfl)), fun z c hc => by cases hc; exact this.mpr (Nat.le_of_lt_succ z)⟩
theorem past_le {L k : Nat} {lo hi : Option (List Nat)} (hL : 0 < L) (e : Ends2 L lo hi) : pastN L hi k ≤ L ^ k := by
  unfold pastN
  cases hi with
  | none => exact Nat.le_refl _
  | some b =>
    have := whole_lt hL (e.hi b rfl).1.lt k
    show (if b.length ≤ k then _ else _) ≤ _
    split <;> omega
theorem low_pos (L : Nat) (lo : Option (List Nat)) (k : Nat) : 1 ≤ lowN L lo k := by
  unfold lowN
  cases lo <;> simp
theorem low_le {L k : Nat} {lo hi : Option (List Nat)} (hL : 0 < L) (e : Ends2 L lo hi) : lowN L lo k ≤ L ^ k := by
  unfold lowN
  cases lo with
  | none => exact Nat.pow_pos hL
  | some a => exact whole_lt hL (e.lo a rfl).1.lt k
abbrev natV (n : Nat) : V := .int n
theorem big_mulW {n : Nat} {j : Int} (h : n ≤ 2 ^ 500000) (hj : j.natAbs < 2 ^ 64) : CMulW (n : Int) j :=
  mulW 500001 64 (Nat.lt_of_le_of_lt h (Nat.pow_lt_pow_right (by decide) (by decide))) hj
/-- a text or None -/
def optV : Option (List Nat) → V
  | none => .non
  | some a => .str (txt a)
theorem below_le {L : Nat} {F : List Nat} (hF : Figs L F) (hL : 0 < L) : ∀ n, below L F n ≤ n
  | 0 => by
    unfold below cnt
    rw [Nat.zero_div, Nat.zero_mul, Nat.zero_mod, List.filter_eq_nil_iff.mpr fun f _ => by simp]
    exact Nat.le_refl _
  | n + 1 => by
    have := below_le hF hL n
    rw [below_succ hF hL]
    split <;> omega
theorem big_mulW2 {a b c : Nat} {j : Int} (ha : a ≤ 2 ^ 500000) (hb : b ≤ 2 ^ 500000) (hj : j.natAbs < 2 ^ 64) : CMulW (((a + b) / c : Nat) : Int) j := by
  refine mulW 500002 64 ?_ hj
  have h1 : (2 : Nat) ^ 500000 + 2 ^ 500000 = 2 ^ 500001 := by rw [← Nat.two_mul, ← Nat.pow_succ']
  have h2 : (2 : Nat) ^ 500001 < 2 ^ 500002 := Nat.pow_lt_pow_right (by decide) (by decide)
  have h3 := Nat.div_le_self (a + b) c
  rw [Int.natAbs_natCast]
  omega
theorem abcd_txt : ("abcd" : Str) = txt [0, 1, 2, 3] := by decide +kernel
theorem abcd_at {j : Int} (h0 : 0 ≤ j) (h : j < 4) : atI ("abcd" : Str).cps.toList j = some (97 + j.toNat) := by
  obtain ⟨n, rfl⟩ := Int.eq_ofNat_of_zero_le h0
  refine atI_nat ?_
  have hn : n < 4 := by omega
  match n, hn with
  | 0, _ => rfl
  | 1, _ => rfl
  | 2, _ => rfl
  | 3, _ => rfl
theorem abcd_idx : ∀ d, d < 4 → Txt.index0 ("abcd" : Str) ⟨#[97 + d]⟩ = some d := by decide +kernel
theorem all_snoc {L : Nat} {ds : List Nat} {x : Nat} (h : ∀ d ∈ ds, d < L) (hx : x < L) : ∀ d ∈ ds ++ [x], d < L := fun d hd => by
  rcases List.mem_append.mp hd with hd | hd
  · exact h d hd
  · rw [List.mem_singleton.mp hd]; exact hx
theorem mk0_snoc {L : Nat} {ds : List Nat} {x : Nat} (h : ∀ d ∈ ds, d < L) (hx : x < L) (h0 : x ≠ 0) : Mk0 L (ds ++ [x]) := ⟨all_snoc h hx, fun _ => by simpa using h0⟩
theorem mk0_app {L : Nat} {a b : List Nat} (h : ∀ d ∈ a, d < L) (hb : Mk0 L b) (h0 : b ≠ []) : Mk0 L (a ++ b) := ⟨fun d hd => by
  rcases List.mem_append.mp hd with hd | hd
  · exact h d hd
  · exact hb.lt d hd, fun _ => by rw [List.getLast_append_of_ne_nil _ h0]; exact hb.last h0⟩
theorem slice_txt_to {ds : List Nat} {j : Int} (h : 0 ≤ j) : Txt.slice (txt ds) none (some j) = txt (ds.take j.toNat) := by
  unfold txt
  rw [slice_to h, ← List.map_take]
theorem mul_a {n : Int} : Txt.mul ("a" : Str) n = txt (List.replicate n.toNat 0) := by
  refine str_ext ?_
  refine (mul_one_list 97 n).trans ?_
  rw [txt_tl, List.map_replicate]
/-- all texts of k letters, rising -/
def allT (L k : Nat) : List Str := (List.range (L ^ k)).map fun n => txt (digs L n k)
theorem digs_next {L n i k : Nat} (hi : i < L) : digs L (n * L + i) (k + 1) = digs L n k ++ [i] := by
  rw [digs_succ, Nat.mul_comm n L, Nat.mul_add_div (by omega), Nat.div_eq_of_lt hi, Nat.add_zero, Nat.mul_add_mod, Nat.mod_eq_of_lt hi]
theorem range_mul (L : Nat) : ∀ n, List.range (n * L) = (List.range n).flatMap fun a => (List.range L).map fun i => a * L + i
  | 0 => by rw [Nat.zero_mul]; rfl
  | n + 1 => by
    rw [List.range_succ, List.flatMap_append, ← range_mul L n, Nat.add_mul, Nat.one_mul, List.range_add]
    simp
/-- what is told of the first j texts, made longer by one letter -/
def moreT (L k j i : Nat) : List Str := (List.range (j * L + i)).map fun n => txt (digs L n (k + 1))
theorem moreT_succ {L k j i : Nat} (hi : i < L) : moreT L k j (i + 1) = moreT L k j i ++ [txt (digs L j k ++ [i])] := by
  unfold moreT
  rw [← Nat.add_assoc, List.range_succ, List.map_append, List.map_singleton, digs_next hi]
theorem moreT_turn (L k j : Nat) : moreT L k j L = moreT L k (j + 1) 0 := by
  unfold moreT
  rw [Nat.add_mul, Nat.one_mul]
  rfl
theorem moreT_end (L k : Nat) : moreT L k (L ^ k) 0 = allT L (k + 1) := by
  unfold moreT allT
  rw [Nat.pow_succ]
  rfl
theorem moreT_len (L k j i : Nat) : (moreT L k j i).length = j * L + i := by unfold moreT; rw [List.length_map, List.length_range]
theorem allT_len (L k : Nat) : (allT L k).length = L ^ k := by unfold allT; rw [List.length_map, List.length_range]
theorem allT_get {L k j : Nat} (h : j < L ^ k) : ((allT L k).map V.str).getD j .non = .str (txt (digs L j k)) := by
  unfold allT
  rw [List.getD_eq_getElem?_getD, List.getElem?_map, List.getElem?_map, List.getElem?_range h]; rfl
theorem digs_last {L n k : Nat} : (digs L n (k + 1)).getD k 0 = n % L := by
  rw [digs_succ, List.getD_eq_getElem?_getD, List.getElem?_append_right (by rw [digs_len]; exact Nat.le_refl _), digs_len, Nat.sub_self]; rfl
def lowB (lo : Option (List Nat)) (x : List Nat) : Bool := match lo with | none => true | some a => decide (a < x)
def highB (hi : Option (List Nat)) (x : List Nat) : Bool := match hi with | none => true | some b => decide (x < b)
theorem betwB_iff (lo hi : Option (List Nat)) (x : List Nat) : (lowB lo x && highB hi x) = true ↔ Betw lo hi x := by
  rw [Bool.and_eq_true]
  refine and_congr ?_ ?_
  · cases lo with
    | none => exact ⟨fun _ a z => (nomatch z), fun _ => rfl⟩
    | some a => exact ⟨fun z b hb => by cases hb; exact of_decide_eq_true z, fun z => decide_eq_true (z a rfl)⟩
  · cases hi with
    | none => exact ⟨fun _ a z => (nomatch z), fun _ => rfl⟩
    | some a => exact ⟨fun z b hb => by cases hb; exact of_decide_eq_true z, fun z => decide_eq_true (z a rfl)⟩
theorem filter_lt : ∀ {n m : Nat}, m ≤ n → (List.range n).filter (fun x => decide (x < m)) = List.range m
  | 0, m, h => by rw [Nat.le_zero.mp h]; rfl
  | n + 1, m, h => by
    by_cases e : m = n + 1
    · rw [e]
      exact List.filter_eq_self.mpr fun x hx => decide_eq_true (List.mem_range.mp hx)
    · rw [List.range_succ, List.filter_append, filter_lt (show m ≤ n by omega), List.filter_cons, if_neg (by simp; omega), List.filter_nil, List.append_nil]
theorem mk0_digs {L n k : Nat} (hL : 0 < L) (h0 : n % L ≠ 0) : Mk0 L (digs L n (k + 1)) := ⟨digs_lt hL, fun _ => by
  have : (digs L n (k + 1)).getLast? = some (n % L) := by rw [digs_succ, List.getLast?_concat]
  rw [List.getLast?_eq_some_getLast (by rw [digs_succ]; simp)] at this
  rw [Option.some.inj this]; exact h0⟩
theorem mark_digs {L n k : Nat} (hL : 0 < L) (h0 : n % L ≠ 0) : markOf L n (k + 1) = digs L n (k + 1) := trim_last (mk0_digs hL h0).last
/-- all texts of so many letters that end with a figure of F and lie between -/
theorem between_all {L k : Nat} {F : List Nat} {lo hi : Option (List Nat)} (hL : 0 < L) (hF : Figs L F) (hF0 : 0 ∉ F) (e : Ends2 L lo hi) :
    (List.range (L ^ (k + 1))).filter (fun n => decide (n % L ∈ F) && (lowB lo (digs L n (k + 1)) && highB hi (digs L n (k + 1)))) =
      (List.range (below L F (pastN L hi (k + 1)) - below L F (lowN L lo (k + 1)))).map fun i => nth L F (below L F (lowN L lo (k + 1)) + i) := by
  rw [← nums_list hF hL (lowN L lo (k + 1)) (pastN L hi (k + 1)), ← filter_lt (past_le (k := k + 1) hL e), List.filter_filter]
  refine List.filter_congr fun n hn => ?_
  have hn2 := List.mem_range.mp hn
  by_cases h1 : n % L ∈ F
  · have h0 : n % L ≠ 0 := fun z => hF0 (z ▸ h1)
    have b := betw_iff (k := k + 1) hL e (mk0_digs (k := k) hL h0) (Nat.le_of_eq (digs_len _ _ _)) (by rw [digs_succ]; simp)
    rw [whole_digs, Nat.mod_eq_of_lt hn2] at b
    rw [decide_eq_true h1, Bool.true_and, Bool.true_and, Bool.eq_iff_iff, betwB_iff, b, Bool.and_eq_true, decide_eq_true_iff, decide_eq_true_iff]
  · rw [decide_eq_false h1, Bool.false_and, Bool.false_and, Bool.false_and]
theorem nth_mod {L : Nat} {F : List Nat} (hF : Figs L F) (m : Nat) : nth L F m % L ∈ F := by
  have hp : 0 < F.length := List.length_pos_iff.mpr hF.ne
  have h2 : F.getD (m % F.length) 0 ∈ F := by
    rw [List.getD_eq_getElem?_getD, List.getElem?_eq_getElem (Nat.mod_lt _ hp)]
    exact List.getElem_mem _
  unfold nth
  rw [Nat.mul_comm, Nat.mul_add_mod, Nat.mod_eq_of_lt (hF.lt _ h2)]
  exact h2
theorem ends_0 (L h d : Nat) : 0 ∉ ends L h d := fun z => by have := (ends_mem.mp z).1; omega
theorem below_nth {L : Nat} {F : List Nat} (hF : Figs L F) (hL : 0 < L) (m : Nat) : below L F (nth L F m) = m := by
  have hp : 0 < F.length := List.length_pos_iff.mpr hF.ne
  have hj := Nat.mod_lt m hp
  have hg : F.getD (m % F.length) 0 = F[m % F.length] := by
    rw [List.getD_eq_getElem?_getD, List.getElem?_eq_getElem hj]; rfl
  have hlt : F[m % F.length] < L := hF.lt _ (List.getElem_mem hj)
  have hc : ∀ {F : List Nat} {j : Nat} (h : j < F.length), F.Pairwise (· < ·) → cnt F F[j] = j := by
    intro F
    induction F with
    | nil => intro j h; cases h
    | cons f F ih =>
      intro j h hu
      have h2 := List.pairwise_cons.mp hu
      unfold cnt
      rw [List.filter_cons]
      cases j with
      | zero =>
        rw [if_neg (by simp), List.getElem_cons_zero, List.filter_eq_nil_iff.mpr fun x hx => by
          have := h2.1 x hx
          rw [decide_eq_true_iff]; omega]
        rfl
      | succ j =>
        have hj2 : j < F.length := by simpa using h
        have l : f < F[j] := h2.1 _ (List.getElem_mem hj2)
        rw [List.getElem_cons_succ, if_pos (decide_eq_true l), List.length_cons]
        have := ih hj2 h2.2
        unfold cnt at this
        rw [this]
  unfold below nth
  rw [hg, Nat.mul_comm (m / F.length) L, Nat.mul_add_div hL, Nat.div_eq_of_lt hlt, Nat.add_zero, Nat.mul_add_mod, Nat.mod_eq_of_lt hlt, hc hj hF.up, Nat.mul_comm]
  exact Nat.div_add_mod m F.length
/-- as many as the numbers below n that end with f -/
theorem floor_one {L n f : Nat} (hf : f < L) : ((n : Int) - 1 - f) / (L : Int) + 1 = ((n / L + if f < n % L then 1 else 0 : Nat) : Int) := by
  have h1 := Nat.div_add_mod n L
  have h2 := Nat.mod_lt n (show 0 < L by omega)
  have e : (n : Int) - 1 - f = ((n % L : Nat) : Int) - 1 - f + (L : Int) * ((n / L : Nat) : Int) := by
    have : (n : Int) = (L : Int) * ((n / L : Nat) : Int) + ((n % L : Nat) : Int) := by exact_mod_cast h1.symm
    omega
  rw [e, Int.add_mul_ediv_left _ _ (show (L : Int) ≠ 0 by omega)]
  by_cases c : f < n % L
  · rw [if_pos c, Int.ediv_eq_zero_of_lt (by omega) (by omega)]
    omega
  · rw [if_neg c]
    have : (((n % L : Nat) : Int) - 1 - f) / (L : Int) = -1 := by
      rw [Int.ediv_eq_iff_of_pos (by omega)]
      omega
    rw [this]
    omega
def floorSum (L : Nat) (n : Int) : List Nat → Int
  | [] => 0
  | f :: F => ((n - 1 - f) / (L : Int) + 1) + floorSum L n F
theorem below_sum {L n : Nat} : ∀ {F : List Nat}, (∀ f ∈ F, f < L) → floorSum L n F = (below L F n : Nat)
  | [], _ => by unfold below cnt floorSum; simp
  | f :: F, h => by
    have ih := below_sum (n := n) fun x hx => h x (List.mem_cons_of_mem _ hx)
    show _ + floorSum L n F = _
    rw [ih, floor_one (h f List.mem_cons_self)]
    unfold below cnt
    rw [List.filter_cons, List.length_cons, Nat.mul_add, Nat.mul_one]
    by_cases c : f < n % L
    · rw [if_pos c, if_pos (decide_eq_true c), List.length_cons]; omega
    · rw [if_neg c, if_neg (by rw [decide_eq_false c]; decide)]; omega
/-- the hand's figures up to the i-th -/
def figG (L h d i : Nat) : List Nat := ((List.range (min (d + i * h) (L - 1))).filter fun x => x % h == d).map (· + 1)
theorem figG_0 {L h d : Nat} (hd : d < h) : figG L h d 0 = [] := by
  unfold figG
  rw [Nat.zero_mul, Nat.add_zero, filt_none (Nat.min_le_left _ _) hd]; rfl
theorem figG_succ {L h d i : Nat} (hd : d < h) (hi : d + i * h < L - 1) : figG L h d (i + 1) = figG L h d i ++ [d + i * h + 1] := by
  unfold figG
  have e : d + (i + 1) * h = d + i * h + h := by rw [Nat.add_mul, Nat.one_mul, Nat.add_assoc]
  rw [e, show min (d + i * h) (L - 1) = d + i * h by omega, filt_step (m := d + i * h) (m2 := min (d + i * h + h) (L - 1)) (by rw [Nat.add_mul_mod_self_right, Nat.mod_eq_of_lt hd]) (by omega) (by omega), List.map_append]
  rfl
theorem figG_end {L h d n : Nat} (h1 : L - 1 ≤ d + n * h) : figG L h d n = ends L h d := by
  unfold figG ends
  rw [show min (d + n * h) (L - 1) = L - 1 by omega]
theorem floorSum_snoc (L : Nat) (n : Int) (x : Nat) : ∀ F : List Nat, floorSum L n (F ++ [x]) = floorSum L n F + ((n - 1 - x) / (L : Int) + 1)
  | [] => by show _ + 0 = 0 + _; omega
  | f :: F => by
    show _ + floorSum L n (F ++ [x]) = _ + floorSum L n F + _
    rw [floorSum_snoc L n x F]; omega
/-- there is room at a length beyond both -/
theorem room_ex {L h d k : Nat} {lo hi : Option (List Nat)} (hL : 2 ≤ L) (hd : d < h) (hh : h < L) (e : Ends2 L lo hi) (hr : ∀ a b, lo = some a → hi = some b → a < b) (hlo : ∀ a, lo = some a → a.length ≤ k) (hhi : ∀ b, hi = some b → b.length ≤ k) :
    below L (ends L h d) (lowN L lo (k + 1)) < below L (ends L h d) (pastN L hi (k + 1)) := by
  have hF := figs_ends hd hh
  have step : ∀ a : List Nat, a.length ≤ k → whole L a (k + 1) = whole L a k * L := fun a ha => by
    show whole L a k * L + a.getD k 0 = _
    rw [List.getD_eq_getElem?_getD, List.getElem?_eq_none (by omega)]; rfl
  -- low is one past a multiple of L, high a multiple of L beyond it
  obtain ⟨q, hq⟩ : ∃ q, lowN L lo (k + 1) = q * L + 1 := by
    unfold lowN
    cases lo with
    | none => exact ⟨0, by rw [Nat.zero_mul]⟩
    | some a => exact ⟨whole L a k, by show whole L a (k + 1) + 1 = _; rw [step a (hlo a rfl)]⟩
  obtain ⟨p, hp⟩ : ∃ p, pastN L hi (k + 1) = p * L := by
    unfold pastN
    cases hi with
    | none => exact ⟨L ^ k, Nat.pow_succ ..⟩
    | some b =>
      have hb := hhi b rfl
      exact ⟨whole L b k, by show (if b.length ≤ k + 1 then _ else _) = _; rw [if_pos (by omega), step b hb]⟩
  have hlt : lowN L lo (k + 1) ≤ pastN L hi (k + 1) := by
    unfold lowN pastN
    cases lo with
    | none =>
      cases hi with
      | none => exact Nat.pow_pos (by omega)
      | some b =>
        have hb := hhi b rfl
        show 1 ≤ if b.length ≤ k + 1 then _ else _
        rw [if_pos (by omega)]
        exact whole_pos (by omega) (e.hi b rfl).1 (e.hi b rfl).2 (by omega)
    | some a =>
      cases hi with
      | none => exact whole_lt (by omega) (e.lo a rfl).1.lt _
      | some b =>
        have hb := hhi b rfl
        show whole L a (k + 1) + 1 ≤ if b.length ≤ k + 1 then _ else _
        rw [if_pos (by omega)]
        exact (ltG_whole (by omega) (e.lo a rfl).1.lt (e.hi b rfl).1 (by omega)).mp (hr a b rfl rfl)
  rw [hq, hp] at hlt ⊢
  have hqp : q + 1 ≤ p := by
    refine Nat.not_lt.mp fun z => ?_
    have := Nat.mul_le_mul_right L (show p ≤ q by omega)
    omega
  have h1 : below L (ends L h d) (q * L + 1) = q * (ends L h d).length := by
    unfold below cnt
    rw [Nat.mul_comm q L, Nat.mul_add_div (by omega), Nat.div_eq_of_lt (by omega), Nat.mul_add_mod, Nat.mod_eq_of_lt (show 1 < L by omega), Nat.add_zero, List.filter_eq_nil_iff.mpr fun f hf => by
      have := (ends_mem.mp hf).1
      rw [decide_eq_true_iff]; omega]
    rfl
  have h2 : below L (ends L h d) (p * L) = p * (ends L h d).length := by
    unfold below cnt
    rw [Nat.mul_div_cancel _ (by omega), Nat.mul_mod_left, List.filter_eq_nil_iff.mpr fun f _ => by simp]
    rfl
  have h3 : 0 < (ends L h d).length := List.length_pos_iff.mpr hF.ne
  rw [h1, h2]
  exact Nat.mul_lt_mul_of_pos_right (by omega) h3
theorem rgC_small {a b c : Nat} (hc : 0 < c) (hc2 : c ≤ 1000) (h : a < b) (hb : b ≤ 1000) : RgC (a : Int) (b : Int) (c : Int) ((b - a - 1) / c + 1) := by
  have e : Builtin.Range.rangeSize (a : Int) (b : Int) (c : Int) = (((b - a - 1) / c + 1 : Nat) : Int) := by
    unfold Builtin.Range.rangeSize
    rw [if_pos (show (c : Int) > 0 by omega), if_pos (show (a : Int) < b by omega), show (b : Int) - a - 1 = ((b - a - 1 : Nat) : Int) by omega]
    rfl
  have h2 : (b - a - 1) / c ≤ b := Nat.le_trans (Nat.div_le_self _ _) (by omega)
  have h3 : (b - a - 1) / c * c ≤ b - a - 1 := Nat.div_mul_le_self _ _
  refine ⟨by omega, by omega, ?_, e⟩
  unfold Builtin.Range.small
  rw [e]
  simp only [Builtin.Range.rangeFitsLong, Bool.and_eq_true, Bool.or_eq_true, decide_eq_true_eq, beq_iff_eq, show (c : Int) > 0 by omega, if_true]
  generalize (b - a - 1) / c = t at *
  omega
theorem idx_take : ∀ L, L < 27 → ∀ d, d < L → Txt.index0 (txt (List.range L)) ⟨#[97 + d]⟩ = some d := by decide +kernel
theorem take_at {L : Nat} {j : Int} (h0 : 0 ≤ j) (h : j < L) : atI (txt (List.range L)).cps.toList j = some (97 + j.toNat) := by
  obtain ⟨n, rfl⟩ := Int.eq_ofNat_of_zero_le h0
  refine atI_nat ?_
  rw [txt_tl, List.getElem?_map, List.getElem?_range (by omega)]; rfl
theorem rep_lt {L n : Nat} (hL : 0 < L) : ∀ d ∈ List.replicate n 0, d < L := fun d hd => by rw [(List.mem_replicate.mp hd).2]; exact hL
theorem app_lt {L : Nat} {a b : List Nat} (ha : ∀ d ∈ a, d < L) (hb : ∀ d ∈ b, d < L) : ∀ d ∈ a ++ b, d < L := fun d hd => by
  rcases List.mem_append.mp hd with hd | hd
  · exact ha d hd
  · exact hb d hd
theorem take_lt {L n : Nat} {a : List Nat} (ha : ∀ d ∈ a, d < L) : ∀ d ∈ a.take n, d < L := fun d hd => ha d (List.mem_of_mem_take hd)
/-- what is less in its first k figures comes ahead -/
theorem trunc_lt {L : Nat} (hL : 0 < L) : ∀ {a b : List Nat} {k : Nat}, (∀ d ∈ a, d < L) → (∀ d ∈ b, d < L) → whole L a k < whole L b k → a < b
  | a, b, 0, _, _, h => absurd h (by show ¬ 0 < 0; omega)
  | [], [], k + 1, _, _, h => by rw [whole_nil] at h; omega
  | [], e :: b, k + 1, _, _, _ => List.nil_lt_cons _ _
  | d :: a, [], k + 1, _, _, h => by rw [whole_nil] at h; omega
  | d :: a, e :: b, k + 1, ha, hb, h => by
    have ha' : ∀ d ∈ a, d < L := fun x hx => ha x (List.mem_cons_of_mem _ hx)
    have hb' : ∀ d ∈ b, d < L := fun x hx => hb x (List.mem_cons_of_mem _ hx)
    rw [whole_cons, whole_cons] at h
    have h1 := whole_lt hL ha' k
    have h2 := whole_lt hL hb' k
    rw [List.cons_lt_cons_iff]
    rcases Nat.lt_trichotomy d e with z | z | z
    · exact .inl z
    · subst z
      exact .inr ⟨rfl, trunc_lt hL ha' hb' (Nat.lt_of_add_lt_add_left h)⟩
    · have y : (e + 1) * L ^ k ≤ d * L ^ k := Nat.mul_le_mul_right _ z
      rw [Nat.add_mul, Nat.one_mul] at y
      exact absurd h (by omega)
theorem whole_pad {L k : Nat} {a : List Nat} (ha : a.length ≤ k) : ∀ j, whole L a (k + j) = whole L a k * L ^ j
  | 0 => by rw [Nat.pow_zero, Nat.mul_one]; rfl
  | j + 1 => by
    show whole L a (k + j) * L + a.getD (k + j) 0 = _
    rw [whole_pad ha j, List.getD_eq_getElem?_getD, List.getElem?_eq_none (by omega), Nat.pow_succ, Nat.mul_assoc]; rfl
/-- so much room at a length well beyond both -/
theorem room_exN {L h d k j : Nat} {lo hi : Option (List Nat)} (hL : 2 ≤ L) (hd : d < h) (hh : h < L) (e : Ends2 L lo hi) (hr : ∀ a b, lo = some a → hi = some b → a < b) (hlo : ∀ a, lo = some a → a.length ≤ k) (hhi : ∀ b, hi = some b → b.length ≤ k) :
    below L (ends L h d) (lowN L lo (k + (j + 1))) + 2 ^ j ≤ below L (ends L h d) (pastN L hi (k + (j + 1))) := by
  have hF := figs_ends hd hh
  obtain ⟨q, hq, hq2⟩ : ∃ q, lowN L lo (k + (j + 1)) = q * L ^ (j + 1) + 1 ∧ ∀ p, (hi = none → p = L ^ k) → (∀ b, hi = some b → p = whole L b k) → q < p := by
    cases lo with
    | none =>
      refine ⟨0, by unfold lowN; rw [Nat.zero_mul], fun p h1 h2 => ?_⟩
      cases hi with
      | none => rw [h1 rfl]; exact Nat.pow_pos (by omega)
      | some b => rw [h2 b rfl]; exact whole_pos (by omega) (e.hi b rfl).1 (e.hi b rfl).2 (hhi b rfl)
    | some a =>
      refine ⟨whole L a k, by show whole L a (k + (j + 1)) + 1 = _; rw [whole_pad (hlo a rfl)], fun p h1 h2 => ?_⟩
      cases hi with
      | none => rw [h1 rfl]; exact whole_lt (by omega) (e.lo a rfl).1.lt _
      | some b => rw [h2 b rfl]; exact (ltG_whole (by omega) (e.lo a rfl).1.lt (e.hi b rfl).1 (hhi b rfl)).mp (hr a b rfl rfl)
  obtain ⟨p, hp, hqp⟩ : ∃ p, pastN L hi (k + (j + 1)) = p * L ^ (j + 1) ∧ q < p := by
    cases hi with
    | none => exact ⟨L ^ k, Nat.pow_add .., hq2 _ (fun _ => rfl) fun b z => (nomatch z)⟩
    | some b =>
      have hb := hhi b rfl
      exact ⟨whole L b k, by show (if b.length ≤ k + (j + 1) then _ else _) = _; rw [if_pos (by omega), whole_pad hb], hq2 _ (fun z => (nomatch z)) fun b' z => by cases z; rfl⟩
  rw [hq, hp]
  have eq1 : q * L ^ (j + 1) + 1 = L * (q * L ^ j) + 1 := by rw [Nat.pow_succ, ← Nat.mul_assoc, Nat.mul_comm]
  have eq2 : p * L ^ (j + 1) = (p * L ^ j) * L := by rw [Nat.pow_succ, Nat.mul_assoc]
  rw [eq1, eq2]
  have h1 : below L (ends L h d) (L * (q * L ^ j) + 1) = q * L ^ j * (ends L h d).length := by
    unfold below cnt
    rw [Nat.mul_add_div (by omega), Nat.div_eq_of_lt (by omega), Nat.mul_add_mod, Nat.mod_eq_of_lt (show 1 < L by omega), Nat.add_zero, List.filter_eq_nil_iff.mpr fun f hf => by
      have := (ends_mem.mp hf).1
      rw [decide_eq_true_iff]; omega]
    rfl
  have h2 : below L (ends L h d) (p * L ^ j * L) = p * L ^ j * (ends L h d).length := by
    unfold below cnt
    rw [Nat.mul_div_cancel _ (by omega), Nat.mul_mod_left, List.filter_eq_nil_iff.mpr fun f _ => by simp]
    rfl
  have h3 : 1 ≤ (ends L h d).length := List.length_pos_iff.mpr hF.ne
  rw [h1, h2]
  have h4 : 2 ^ j ≤ L ^ j := Nat.pow_le_pow_left hL j
  have h5 : (q + 1) * L ^ j * (ends L h d).length ≤ p * L ^ j * (ends L h d).length := Nat.mul_le_mul_right _ (Nat.mul_le_mul_right _ hqp)
  rw [Nat.add_mul, Nat.one_mul, Nat.add_mul] at h5
  have h6 : L ^ j * 1 ≤ L ^ j * (ends L h d).length := Nat.mul_le_mul_left _ h3
  omega
theorem figG_map {L h d : Nat} (hd : d < h) : ∀ i, (∀ j, j < i → d + j * h < L - 1) → figG L h d i = (List.range i).map fun j => d + j * h + 1
  | 0, _ => figG_0 hd
  | i + 1, hi => by
    rw [figG_succ hd (hi i (by omega)), figG_map hd i fun j hj => hi j (by omega), List.range_succ, List.map_append]; rfl
theorem rngL_ends {L h d : Nat} (hd : d < h) (hh : h < L) : rngL (1 + (d : Int)) (h : Int) ((L - (1 + d) - 1) / h + 1) = (ends L h d).map natV := by
  have hmul : (L - (1 + d) - 1) / h * h ≤ L - (1 + d) - 1 := Nat.div_mul_le_self _ _
  have hmod := Nat.div_add_mod (L - (1 + d) - 1) h
  have hml := Nat.mod_lt (L - (1 + d) - 1) (show 0 < h by omega)
  rw [Nat.mul_comm] at hmod
  generalize (L - (1 + d) - 1) / h = n at *
  have hend : L - 1 ≤ d + (n + 1) * h := by
    rw [Nat.add_mul, Nat.one_mul]; omega
  rw [← figG_end hend, figG_map hd (n + 1) fun j hj => by
    have := Nat.mul_le_mul_right h (show j ≤ n by omega)
    omega]
  unfold rngL
  rw [List.map_map]
  refine List.map_congr_left fun j _ => ?_
  show V.int _ = V.int ((d + j * h + 1 : Nat) : Int)
  congr 1
  rw [Int.natCast_add, Int.natCast_add, Int.natCast_mul]; omega
/-! ### lists of one's own -/
theorem sqL_ex {K : PySem.W.Frag} {H H' : Hp} {a : Addr} {xs : List V} (h : SqL K H a xs) (e : Ex H H') : SqL K H' a xs := by
  rcases h with h | h
  · rcases h with h | ⟨ob, h⟩
    · exact .inl (.inl (e _ _ h))
    · exact .inl (.inr ⟨ob, e _ _ h⟩)
  · exact .inr h
/-- behind H0 there are lists qs, no two at one place, that hold cs -/
structure Box (H0 H : Hp) (qs : List Addr) (cs : List (List V)) : Prop where
  nd : qs.Nodup
  fresh : ∀ q ∈ qs, H0 q = none
  at_ : ∀ (i : Nat) (q : Addr) (c : List V), qs[i]? = some q → cs[i]? = some c → H q = some (.lst c)
  ex : Ex H0 H
  clo : Clo H
theorem Box.nil {H : Hp} (c : Clo H) : Box H H [] [] := ⟨.nil, fun _ h => (nomatch h), fun _ _ _ h => (by simp at h), Ex.refl H, c⟩
theorem Box.ext {H0 H H' : Hp} {qs : List Addr} {cs : List (List V)} (b : Box H0 H qs cs) (e : Ex H H') (c : Clo H') : Box H0 H' qs cs := ⟨b.nd, b.fresh, fun i q x h1 h2 => e _ _ (b.at_ i q x h1 h2), b.ex.trans e, c⟩
theorem Box.new {H0 H : Hp} {qs : List Addr} {cs : List (List V)} {p : Addr} {o : HO} (b : Box H0 H qs cs) (hp : H p = none) (ho : plainO o = true) : Box H0 (upd H p o) qs cs := b.ext (Ex.new (Ex.refl H) hp) (clo_new b.clo hp ho)
/-- a further list -/
theorem Box.add {H0 H H' : Hp} {qs : List Addr} {cs : List (List V)} {p : Addr} {c : List V} (b : Box H0 H qs cs) (hl : qs.length = cs.length) (hp : H p = none) (e : Ex H H') (h : H' p = some (.lst c)) (hc : Clo H') : Box H0 H' (qs ++ [p]) (cs ++ [c]) := by
  have n0 : ∀ q ∈ qs, q ≠ p := fun q hq e => by
    obtain ⟨i, hi, rfl⟩ := List.mem_iff_getElem.mp hq
    have := b.at_ i _ _ (List.getElem?_eq_getElem hi) (List.getElem?_eq_getElem (by omega))
    rw [e, hp] at this
    cases this
  refine ⟨List.nodup_append.mpr ⟨b.nd, by simp, fun x hx y hy => by rw [List.mem_singleton.mp hy]; exact n0 x hx⟩, fun q hq => ?_, fun i q x h1 h2 => ?_, b.ex.trans e, hc⟩
  · rcases List.mem_append.mp hq with z | z
    · exact b.fresh q z
    · rw [List.mem_singleton.mp z]; exact Ex.back b.ex hp
  · by_cases hi : i < qs.length
    · rw [List.getElem?_append_left hi] at h1
      rw [List.getElem?_append_left (by omega)] at h2
      exact e _ _ (b.at_ i q x h1 h2)
    · rw [List.getElem?_append_right (by omega)] at h1
      rw [List.getElem?_append_right (by omega)] at h2
      have hi2 : i - qs.length = 0 := by
        obtain ⟨z, _⟩ := List.getElem?_eq_some_iff.mp h1
        simpa using z
      rw [hi2] at h1
      rw [show i - cs.length = 0 by omega] at h2
      cases h1
      cases h2
      exact h
theorem Box.ne {H0 H : Hp} {qs : List Addr} {cs : List (List V)} {p q : Addr} (b : Box H0 H qs cs) (i j : Nat) (hij : i ≠ j) (hi : qs[i]? = some p) (hj : qs[j]? = some q) : p ≠ q := fun e => by
  obtain ⟨h1, e1⟩ := List.getElem?_eq_some_iff.mp hi
  obtain ⟨h2, e2⟩ := List.getElem?_eq_some_iff.mp hj
  rcases Nat.lt_or_gt_of_ne hij with z | z
  · exact List.pairwise_iff_getElem.mp b.nd i j h1 h2 z (by rw [e1, e2, e])
  · exact List.pairwise_iff_getElem.mp b.nd j i h2 h1 z (by rw [e1, e2, e])
theorem Box.set {H0 H : Hp} {qs : List Addr} {cs : List (List V)} {p : Addr} {c x : List V} (b : Box H0 H qs cs) (i : Nat) (hi : qs[i]? = some p) (hc : cs[i]? = some c) : Box H0 (upd H p (.lst x)) qs (cs.set i x) := by
  have hp := b.at_ i p c hi hc
  refine ⟨b.nd, b.fresh, fun j q y h1 h2 => ?_, fun a o e => ?_, clo_set b.clo (fun z e => by rw [hp] at e; cases e) rfl⟩
  · by_cases hj : i = j
    · subst hj
      rw [hi] at h1
      cases h1
      rw [List.getElem?_set_self (List.getElem?_eq_some_iff.mp hc).1] at h2
      cases h2
      exact upd_same
    · rw [List.getElem?_set_ne hj] at h2
      rw [upd_ne (b.ne j i (Ne.symm hj) h1 hi)]
      exact b.at_ j q y h1 h2
  · rw [upd_ne (fun z => by
      have := b.fresh p (List.mem_of_getElem? hi)
      rw [z, this] at e; cases e)]
    exact b.ex a o e
theorem Box.sq {K : PySem.W.Frag} {H0 H : Hp} {qs : List Addr} {cs : List (List V)} {p : Addr} {c : List V} (b : Box H0 H qs cs) (i : Nat) (hi : qs[i]? = some p) (hc : cs[i]? = some c) : SqL K H p c := .inl (.inl (b.at_ i p c hi hc))
theorem Box.kp {H0 H : Hp} {qs : List Addr} {cs : List (List V)} {p : Addr} {c : List V} {o : HO} (b : Box H0 H qs cs) (i : Nat) (hi : qs[i]? = some p) (hc : cs[i]? = some c) (ho : plainO o = true) : Kp H (upd H p o) := Kp.set b.clo (b.at_ i p c hi hc) ho
/-- a comprehension whose turns tell some P -/
theorem lc_ex {J : It} {n : Nat} {G : Hp → Prop} {f : Nat → V} (w : Walk J n G (YFn f)) {g : TG} {te : TE} {vs : List Nat} {σ : L2.St} {H1 : Hp} {D : Addr} {Qd : Hp → Prop} (P : V → Prop) (hn : n ≤ 1000000)
    (hG : ∀ acc, G (upd H1 D (.lst acc)))
    (turn : ∀ i acc, i < n → acc.length = i → ∀ N : Hp → Prop, (∀ y, P y → N (upd H1 D (.lst (acc ++ [y])))) →
      g (f i) (wipe σ vs) (upd H1 D (.lst acc)) fun σ2 H2 => wipe σ2 vs = wipe σ vs ∧ te σ2 H2 fun y H4 => ∃ acc, H4 D = some (.lst acc) ∧ acc.length < sizeLine ∧ N (upd H4 D (.lst (acc ++ [y]))))
    (hgm : ∀ x σ0 H0 (Q Q' : L2.St → Hp → Prop), (∀ s h, Q s h → Q' s h) → g x σ0 H0 Q → g x σ0 H0 Q')
    (hq : ∀ acc : List V, acc.length = n → (∀ y ∈ acc, P y) → Qd (upd H1 D (.lst acc))) :
    ∃ W : Nat → Nat → Hp → Prop, (∃ m, W 0 m (upd H1 D (.lst []))) ∧ ∀ i m H, W i m H →
      (J.stop i H ∧ Qd H) ∨ (J.go i H ∧ ∃ Nx : Hp → Prop, (∀ H', Nx H' → ∃ m', m' < m ∧ W (i + 1) m' H') ∧ ∀ x H', J.yld i H x H' → g x (wipe σ vs) H' fun σ2 H2 => wipe σ2 vs = wipe σ vs ∧ tYes σ2 H2 fun b H3 =>
        if b = true then te σ2 H3 fun y H4 => ∃ acc, H4 D = some (.lst acc) ∧ acc.length < sizeLine ∧ Nx (upd H4 D (.lst (acc ++ [y]))) else Nx H3) := by
  refine lc_it w (fun i H => ∃ acc : List V, acc.length = i ∧ (∀ y ∈ acc, P y) ∧ H = upd H1 D (.lst acc)) ⟨[], rfl, fun _ h => (nomatch h), rfl⟩ (fun i H _ h => by obtain ⟨acc, _, _, e⟩ := h; rw [e]; exact hG _) ?_ (fun H h => by
    obtain ⟨acc, h1, h2, rfl⟩ := h
    exact hq acc h1 h2)
  rintro i x H H' hi ⟨acc, hl, hP, rfl⟩ ⟨rfl, rfl⟩
  refine hgm _ _ _ _ _ (fun s h z => ?_) (turn i acc hi hl (fun H => ∃ acc : List V, acc.length = i + 1 ∧ (∀ y ∈ acc, P y) ∧ H = upd H1 D (.lst acc)) fun y hy => ⟨acc ++ [y], by rw [List.length_append, hl]; rfl, fun z hz => ?_, rfl⟩)
  · exact ⟨z.1, z.2⟩
  · rcases List.mem_append.mp hz with hz | hz
    · exact hP z hz
    · rw [List.mem_singleton.mp hz]; exact hy
theorem join_codes (cs : List Nat) : Txt.join ("" : Str) (cs.map fun c => S [c]) = S cs := by
  have e : (cs.map fun c => S [c]) = ((cs.map fun c => [c]).map S) := by rw [List.map_map]; rfl
  rw [e, show ("" : Str) = S [] by decide +kernel, join_S]
  refine congrArg S ?_
  clear e
  induction cs with
  | nil => rfl
  | cons a r ih =>
    cases r with
    | nil => rfl
    | cons b r =>
      show [a] ++ ([] ++ TL.joinL [] ((b :: r).map fun d => [d])) = _
      rw [ih]; rfl
theorem sum_codes : ∀ cs : List Nat, ((cs.map fun c => S [c]).map (·.length)).sum = cs.length
  | [] => rfl
  | d :: ds => by
    rw [List.map_cons, List.map_cons, List.sum_cons, sum_codes ds, S_len]
    show 1 + ds.length = ds.length + 1
    omega
theorem codes_ex {P : Nat → Prop} : ∀ acc : List V, (∀ y ∈ acc, ∃ c, P c ∧ y = .str (S [c])) → ∃ cs : List Nat, cs.length = acc.length ∧ (∀ c ∈ cs, P c) ∧ acc = (cs.map fun c => S [c]).map V.str
  | [], _ => ⟨[], rfl, fun _ h => (nomatch h), rfl⟩
  | y :: r, h => by
    obtain ⟨c, hc, rfl⟩ := h y List.mem_cons_self
    obtain ⟨cs, h1, h2, h3⟩ := codes_ex r fun z hz => h z (List.mem_cons_of_mem _ hz)
    exact ⟨c :: cs, by simp [h1], all1 hc h2, by rw [h3]; rfl⟩
theorem Box.notin {H0 H : Hp} {qs : List Addr} {cs : List (List V)} {p : Addr} (b : Box H0 H qs cs) (hl : qs.length = cs.length) (hp : H p = none) : ∀ q ∈ qs, q ≠ p := fun q hq e => by
  obtain ⟨i, hi, rfl⟩ := List.mem_iff_getElem.mp hq
  have := b.at_ i _ _ (List.getElem?_eq_getElem hi) (List.getElem?_eq_getElem (by omega))
  rw [e, hp] at this
  cases this
theorem Box.put {H0 H : Hp} {qs : List Addr} {cs : List (List V)} {p : Addr} {c : List V} (b : Box H0 H qs cs) (hl : qs.length = cs.length) (n : ∀ q ∈ qs, q ≠ p) (h0 : H0 p = none) (h : H p = some (.lst c)) : Box H0 H (qs ++ [p]) (cs ++ [c]) := by
  refine ⟨List.nodup_append.mpr ⟨b.nd, by simp, fun x hx y hy => by rw [List.mem_singleton.mp hy]; exact n x hx⟩, fun q hq => ?_, fun i q x h1 h2 => ?_, b.ex, b.clo⟩
  · rcases List.mem_append.mp hq with z | z
    · exact b.fresh q z
    · rw [List.mem_singleton.mp z]; exact h0
  · by_cases hi : i < qs.length
    · rw [List.getElem?_append_left hi] at h1
      rw [List.getElem?_append_left (by omega)] at h2
      exact b.at_ i q x h1 h2
    · rw [List.getElem?_append_right (by omega)] at h1
      rw [List.getElem?_append_right (by omega)] at h2
      have hi2 : i - qs.length = 0 := by
        obtain ⟨z, _⟩ := List.getElem?_eq_some_iff.mp h1
        simpa using z
      rw [hi2] at h1
      rw [show i - cs.length = 0 by omega] at h2
      cases h1
      cases h2
      exact h
/-- two further lists -/
theorem Box.add2 {H0 H H' : Hp} {qs : List Addr} {cs : List (List V)} {p r : Addr} {c d : List V} (b : Box H0 H qs cs) (hl : qs.length = cs.length) (hp : H p = none) (hr : H r = none) (ne : p ≠ r) (e : Ex H H') (h : H' p = some (.lst c)) (h2 : H' r = some (.lst d)) (hc : Clo H') : Box H0 H' (qs ++ [p] ++ [r]) (cs ++ [c] ++ [d]) := by
  have b1 := (b.ext e hc).put hl (b.notin hl hp) (b.ex.back hp) h
  refine b1.put (by rw [List.length_append, List.length_append, hl]; rfl) (fun q hq => ?_) (b.ex.back hr) h2
  rcases List.mem_append.mp hq with z | z
  · exact b.notin hl hr q z
  · rw [List.mem_singleton.mp z]; exact ne
theorem clo_made {H : Hp} {x dx C : Addr} (c : Clo H) (hx : H x = none) (hd : H dx = none) (ne : dx ≠ x) : Clo (upd (upd H dx (.own x)) x (.ins C dx [])) := by
  refine clo_upd (clo_upd c hd trivial) (by rw [upd_ne ne.symm]; exact hx) ?_
  show upd (upd H dx (.own x)) x (.ins C dx []) dx = some (.own x)
  rw [upd_ne ne]
  exact upd_same
theorem ex_made {H : Hp} {x dx C : Addr} (hx : H x = none) (hd : H dx = none) : Ex H (upd (upd H dx (.own x)) x (.ins C dx [])) := Ex.new (Ex.new (Ex.refl H) hd) hx
/-- an object of one's own is changed -/
theorem Box.keep {H0 H H' : Hp} {qs : List Addr} {cs : List (List V)} {p C dx : Addr} {fs : List (Str × V)} (b : Box H0 H qs cs) (h0 : H0 p = none) (hp : H p = some (.ins C dx fs)) (k : ∀ a o, a ≠ p → H a = some o → H' a = some o) (c : Clo H') : Box H0 H' qs cs :=
  ⟨b.nd, b.fresh, fun i q x h1 h2 => k _ _ (fun e => by have := b.at_ i q x h1 h2; rw [e, hp] at this; cases this) (b.at_ i q x h1 h2), fun a o e => k _ _ (fun z => by rw [z, h0] at e; cases e) (b.ex a o e), c⟩
/-- another list in the place of the i-th -/
theorem Box.swap {H0 H : Hp} {qs : List Addr} {cs : List (List V)} {p : Addr} {x : List V} (b : Box H0 H qs cs) (i : Nat) (n : ∀ q ∈ qs, q ≠ p) (h0 : H0 p = none) (h : H p = some (.lst x)) : Box H0 H (qs.set i p) (cs.set i x) := by
  refine ⟨?_, fun q hq => ?_, fun j q y h1 h2 => ?_, b.ex, b.clo⟩
  · refine List.pairwise_iff_getElem.mpr fun a c ha hc hac => ?_
    rw [List.length_set] at ha hc
    rw [List.getElem_set, List.getElem_set]
    by_cases e1 : i = a
    · rw [if_pos e1, if_neg (by omega)]
      exact Ne.symm (n _ (List.getElem_mem hc))
    · rw [if_neg e1]
      by_cases e2 : i = c
      · rw [if_pos e2]; exact n _ (List.getElem_mem ha)
      · rw [if_neg e2]; exact List.pairwise_iff_getElem.mp b.nd a c ha hc hac
  · rcases List.mem_or_eq_of_mem_set hq with z | z
    · exact b.fresh q z
    · rw [z]; exact h0
  · by_cases e : i = j
    · subst e
      rw [List.getElem?_set] at h1 h2
      simp only [if_true] at h1 h2
      split at h1
      · split at h2
        · cases h1; cases h2; exact h
        · cases h2
      · cases h1
    · rw [List.getElem?_set_ne e] at h1 h2
      exact b.at_ j q y h1 h2
theorem eraseIdx_mapL {α β : Type} (f : α → β) : ∀ (l : List α) (n : Nat), (l.map f).eraseIdx n = (l.eraseIdx n).map f
  | [], _ => rfl
  | _ :: _, 0 => rfl
  | x :: l, n + 1 => by
    rw [List.map_cons, List.eraseIdx_cons_succ, List.eraseIdx_cons_succ, List.map_cons, eraseIdx_mapL f l n]
/-- an attribute of p is another, new lists may have come -/
theorem clo_fld {H H' : Hp} {p dx C C' : Addr} {fs fs' : List (Str × V)} (c : Clo H) (hp : H p = some (.ins C dx fs)) (hdp : dx ≠ p) (hdx : H dx = some (.own p)) (hp2 : H' p = some (.ins C' dx fs')) (k : ∀ a o, a ≠ p → H a = some o → H' a = some o)
    (n : ∀ a o, a ≠ p → H' a = some o → H a = some o ∨ plainO o = true) : Clo H' := fun a o e => by
  by_cases ha : a = p
  · rw [ha, hp2] at e
    cases e
    rw [ha]
    exact k dx _ hdp hdx
  · rcases n a o ha e with z | z
    · have y := c a o z
      clear e z
      induction o with
      | dT _ => exact y
      | ins C dx' fs =>
        have z' : H dx' = some (.own a) := y
        exact k dx' _ (fun w => by rw [w, hp] at z'; cases z') z'
      | frz ob v ih => exact ih y
      | _ => trivial
    · exact okO_plain z
theorem kp_fld {H H' : Hp} {p dx C : Addr} {fs : List (Str × V)} (c : Clo H') (hp : H p = some (.ins C dx fs)) (k : ∀ a o, a ≠ p → H a = some o → H' a = some o) : Kp H H' := by
  refine ⟨fun _ _ h => h, fun a xs e => ?_, fun a o u e => ?_, fun a ps e => ⟨#[], ?_⟩, c⟩
  · exact k a _ (fun y => by rw [y, hp] at e; cases e) e
  · exact k a _ (fun y => by rw [y, hp] at e; cases e) e
  · rw [k a _ (fun y => by rw [y, hp] at e; cases e) e, Array.append_empty]
theorem Box.pre {H0 H : Hp} {qs rs : List Addr} {cs ds : List (List V)} (hl : qs.length = cs.length) (b : Box H0 H (qs ++ rs) (cs ++ ds)) : Box H0 H qs cs :=
  ⟨(List.nodup_append.mp b.nd).1, fun q hq => b.fresh q (List.mem_append_left _ hq), fun i q c h1 h2 => by
    have a1 := (List.getElem?_eq_some_iff.mp h1).1
    refine b.at_ i q c ?_ ?_
    · rw [List.getElem?_append_left a1]; exact h1
    · rw [List.getElem?_append_left (by omega)]; exact h2, b.ex, b.clo⟩
theorem indices_last {n : Nat} (h : 1 ≤ n) : Builtin.Str.strSliceIndices none (some (-1)) 1 n = Builtin.Str.strSliceIndices none (some ((n : Int) - 1)) 1 n := by
  have h0 : ¬ (n : Int) - 1 < 0 := by omega
  have h1 : (-1 : Int) < 0 := by decide
  have h2 : (1 : Int) > 0 := by decide
  simp only [Builtin.Str.strSliceIndices, h0, h1, h2, if_false, if_true, show (-1 : Int) + (n : Int) = (n : Int) - 1 by omega]
theorem slice_cut1 {ds : List Nat} (h : 1 ≤ ds.length) : Txt.slice (txt ds) none (some (-1)) = txt (ds.take (ds.length - 1)) := by
  have e2 : Txt.slice (txt ds) none (some (-1)) = Txt.slice (txt ds) none (some ((ds.length : Int) - 1)) := by
    unfold Txt.slice
    rw [txt_len, indices_last h]
  rw [e2]
  unfold txt
  rw [slice_to (by omega), show ((ds.length : Int) - 1).toNat = ds.length - 1 by omega, ← List.map_take]
/-! ### lists of tuples -/
abbrev refs (qs : List Addr) : List V := qs.map V.ref
theorem refs_len (qs : List Addr) : (refs qs).length = qs.length := List.length_map _
structure TupsAt (H : Hp) (qs : List Addr) (rs : List (List V)) : Prop where
  len : qs.length = rs.length
  at_ : ∀ (i : Nat) (q : Addr) (r : List V), qs[i]? = some q → rs[i]? = some r → H q = some (.tup r)
theorem TupsAt.nil (H : Hp) : TupsAt H [] [] := ⟨rfl, fun _ _ _ h => by simp at h⟩
theorem TupsAt.kp {H H' : Hp} {qs : List Addr} {rs : List (List V)} (t : TupsAt H qs rs) (k : Kp H H') : TupsAt H' qs rs := ⟨t.len, fun i q r a b => k.tup q r (t.at_ i q r a b)⟩
theorem TupsAt.ex {H H' : Hp} {qs : List Addr} {rs : List (List V)} (t : TupsAt H qs rs) (e : Ex H H') : TupsAt H' qs rs := ⟨t.len, fun i q r a b => e q _ (t.at_ i q r a b)⟩
theorem TupsAt.snoc {H : Hp} {qs : List Addr} {rs : List (List V)} {q : Addr} {r : List V} (t : TupsAt H qs rs) (h : H q = some (.tup r)) : TupsAt H (qs ++ [q]) (rs ++ [r]) := by
  refine ⟨by rw [List.length_append, List.length_append, t.len]; rfl, fun i a b h1 h2 => ?_⟩
  by_cases c : i < qs.length
  · rw [List.getElem?_append_left c] at h1
    rw [List.getElem?_append_left (by rw [← t.len]; exact c)] at h2
    exact t.at_ i a b h1 h2
  · rw [List.getElem?_append_right (by omega)] at h1
    rw [List.getElem?_append_right (by rw [← t.len]; omega), ← t.len] at h2
    cases hj : i - qs.length with
    | zero =>
      rw [hj] at h1 h2
      cases h1
      cases h2
      exact h
    | succ j => rw [hj] at h1; simp at h1
theorem TupsAt.cons {H : Hp} {q : Addr} {qs : List Addr} {r : List V} {rs : List (List V)} (t : TupsAt H (q :: qs) (r :: rs)) : H q = some (.tup r) ∧ TupsAt H qs rs :=
  ⟨t.at_ 0 q r rfl rfl, ⟨by have := t.len; simpa using this, fun i a b h1 h2 => t.at_ (i + 1) a b (by simpa using h1) (by simpa using h2)⟩⟩
theorem TupsAt.get {H : Hp} {qs : List Addr} {rs : List (List V)} (t : TupsAt H qs rs) {i : Nat} (h : i < rs.length) : ∃ q, (refs qs).getD i .non = .ref q ∧ H q = some (.tup rs[i]) := by
  have h2 : i < qs.length := by rw [t.len]; exact h
  refine ⟨qs[i], ?_, t.at_ i _ _ (List.getElem?_eq_getElem h2) (List.getElem?_eq_getElem h)⟩
  rw [List.getD_eq_getElem?_getD, List.getElem?_map, List.getElem?_eq_getElem h2]; rfl
theorem tup_sq {K : PySem.W.Frag} {H : Hp} {q : Addr} {r : List V} (h : H q = some (.tup r)) : SqT K H q r := .inl (.inl h)
def optD : Option (List Nat) → PyData
  | none => .none
  | some x => .str (txt x)
abbrev Row := List Nat × Option (List Nat)
def rowV (r : Row) : List V := [.str (txt r.1), optV r.2]
def rowD (r : Row) : List PyData := [.str (txt r.1), optD r.2]
abbrev Known := List Nat × Bool
def knV (r : Known) : List V := [.str (txt r.1), .bl r.2]
def knD (r : Known) : List PyData := [.str (txt r.1), .bool r.2]
section
variable {K : PySem.W.Frag} {H : Hp}
theorem dp_opt : ∀ o : Option (List Nat), Dp K H (optV o) (optD o)
  | none => .non
  | some x => .str (txt x)
theorem dp_row (r : Row) : DpAll K H (rowV r) (rowD r) := .cons (.str _) (.cons (dp_opt _) .nil)
theorem dp_kn (r : Known) : DpAll K H (knV r) (knD r) := .cons (.str _) (.cons (.bl _) .nil)
theorem dpAll_tups {α : Type} {f : α → List V} {g : α → List PyData} (hfg : ∀ x, DpAll K H (f x) (g x)) : ∀ {qs : List Addr} {rs : List α}, TupsAt H qs (rs.map f) → DpAll K H (refs qs) (rs.map fun x => .tuple (g x))
  | [], [], _ => .nil
  | [], _ :: _, t => nomatch t.len
  | _ :: _, [], t => nomatch t.len
  | q :: qs, r :: rs, t => by
    obtain ⟨h1, h2⟩ := t.cons
    exact .cons (.tup (tup_sq h1) (hfg r)) (dpAll_tups hfg h2)
theorem eqvAll_self : ∀ {ds : List PyData}, (∀ d ∈ ds, PyData.eqv d d = true) → PyData.eqvAll ds ds = true
  | [], _ => by simp [PyData.eqvAll]
  | d :: ds, h => by rw [PyData.eqvAll, h d List.mem_cons_self, eqvAll_self fun x hx => h x (List.mem_cons_of_mem _ hx)]; rfl
theorem eqv_tup {ds : List PyData} (h : ∀ d ∈ ds, PyData.eqv d d = true) : PyData.eqv (.tuple ds) (.tuple ds) = true := by rw [PyData.eqv]; exact eqvAll_self h
theorem eqv_list {ds : List PyData} (h : ∀ d ∈ ds, PyData.eqv d d = true) : PyData.eqv (.list ds) (.list ds) = true := by rw [PyData.eqv]; exact eqvAll_self h
theorem eqv_str (x : Str) : PyData.eqv (.str x) (.str x) = true := by simp [PyData.eqv]
theorem eqv_bool (x : Bool) : PyData.eqv (.bool x) (.bool x) = true := by simp [PyData.eqv]
theorem eqv_none : PyData.eqv .none .none = true := by simp [PyData.eqv]
theorem eqv_opt : ∀ o : Option (List Nat), PyData.eqv (optD o) (optD o) = true
  | none => eqv_none
  | some _ => eqv_str _
theorem all2 {P : PyData → Prop} {a b : PyData} (ha : P a) (hb : P b) : ∀ d ∈ [a, b], P d := fun d hd => by
  rcases List.mem_cons.mp hd with h | h
  · rw [h]; exact ha
  · rw [List.mem_singleton.mp h]; exact hb
theorem eqv_row (r : Row) : PyData.eqv (.tuple (rowD r)) (.tuple (rowD r)) = true := eqv_tup (all2 (eqv_str _) (eqv_opt _))
theorem eqv_kn (r : Known) : PyData.eqv (.tuple (knD r)) (.tuple (knD r)) = true := eqv_tup (all2 (eqv_str _) (eqv_bool _))
/-- figures of a text that the machine has -/
def Low (ds : List Nat) : Prop := ∀ d ∈ ds, d < 1000
def LowR (r : Row) : Prop := Low r.1 ∧ ∀ x, r.2 = some x → Low x
theorem sh_opt {n : Nat} : ∀ {o : Option (List Nat)}, (∀ x, o = some x → Low x) → Sh n (optD o)
  | none, _ => Sh.non
  | some x, h => Sh.str (strOk_txt (h x rfl))
theorem sh_row {r : Row} (h : LowR r) : Sh 1 (.tuple (rowD r)) := Sh.tup (n := 0) (all2 (Sh.str (strOk_txt h.1)) (sh_opt h.2))
theorem sh_kn {r : Known} (h : Low r.1) : Sh 1 (.tuple (knD r)) := Sh.tup (n := 0) (all2 (Sh.str (strOk_txt h)) (Sh.bl _))
theorem neD_data {x y : V} {d : PyData} {n : Nat} {Q : VK} (h1 : Dp K H x d) (h2 : Dp K H y d) (hs : Sh n d) (hn : n ≤ 64) (e : PyData.eqv d d = true) (q : Q (.bl false) H) : rNeD K x y H Q :=
  ⟨d, d, h1, h2, hs.shaped hn, hs.shaped hn, by rw [e]; exact q⟩
theorem eqD_data {x y : V} {d : PyData} {n : Nat} {Q : VK} (h1 : Dp K H x d) (h2 : Dp K H y d) (hs : Sh n d) (hn : n ≤ 64) (e : PyData.eqv d d = true) (q : Q (.bl true) H) : rEqD K x y H Q :=
  ⟨d, d, h1, h2, hs.shaped hn, hs.shaped hn, by rw [e]; exact q⟩
theorem map_all {α : Type} {P : PyData → Prop} {rs : List α} {g : α → PyData} (h : ∀ r ∈ rs, P (g r)) : ∀ d ∈ rs.map g, P d := fun d hd => by
  obtain ⟨r, hr, rfl⟩ := List.mem_map.mp hd
  exact h r hr
/-- a list of pairs of old and new marks -/
abbrev rowsD (rs : List Row) : PyData := .list (rs.map fun r => .tuple (rowD r))
abbrev knsD (rs : List Known) : PyData := .list (rs.map fun r => .tuple (knD r))
theorem dp_rows {p : Addr} {qs : List Addr} {rs : List Row} (h : H p = some (.lst (refs qs))) (t : TupsAt H qs (rs.map rowV)) : Dp K H (.ref p) (rowsD rs) := .lst (.inl (.inl h)) (dpAll_tups dp_row t)
theorem dp_kns {p : Addr} {qs : List Addr} {rs : List Known} (h : H p = some (.lst (refs qs))) (t : TupsAt H qs (rs.map knV)) : Dp K H (.ref p) (knsD rs) := .lst (.inl (.inl h)) (dpAll_tups dp_kn t)
theorem sh_rows {rs : List Row} (h : ∀ r ∈ rs, LowR r) : Sh 2 (rowsD rs) := Sh.list (map_all fun r hr => sh_row (h r hr))
theorem sh_kns {rs : List Known} (h : ∀ r ∈ rs, Low r.1) : Sh 2 (knsD rs) := Sh.list (map_all fun r hr => sh_kn (h r hr))
theorem eqv_rows (rs : List Row) : PyData.eqv (rowsD rs) (rowsD rs) = true := eqv_list (map_all fun r _ => eqv_row r)
theorem eqv_kns (rs : List Known) : PyData.eqv (knsD rs) (knsD rs) = true := eqv_list (map_all fun r _ => eqv_kn r)
end
/-- how many stand among the first i -/
def cntT (ks : List Known) (i : Nat) : Nat := (ks.take i).countP (·.2)
theorem cntT_succ {ks : List Known} {i : Nat} (h : i < ks.length) : cntT ks (i + 1) = cntT ks i + if (ks[i]).2 = true then 1 else 0 := by
  unfold cntT
  rw [List.take_succ, List.countP_append, List.getElem?_eq_getElem h]
  show _ + List.countP _ [ks[i]] = _
  rw [List.countP_singleton]
theorem cntT_le {ks : List Known} : ∀ {i j : Nat}, i ≤ j → cntT ks i ≤ cntT ks j := fun {i j} h => by
  unfold cntT
  exact List.Sublist.countP_le (List.take_sublist_take_left h)
theorem cntT_all (ks : List Known) : cntT ks ks.length = ks.countP (·.2) := by unfold cntT; rw [List.take_length]
/-- the row of the i-th -/
def renRow (fs : List (List Nat)) (ks : List Known) (i : Nat) : Row := ((ks.getD i ([], false)).1, if (ks.getD i ([], false)).2 = true then some (fs.getD (cntT ks i) []) else none)
/-- the rows of a renewal -/
def renRows (fs : List (List Nat)) (ks : List Known) (n : Nat) : List Row := (List.range n).map (renRow fs ks)
theorem renRows_succ (fs : List (List Nat)) (ks : List Known) (n : Nat) : renRows fs ks (n + 1) = renRows fs ks n ++ [renRow fs ks n] := by
  unfold renRows
  rw [List.range_succ, List.map_append]; rfl
theorem renRows_len (fs : List (List Nat)) (ks : List Known) (n : Nat) : (renRows fs ks n).length = n := by unfold renRows; rw [List.length_map, List.length_range]
/-- a new tuple behind one's own i-th list -/
theorem Box.tupAdd {H0 H : Hp} {qs : List Addr} {cs : List (List V)} {r t : Addr} {ts : List Addr} {rs : List (List V)} {x : List V} (b : Box H0 H qs cs) (i : Nat) (hi : qs[i]? = some r) (hc : cs[i]? = some (refs ts)) (tt : TupsAt H ts rs) (ht : H t = none) :
    Box H0 (upd (upd H t (.tup x)) r (.lst (refs ts ++ [.ref t]))) qs (cs.set i (refs (ts ++ [t]))) ∧ TupsAt (upd (upd H t (.tup x)) r (.lst (refs ts ++ [.ref t]))) (ts ++ [t]) (rs ++ [x]) ∧ Kp H (upd (upd H t (.tup x)) r (.lst (refs ts ++ [.ref t]))) := by
  have b1 := b.new (o := .tup x) ht rfl
  have e : refs ts ++ [.ref t] = refs (ts ++ [t]) := by unfold refs; rw [List.map_append]; rfl
  rw [e]
  have b2 := b1.set (x := refs (ts ++ [t])) i hi hc
  have k1 : Kp H (upd H t (.tup x)) := Kp.new b.clo ht rfl
  have k2 : Kp (upd H t (.tup x)) (upd (upd H t (.tup x)) r (.lst (refs (ts ++ [t])))) := b1.kp i hi hc rfl
  exact ⟨b2, ((tt.kp k1).snoc upd_same).kp k2, k1.trans k2⟩
theorem indices_from2 {n : Nat} : Builtin.Str.strSliceIndices (some (-2)) none 1 n = Builtin.Str.strSliceIndices (some ((n - 2 : Nat) : Int)) (some (n : Int)) 1 n := by
  have h1 : (-2 : Int) < 0 := by decide
  have h2 : (1 : Int) > 0 := by decide
  have h3 : ¬ ((n : Int) < 0) := by omega
  have h4 : ¬ (((n - 2 : Nat) : Int) < 0) := by omega
  have h5 : ¬ ((n : Int) > n) := by omega
  simp only [Builtin.Str.strSliceIndices, h1, h2, h3, h4, if_true, if_false]
  rw [show max 0 (min (-2 + (n : Int)) n) = max 0 (min ((n - 2 : Nat) : Int) n) by omega, show max 0 (min (n : Int) n) = n by omega]
theorem slice_last2 {ds : List Nat} : Txt.slice (txt ds) (some (-2)) none = txt (ds.drop (ds.length - 2)) := by
  have e2 : Txt.slice (txt ds) (some (-2)) none = Txt.slice (txt ds) (some ((ds.length - 2 : Nat) : Int)) (some (ds.length : Int)) := by
    unfold Txt.slice
    rw [txt_len, indices_from2]
  rw [e2, slice_txt (by omega) (Nat.le_refl _), List.take_of_length_le (by rw [List.length_drop]; omega)]
/-- marks, rising, not too long -/
structure MkRow (L B : Nat) (M : List (List Nat)) : Prop where
  all : ∀ m ∈ M, Mk0 L m ∧ m ≠ [] ∧ m.length ≤ B
  up : M.Pairwise (· < ·)
theorem txt_le {a b : List Nat} (h : (txt a).cps.toList ≤ (txt b).cps.toList) : a < b ∨ a = b := by
  have h1 : ¬ b < a := fun z => h (by have := (map_lt (a := b) (b := a)).mpr z; rw [txt_tl, txt_tl]; exact this)
  rcases Classical.em (a < b) with z | z
  · exact .inl z
  · exact .inr (List.le_antisymm h1 z)
def untxt (s : Str) : List Nat := s.cps.toList.map (· - 97)
theorem untxt_txt (a : List Nat) : untxt (txt a) = a := by
  unfold untxt
  rw [txt_tl, List.map_map]
  refine (List.map_congr_left (g := id) fun x _ => ?_).trans (List.map_id _)
  show 97 + x - 97 = x
  omega
/-- marks, each once, sorted -/
theorem sort_up {M : List (List Nat)} (hn : M.Nodup) {ys : List Str} (hp : ys.Perm (M.map txt)) (hs : ys.Pairwise fun a b => a.cps.toList ≤ b.cps.toList) : ∃ M' : List (List Nat), ys = M'.map txt ∧ M'.Perm M ∧ M'.Pairwise (· < ·) := by
  have e : ys = (ys.map untxt).map txt := by
    rw [List.map_map]
    refine ((List.map_congr_left (g := id) fun y hy => ?_).trans (List.map_id _)).symm
    obtain ⟨a, _, rfl⟩ := List.mem_map.mp (hp.mem_iff.mp hy)
    show txt (untxt (txt a)) = txt a
    rw [untxt_txt]
  have hp2 : (ys.map untxt).Perm M := by
    have := hp.map untxt
    rw [List.map_map] at this
    refine this.trans (List.Perm.of_eq ((List.map_congr_left (g := id) fun x _ => untxt_txt x).trans (List.map_id _)))
  refine ⟨ys.map untxt, e, hp2, ?_⟩
  have hn2 : (ys.map untxt).Nodup := hp2.nodup_iff.mpr hn
  rw [e] at hs
  have h3 := List.pairwise_map.mp hs
  exact (h3.and hn2).imp fun {a b} ⟨h1, h2⟩ => (txt_le h1).resolve_right h2
theorem in_txt {d : List Nat} {M : List (List Nat)} : inV (V.str (txt d)) ((M.map txt).map V.str) = decide (d ∈ M) := by
  rw [Bool.eq_iff_iff, decide_eq_true_iff]
  constructor
  · intro z
    obtain ⟨v, hv, hv2⟩ := List.any_eq_true.mp z
    obtain ⟨y, hy, rfl⟩ := List.mem_map.mp hv
    obtain ⟨x, hx, rfl⟩ := List.mem_map.mp hy
    have e : txt x = txt d := by
      unfold eqV at hv2
      exact eq_of_beq hv2
    rw [← txt_inj e]
    exact hx
  · intro z
    refine List.any_eq_true.mpr ⟨.str (txt d), List.mem_map.mpr ⟨_, List.mem_map.mpr ⟨d, z, rfl⟩, rfl⟩, ?_⟩
    unfold eqV
    exact beq_self_eq_true _
theorem low_nil : Low [] := fun _ h => (nomatch h)
theorem low_getD {fs : List (List Nat)} (h : ∀ x ∈ fs, Low x) (i : Nat) : Low (fs.getD i []) := by
  rw [List.getD_eq_getElem?_getD]
  cases e : fs[i]? with
  | none => exact low_nil
  | some x => exact h x (List.mem_of_getElem? e)
theorem renRows_low {fs : List (List Nat)} {ks : List Known} {n : Nat} (h1 : ∀ r ∈ ks, Low r.1) (h2 : ∀ x ∈ fs, Low x) : ∀ r ∈ renRows fs ks n, LowR r := fun r hr => by
  obtain ⟨i, _, rfl⟩ := List.mem_map.mp hr
  refine ⟨?_, fun x hx => ?_⟩
  · show Low (ks.getD i ([], false)).1
    rw [List.getD_eq_getElem?_getD]
    cases e : ks[i]? with
    | none => exact low_nil
    | some x => exact h1 x (List.mem_of_getElem? e)
  · have hx : (if (ks.getD i ([], false)).2 = true then some (fs.getD (cntT ks i) []) else none) = some x := hx
    split at hx
    · cases hx
      exact low_getD h2 _
    · cases hx
theorem rens_low {L m k : Nat} (hL : 0 < L) (hL2 : L ≤ 26) : ∀ x ∈ rens L m k, Low x := fun x hx => by
  obtain ⟨i, _, rfl⟩ := List.mem_map.mp hx
  intro d hd
  have := (mk0_markOf (L := L) (n := renN L m k i) (k := k) hL).lt d hd
  omega
theorem isi_tup {K : PySem.W.Frag} {p : Addr} {xs : List V} {H : Hp} {Q : VK} (h : H p = some (.tup xs)) (q : Q (.bl true) H) : rIsi K [.ref p, .ty "tuple"] H Q := rIsi_of (.base (.tup h)) (by decide +kernel) q
theorem TupsAt.mem {α : Type} {H : Hp} {qs : List Addr} {rs : List α} {f : α → List V} (t : TupsAt H qs (rs.map f)) : ∀ v ∈ refs qs, ∃ q r, v = .ref q ∧ r ∈ rs ∧ H q = some (.tup (f r)) := fun v hv => by
  obtain ⟨q, hq, rfl⟩ := List.mem_map.mp hv
  obtain ⟨i, hi, rfl⟩ := List.mem_iff_getElem.mp hq
  have hi2 : i < rs.length := by have := t.len; rw [List.length_map] at this; omega
  exact ⟨_, rs[i], rfl, List.getElem_mem hi2, t.at_ i _ _ (List.getElem?_eq_getElem hi) (by rw [List.getElem?_map, List.getElem?_eq_getElem hi2]; rfl)⟩
/-- one's own list is changed, what is new forgotten -/
theorem trim_put {H H' : Hp} {p : Addr} {xs ys : List V} (c : Clo H) (hp : H p = some (.lst xs)) (e : Ex H H') : Trim H (upd H' p (.lst ys)) (upd H p (.lst ys)) := by
  have k := Kp.set (o := .lst ys) c hp rfl
  exact ⟨Ex.both e, k.tup, k.frz, k.tbl, k.clo⟩
theorem clo_setL {H : Hp} {p : Addr} {xs : List V} {o : HO} (c : Clo H) (hp : H p = some (.lst xs)) (ho : plainO o = true) : Clo (upd H p o) := clo_set c (fun x z => by rw [hp] at z; cases z) ho
theorem clo_setD {H : Hp} {p : Addr} {xs : List (Key × V)} {o : HO} (c : Clo H) (hp : H p = some (.dK xs)) (ho : plainO o = true) : Clo (upd H p o) := clo_set c (fun x z => by rw [hp] at z; cases z) ho
theorem Kp.setD {H : Hp} {p : Addr} {xs : List (Key × V)} {o : HO} (c : Clo H) (hp : H p = some (.dK xs)) (ho : plainO o = true) : Kp H (upd H p o) := by
  refine ⟨fun _ _ h => h, fun a ys h => ?_, fun a ob u h => ?_, fun a ps h => ⟨#[], ?_⟩, clo_set c (fun x z => by rw [hp] at z; cases z) ho⟩
  · rw [upd_ne (fun e => by rw [e, hp] at h; cases h)]; exact h
  · rw [upd_ne (fun e => by rw [e, hp] at h; cases h)]; exact h
  · rw [upd_ne (fun e => by rw [e, hp] at h; cases h), h, Array.append_empty]
theorem trim_putD {H H' : Hp} {p : Addr} {xs : List (Key × V)} {o : HO} (c : Clo H) (hp : H p = some (.dK xs)) (e : Ex H H') (ho : plainO o = true) : Trim H (upd H' p o) (upd H p o) := by
  have k := Kp.setD (o := o) c hp ho
  exact ⟨Ex.both e, k.tup, k.frz, k.tbl, k.clo⟩
theorem slice_txt_from {ds : List Nat} {j : Int} (h : 0 ≤ j) : Txt.slice (txt ds) (some j) none = txt (ds.drop j.toNat) := by
  unfold txt
  rw [slice_from h, ← List.map_drop]
theorem cps_app (x y : Str) : (x ++ y).cps.toList = x.cps.toList ++ y.cps.toList := by
  rw [PySem.Str.cps_append, Array.toList_append]
def lowAt {α : Type} (M : List α) (i : Nat) : Option α := if i = 0 then none else M[i - 1]?
theorem rens_up {L m k : Nat} (hL : 0 < L) (x : Long L m k) : (rens L m k).Pairwise (· < ·) := by
  unfold rens
  refine List.pairwise_map.mpr ?_
  refine List.Pairwise.imp_of_mem (R := (· < ·)) (fun {a b} ha hb hab => ?_) List.pairwise_lt_range
  have h1 := renN_lt x (List.mem_range.mp ha)
  have h2 := renN_lt x (List.mem_range.mp hb)
  have h3 : renN L m k a < renN L m k b := by
    have h4 := renN_mono (L := L) (m := m) (k := k) (show a + 1 ≤ b from hab)
    have h5 : renN L m k a + 1 ≤ renN L m k (a + 1) := by
      unfold renN
      have h6 : (a + 1 + 1) * L ^ k = (a + 1) * L ^ k + L ^ k := by rw [Nat.succ_mul (a + 1)]
      rw [h6]
      have h7 := x.gt
      rw [← Nat.add_div_right _ (show 0 < m + 1 by omega)]
      exact Nat.div_le_div_right (by omega)
    omega
  refine (lt_whole hL (mk0_markOf (n := renN L m k a) (k := k) hL) (mk0_markOf (n := renN L m k b) (k := k) hL) (markOf_len _ _ _) (markOf_len _ _ _)).mpr ?_
  rw [whole_mark h1.2, whole_mark h2.2]
  exact h3
theorem rens_mk {L m k : Nat} (hL : 0 < L) (x : Long L m k) : ∀ n ∈ rens L m k, Mk0 L n ∧ n ≠ [] ∧ n.length ≤ k := fun n hn => by
  obtain ⟨i, hi, rfl⟩ := List.mem_map.mp hn
  have h := renN_lt x (List.mem_range.mp hi)
  exact ⟨mk0_markOf hL, mark_ne h.1 h.2, markOf_len _ _ _⟩
theorem getD_at {α : Type} {l : List α} {i : Nat} {d : α} (h : i < l.length) : l.getD i d = l[i] := by rw [List.getD_eq_getElem?_getD, List.getElem?_eq_getElem h]; rfl
theorem renRows_old {fs : List (List Nat)} {ks : List Known} : (renRows fs ks ks.length).map (·.1) = ks.map (·.1) := by
  unfold renRows
  rw [List.map_map]
  refine List.ext_getElem (by simp) fun i h1 h2 => ?_
  have hi : i < ks.length := by simpa using h2
  rw [List.getElem_map, List.getElem_map, List.getElem_range]
  show (ks.getD i ([], false)).1 = _
  rw [getD_at hi]
theorem none_of {H H' : Hp} {a : Addr} (e : Ex H H') (h : H' a = none) : H a = none := by
  cases z : H a with
  | none => rfl
  | some o =>
    rw [e a o z] at h
    cases h
end Sm
/-! SmExc: a caught exception that stays at hand behind its suite; calls within a suite that raise nothing. -/
namespace Sm
open PySem PySem.Spec PyProof.Rows L2
/-- at a: an exception of the class cls, its own dict at d -/
def ExT (cls : Value) (d : Option Addr) (a : Addr) : HO := .ext fun h => ∃ (oe : Obj) (vs : Array Value), h.get? a = some oe ∧ Zc cls d oe ∧ oe.data = .fields vs
theorem exT_ok {P : Program} {w : World} {H : Hp} {h : Heap} {a : Addr} {cls : Value} {d : Option Addr} {oe : Obj} {vs : Array Value} (e : h.get? a = some oe) (z : Zc cls d oe) (hd : oe.data = .fields vs) : ObjOk P w H h a (ExT cls d a) :=
  ⟨⟨oe, vs, e, z, hd⟩, ⟨oe, e⟩, fun _ _ ⟨o, v, q, r⟩ k => ⟨o, v, k o q, r⟩⟩
theorem exT_at {P : Program} {w : World} {H : Hp} {h : Heap} {a : Addr} {cls : Value} {d : Option Addr} (hok : HOk P w H h) (e : H a = some (ExT cls d a)) : ∃ (oe : Obj) (vs : Array Value), h.get? a = some oe ∧ Zc cls d oe ∧ oe.data = .fields vs := by
  have x : ObjOk P w H h a (ExT cls d a) := hok a _ e
  exact x.1
theorem exT_ne_tup {cls : Value} {d : Option Addr} {a : Addr} {xs : List V} : ExT cls d a ≠ .tup xs := fun z => by
  have z' : HO.ext _ = HO.tup xs := z
  cases z'
section
variable {X : Cx} {pins : List (Addr × Obj)} {σ : L2.St} {H : Hp} {s : Shared}
theorem inv_suiteT (I : Inv X pins σ H s) {a : Addr} {oe : Obj} {vs : Array Value} {cls : Value} {d : Option Addr} (ha : s.heap.get? a = some oe) (hz : Zc cls d oe) (hd : oe.data = .fields vs) (na : H a = none) (nL : a ≠ X.env.locals) (n0 : X.s_0.heap.get? a = none) (np : ∀ p ∈ X.pn ++ pins, p.1 ≠ a) :
    Inv (X.suite a (X.pn ++ pins)) [] σ (upd H a (ExT cls d a)) s := by
  refine ⟨I.ok.suite _ _, I.os, I.bare, ⟨I.base.keep, I.base.slot, fun b o e n hx => ?_, I.base.there, fun b xs e => ?_, fun b o u e => ?_, fun b ps e => ?_⟩, I.loc, I.cell, ?_, fun x c e => ?_, fun p hp => ?_, fun b o e => ?_, I.len⟩
  · rw [upd_ne (fun z => by rw [z, n0] at e; cases e)]
    exact I.base.free b o e n hx
  · have q := I.base.tups b xs e
    rw [upd_ne (ne_of_none q na)]; exact q
  · have q := I.base.frzs b o u e
    rw [upd_ne (ne_of_none q na)]; exact q
  · obtain ⟨m, q⟩ := I.base.tbls b ps e
    exact ⟨m, by rw [upd_ne (ne_of_none q na)]; exact q⟩
  · show upd H a _ X.env.locals = none
    rw [upd_ne (Ne.symm nL)]; exact I.free
  · have q := I.freeC x c e
    rw [upd_ne (fun z => ?_)]
    · exact q
    · obtain ⟨v, hv⟩ := I.cell x c e
      obtain ⟨o1, h1, h2⟩ := hv
      rw [z, ha] at h1
      cases h1
      rw [hd] at h2
      simp at h2
  · have hp' : p ∈ X.pn ++ pins := by
      have : p ∈ (X.pn ++ pins) ++ ([] : List (Addr × Obj)) := hp
      rwa [List.append_nil] at this
    obtain ⟨h1, h2, h3, h4, h5⟩ := I.pin p hp'
    exact ⟨h1, by rw [upd_ne (np p hp')]; exact h2, h3, h4, h5⟩
  · by_cases hb : b = a
    · subst hb
      rw [upd_same] at e
      cases e
      exact exT_ok ha hz hd
    · rw [upd_ne hb] at e
      exact (I.hok b o e).stay (fun c v _ q => q) (fun c q => by rw [upd_ne (ne_of_none q na)]; exact q) fun c xs q => by rw [upd_ne (ne_of_none q na)]; exact q
theorem inv_unsuiteT {a : Addr} {pn' : List (Addr × Obj)} (I : Inv (X.suite a (X.pn ++ pins)) pn' σ H s) (ok : X.Ok) : Inv X pins σ H s :=
  ⟨ok, I.os, I.bare, I.base, I.loc, I.cell, I.free, I.freeC, fun p hp => I.pin p (List.mem_append_left _ hp), I.hok, I.len⟩
end
/-- what the clause 'except x as n' wishes of an exception of the body; the exception is known from then on -/
def wAsT (K : PySem.W.Frag) (c : Value) (i : Nat) (ts : TS) (Wout : WX) (D : Ends) : WX := fun cls d σ H =>
  ∃ b, PySem.W.exmOne K cls c = some b ∧ (b = true → ∀ a, H a = none → ts { nx := fun σ' H' => D.nx (σ'.set i none) H', rt := D.rt, bk := fun σ' H' => D.bk (σ'.set i none) H', ct := fun σ' H' => D.ct (σ'.set i none) H' } (σ.set i (some (.ref a))) (upd H a (ExT cls d a))) ∧
    (b = false → Wout cls d σ H)
def tTryT (K : PySem.W.Frag) (c : Value) (i : Nat) (ts : TS) (Wout : WX) (tb : WX → TS) : TS := fun D σ H => tb (wAsT K c i ts Wout D) D σ H
section
variable {X : Cx} {x n : Str} {c : Value} {i : Nat} {body suite : List Stmt} {b₀ : Stmt} {np pos pos' : Pos} {tb : WX → TS} {ts : TS} {Wout : WX}
theorem ps_try_asT (hs : X.stack = X.env :: X.outer) (hf : X.env.frame = some X.env.locals) (hex : X.ex = []) (hN : X.N.Nodup) (hi : X.N[i]? = some n) (hln : X.env.kindOf n = some .local) (hc : Names X x c) (tk : Takes X Wout)
    (hb : ∀ (W : WX) (pn : List (Addr × Obj)) (xe : Value → Shared → Prop), Takes (X.tr pn xe) W → PassesOwn (model X.prog X.w) X.A X.env xe → PSs (X.tr pn xe) body (tb W))
    (hsu : ∀ (a : Addr) (pn : List (Addr × Obj)), PSs (X.suite a pn) (b₀ :: suite) ts) :
    PS X (.Try body [.ExceptHandler (some (.Name x np)) (some n) (b₀ :: suite) pos'] [] [] pos) (tTryT X.K c i ts Wout tb) := by
  refine ⟨fun pins s σ H D I h => ?_⟩
  have ok := I.ok
  have hfr : X.A.frames = some (X.env :: X.outer) := by rw [ok.frames, hs]
  have hloc : Loc X.env.scope n := .inl hln
  refine wpAny_Try_except ?_
  refine wpAny_mono ((hb (wAsT X.K c i ts Wout D) (X.pn ++ pins) (fun e s₁ => wpAny (model X.prog X.w) X.A (noteFrame e X.env) (fun _ s₂ => wpAny (model X.prog X.w) X.A (setFlight e none) (fun _ s₃ =>
    wpAny (model X.prog X.w) X.A (handleBy e X.env [.ExceptHandler (some (.Name x np)) (some n) (b₀ :: suite) pos']) (SP X pins D) X.xe s₃) X.xe s₂) X.xe s₁) (fun u s' xx => ?_) PassesOwn.looking).run [] s σ H D (I.toTry _) h) (fun f s1 hsp => ?_) (fun e s1 he => he)
  · obtain ⟨a, B, sI, pins', σ', H', cls, d, rfl, J', nb, up, sky, na, os, ag, b, hb1, hyes, hno⟩ := xx
    have J : Inv X pins σ' H' sI := J'.ofTry ok
    have sky' : Sky B (X.env :: X.outer) a (Zc cls d) X.env.locals s'.heap := by rw [← hs]; exact sky
    show wpAny (model X.prog X.w) X.A (noteFrame (.ref a) X.env) _ _ _
    refine Sky.land Zc.steady hfr hf sky' fun h3 fl3 up3 => ?_
    have J3 : Inv X pins σ' H' { s' with heap := h3 } := J.landed nb fl3.1 (up.trans up3) os ag
    obtain ⟨oe3, vs3, he3, hz3, hd3⟩ := fl3.there
    have notFr : ∀ {h : Heap} {o : Obj} {vs : Array Value}, h.FunFrames B (X.env :: X.outer) → h.get? a = some o → o.data = .fields vs → a ∉ frs (X.env :: X.outer) := fun {h o vs} ff e dd hm => by
      obtain ⟨_, o', e', hnf⟩ := ff.mem hm
      rw [e] at e'; cases e'
      exact hnf _ dd
    have nfr := notFr fl3.2.2.1 he3 hd3
    have nL : a ≠ X.env.locals := fun z => nfr (List.mem_filterMap.mpr ⟨X.env, List.mem_cons_self, by rw [hf, z]⟩)
    have nF : a ∉ X.fs := fun hm => by
      obtain ⟨e, he, q⟩ := List.mem_filterMap.mp hm
      exact nfr (List.mem_filterMap.mpr ⟨e, List.mem_cons_of_mem _ he, q⟩)
    have nI : sI.heap.get? a = none := by
      cases q : sI.heap.get? a with
      | none => rfl
      | some o =>
        have q2 := nb a o q (by rw [hs]; exact nfr)
        rw [fl3.2.1] at q2
        cases q2
    have n0 : X.s_0.heap.get? a = none := by
      cases q : X.s_0.heap.get? a with
      | none => rfl
      | some o =>
        obtain ⟨o', q2⟩ := J.base.there a o q (by rw [hex]; simp)
        rw [nI] at q2
        cases q2
    have npn : ∀ p ∈ X.pn ++ pins, p.1 ≠ a := fun p hp z => by
      have q2 := (J.pin p hp).1
      rw [z, nI] at q2
      cases q2
    have S3 := J3.suite he3 hd3 na nL nF
    refine wpAny_handleBy_cons (codeAny_handlers_test ?_) (by intro q; cases q)
    have LT : PySem.W.Looks (model X.prog X.w) h3 (typeOf (.ref a)) cls := fun A Q E s k q => wpAny_typeOf_ref (k _ _ he3) (by rw [hz3.1]; exact q)
    have LM := PySem.W.exm_one (M := model X.prog X.w) (J3.kIn) LT hb1
    have test : ∀ {Q : Value → Shared → Prop} {E : Value → Shared → Prop}, Q c { s' with heap := h3 } → wpAny (model X.prog X.w) (X.A.mark (some (.ref a))) (eval (.Name x np) X.env) Q E { s' with heap := h3 } := fun {Q E} q => by
      obtain ⟨hg, hdbg, hm | ⟨hm, hv, hnn⟩⟩ := hc
      · exact ld_glob (X := X.suite a ((a, oe3) :: (X.pn ++ pins))) S3 hg hm q hdbg
      · exact ld_blt (X := X.suite a ((a, oe3) :: (X.pn ++ pins))) S3 hg hm hv q hnn hdbg
    refine test (LM.here ?_)
    cases b with
    | true =>
      refine codeAny_handlers_suite_as ?_
      refine HandSPX.lands_againZ fl3 fun h4 fl4 up4 => ?_
      have J4 : Inv X pins σ' H' { s' with heap := h4 } := J.landed nb fl4.1 ((up.trans up3).trans up4) os ag
      obtain ⟨oe4, vs4, he4, hz4, hd4⟩ := fl4.there
      have S4 := inv_suiteT J4 he4 hz4 hd4 na nL n0 npn
      refine store_ok (X := X.suite a (X.pn ++ pins)) (v := .ref a) S4 hN hi hloc rfl (fun s5 S5 => ?_) (.inr hln)
      refine wpAny_mono ((hsu a (X.pn ++ pins)).run [] s5 _ _ _ S5 (hyes rfl a na)) (fun f s6 hsp => ?_) (fun _ _ z => False.elim z)
      have end_ : ∀ {σ6 : L2.St} {H6 : Hp} {Q : Shared → Prop}, Inv (X.suite a (X.pn ++ pins)) [] σ6 H6 s6 → (∀ s7, Inv X pins (σ6.set i none) H6 s7 → Q s7) →
          wpAny (model X.prog X.w) X.A (do bindName X.env n .none; unbindBehindTheSuite X.env n pos') (fun _ s7 => Q s7) X.xe s6 := fun {σ6 H6 Q} S6 hq => gone_ok (inv_unsuiteT S6 ok) hN hi hln hq
      cases f with
      | next =>
        obtain ⟨σ6, H6, S6, q6⟩ := hsp
        exact end_ S6 fun s7 J7 => ⟨_, _, J7, q6⟩
      | brk =>
        obtain ⟨σ6, H6, S6, q6⟩ := hsp
        exact end_ S6 fun s7 J7 => ⟨_, _, J7, q6⟩
      | cont =>
        obtain ⟨σ6, H6, S6, q6⟩ := hsp
        exact end_ S6 fun s7 J7 => ⟨_, _, J7, q6⟩
      | ret u =>
        obtain ⟨v6, σ6, H6, S6, r6, q6⟩ := hsp
        exact end_ S6 fun s7 J7 => ⟨_, _, _, J7, r6, q6⟩
    | false =>
      show wpAny _ X.A (handleBy (.ref a) X.env []) _ _ _
      refine wpAny_handleBy_nil ?_
      obtain ⟨k1, k2, k3, oe, vs, T, oT, ts', he, hz, hd, h1, hr⟩ := id fl3
      unfold PySem.passOn
      refine wpAny_bind (wpAny_field he hd h1 ?_)
      rw [if_neg (show ¬ ((Value.ref T == Value.none) = true) from by simp)]
      have fin : wpAny (model X.prog X.w) X.A (setFlight (.ref a) X.env.frame) (fun _ s4 => wpAny (model X.prog X.w) X.A (throw (.ref a) : Sem Flow) (SP X pins D) X.xe s4) X.xe { s' with heap := h3 } := by
        rw [hf]
        refine HandSPX.setFlight_upZ fl3 fun h4 hh4 up4 => wpAny_throw (tk _ _ ?_)
        exact ⟨a, B, sI, pins, σ', H', cls, d, rfl, J, nb, (up.trans up3).trans up4, .inr (.inr (by rw [hs]; exact hh4)), na, os, ag, hno rfl⟩
      first
        | exact wpAny_bind (wpAny_pure (wpAny_bind fin))
        | exact wpAny_bind fin
  · cases f with
    | next =>
      obtain ⟨σ', H', J', q⟩ := hsp
      exact wpAny_execs_nil ⟨σ', H', J'.ofTry ok, q⟩
    | brk =>
      obtain ⟨σ', H', J', q⟩ := hsp
      exact ⟨σ', H', J'.ofTry ok, q⟩
    | cont =>
      obtain ⟨σ', H', J', q⟩ := hsp
      exact ⟨σ', H', J'.ofTry ok, q⟩
    | ret u =>
      obtain ⟨v, σ', H', J', r, q⟩ := hsp
      exact ⟨v, σ', H', J'.ofTry ok, r, q⟩
end
/-! ### isinstance of a known exception -/
section
open PySem.W PySem.Calls
variable {prog : Program} {w : World} {A : Around} {E : Value → Shared → Prop} {s : Shared} {K : PySem.W.Frag} {x D : Addr} {ox : Obj} {od : Option Obj}
theorem findObj_dataD {C : Addr} {name : Str} {a g : Value} (hc : (clsIn K C).isSome = true) (ha : findIn K (.ref C) name = some (some a)) (hg : specialIn K a "__get__" = some (some g)) (ht : takesIn K a = some true) : findObj K C od name = some (.bind g a) := by
  obtain ⟨cd, hc⟩ := Option.isSome_iff_exists.mp hc
  unfold findObj
  rw [hc, Option.bind_some, ha, Option.bind_some]
  simp [hg, ht]
theorem kin_classD {Q : Option Value → Shared → Prop} (C : ExcC K D) (X : K.In s.heap) (I : InstAt s.heap x ox D od) (h : Q (some (.ref D)) { s with toks := s.toks + 1 }) : wpAny (model prog w) A (getAttr? (.ref x) "__class__") Q E s := by
  obtain ⟨hga, hgt, hsub, hdct, ha, hn, htk, hm⟩ := C
  have hf : findObj K D od "__class__" = some (.bind (.builtin "getset_descriptor.__get__") (.builtin "object.__class__")) := findObj_dataD (by obtain ⟨cd, hc, _⟩ := any_some hdct; rw [hc]; rfl) ha hn htk
  obtain ⟨hp, g, d, t, os⟩ := s
  have L0 := I.type (M := model prog w)
  have L1 := looks_findIn (M := model prog w) X hga
  have L2 := looks_findIn (M := model prog w) X hgt
  have L3 := looks_find (M := model prog w) X I hf
  have sub : Looks (model prog w) hp (isInstance (.ref x) (.type "BaseException")) true := L0.andThen (looks_subIn X hsub)
  have hx0 : (false && onTheHeap (Value.builtin "BaseException.__getattribute__")) = false := rfl
  have hx2 : (Value.builtin "BaseException.__getattribute__" == Value.builtin "object.__getattribute__") = false := by decide +kernel
  have hx1 : (onTheHeap (Value.ref D) && Value.builtin "BaseException.__getattribute__" == Value.builtin "object.__getattribute__") = false := by rw [hx2]; rfl
  unfold getAttr? getAttrBy? getAttrBy
  refine wpAny_bind (wpAny_mkText (wpAny_bind (wpAny_attempt (wpAny_holding (wpAny_bind (L0.at (wpAny_bind (L1.at ?_))))))))
  show wpAny _ _ (if (onTheHeap (Value.ref D) && Value.builtin "BaseException.__getattribute__" == Value.builtin "object.__getattribute__") = true then _ else _) _ _ _
  rw [hx1, if_neg Bool.false_ne_true]
  unfold getAttrByItsOwn hookBefore
  refine wpAny_bind ?_
  rw [if_pos (show onTheHeap (Value.ref D) = true from rfl)]
  refine L2.at ?_
  refine wpAny_bind (wpAny_attempt (wpAny_holding ?_))
  unfold callGetattribute
  rw [hx0, if_neg Bool.false_ne_true]
  unfold boundAndCalled
  rw [PySem.F.excAttr_ValueError.ga.bind (.ref x)]
  refine wpAny_bind (wpAny_pure ?_)
  show wpAny _ _ (call (.builtin "BaseException.__getattribute__") [.ref x, .str "__class__" t]) _ _ _
  refine wpAny_call (codeAny_call_builtin PySem.F.excAttr_ValueError.ga.plain PySem.F.entry_bexc_ga ?_)
  refine @check_slot (model prog w) _ _ ⟨hp, g, d, t + 1, os⟩ "BaseException.__getattribute__" "BaseException" "__getattribute__" (.ref x) [.str "__class__" t] [] _ (by decide +kernel) (by decide +kernel) sub (PySem.F.args_bexc_ga (.ref x) (.str "__class__" t)) ?_
  unfold Builtin.«object.__getattribute__»
  refine wpAny_bind (wpAny_of_eq (a := ((Value.ref x : Value), [Value.str "__class__" t])) (by first | rfl | (simp only [slotArgs]; rfl)) ?_)
  refine wpAny_bind (wpAny_pure (wpAny_bind (L0.at (wpAny_bind (L3.at ?_)))))
  show wpAny _ _ (holding [Value.builtin "object.__class__"] (call (.builtin "getset_descriptor.__get__") [.builtin "object.__class__", .ref x, .ref D]) >>= ret) _ _ _
  refine wpAny_bind (wpAny_holding (wpAny_call (class_get (s := ⟨hp, g, d, t + 1, os⟩) (ox := ox) (od := od) X I hm ?_)))
  refine wpAny_pure ?_
  show wpAny _ _ (handedOut (.ref D)) _ _ _
  rw [handedOut_of (v := .ref D) rfl]
  first
    | exact wpAny_pure (wpAny_pure h)
    | exact wpAny_pure h
    | exact wpAny_pure (wpAny_bind (wpAny_pure (wpAny_pure h)))
theorem kitx_excD (C : ExcC K D) : KitX K (.ref x) (.ref D) (fun h => ∃ od, InstAt h x ox D od) where
  ty := fun _ _ _ ⟨_, I⟩ => I.type
  it := fun _ _ X _ => by
    obtain ⟨cdD, hcD, _⟩ := any_some C.hd
    unfold clsIn at hcD
    split at hcD
    · rename_i c' d' cd' sl' ho
      intro A' Q' E' s' k q
      unfold isType loadHead
      exact wpAny_bind (wpAny_loadPart (k _ _ (X _ _ ho)) (wpAny_pure q))
    · cases hcD
  ne := fun h tp dd its n sl X htp => by
    obtain ⟨cdD, hcD, _⟩ := any_some C.hd
    refine Bool.eq_false_iff.mpr fun q => ?_
    have e : D = tp := Value.ref.inj (beq_iff_eq.mp q)
    subst e
    unfold clsIn at hcD
    split at hcD
    · rename_i c' d' cd' sl' ho
      have z := (X _ _ ho).symm.trans htp
      cases z
    · cases hcD
  ca := fun X ⟨_, I⟩ k => kin_classD C X I k
end
/-- the exception's own dict is known, where it has one -/
def XdOk (H : Hp) (d : Option Addr) : Prop := ∀ dd, d = some dd → ∃ fs, H dd = some (.xd fs)
theorem xdOk_none {H : Hp} : XdOk H none := fun _ h => nomatch h
theorem xdOk_some {H : Hp} {dd : Addr} {fs : List (Str × V)} (h : H dd = some (.xd fs)) : XdOk H (some dd) := fun _ e => by
  cases e
  exact ⟨_, h⟩
/-- isinstance(e, c), e a known exception -/
def rIsT (K : PySem.W.Frag) : List V → Hp → VK → Prop := fun xs H Q => ∃ (a D : Addr) (d : Option Addr) (c : V) (cv : Value) (b : Bool), xs = [.ref a, c] ∧ H a = some (ExT (.ref D) d a) ∧ XdOk H d ∧ ExcC K D ∧ (∀ u, RelV c u → u = cv) ∧ PySem.W.kitOne K (.ref D) cv = some b ∧ Q (.bl b) H
/-- .., c a tuple of classes -/
def rIsTT (K : PySem.W.Frag) : List V → Hp → VK → Prop := fun xs H Q => ∃ (a D tp : Addr) (d : Option Addr) (cs : List V) (ws : List Value) (b : Bool), xs = [.ref a, .ref tp] ∧ H a = some (ExT (.ref D) d a) ∧ XdOk H d ∧ ExcC K D ∧ H tp = some (.tup cs) ∧ Paired ClsV cs ws ∧ PySem.W.kitAny K (.ref D) ws = some b ∧ Q (.bl b) H
/-- e.f, e a known exception -/
def tFldT (K : PySem.W.Frag) (f : Str) (te : TE) : TE := fun σ H Q => te σ H fun x H1 => ∃ (a D dd : Addr) (fs : List (Str × V)) (v : V), x = .ref a ∧ H1 a = some (ExT (.ref D) (some dd) a) ∧ H1 dd = some (.xd fs) ∧ ExcC K D ∧ NoAttr K D f ∧ fs.lookup f = some v ∧ Q v H1
section
variable {X : Cx} {pins : List (Addr × Obj)} {σ : L2.St} {H : Hp} {s : Shared}
theorem instT (I : Inv X pins σ H s) {a D : Addr} {d : Option Addr} (e : H a = some (ExT (.ref D) d a)) (hd : XdOk H d) : ∃ (oe : Obj) (od : Option Obj), PySem.W.InstAt s.heap a oe D od := by
  obtain ⟨oe, vs, h1, hz, h2⟩ := exT_at I.hok e
  cases d with
  | none => exact ⟨oe, none, h1, hz.1, by unfold PySem.W.notCls; rw [h2] <;> rfl, by rw [hz.2]; trivial⟩
  | some dd =>
    obtain ⟨fs, hx⟩ := hd dd rfl
    have hx : ObjOk X.prog X.w H s.heap dd (.xd fs) := I.hok dd _ hx
    obtain ⟨mA, hns, _⟩ := hx
    obtain ⟨od, ho, _⟩ := lookIn_ns hns
    exact ⟨oe, some od, h1, hz.1, by unfold PySem.W.notCls; rw [h2] <;> rfl, by rw [hz.2]; exact ho⟩
theorem call_isT : CallR X (.builtin "isinstance") (rIsT X.K) := by
  intro pins s σ H xs us Q I r h
  obtain ⟨a, D, d, c, cv, b, rfl, ha, hd, C, hcv, e, q⟩ := h
  obtain ⟨u1, u2, rfl, r1, r2⟩ := vals2 r
  cases (show u1 = Value.ref a from r1)
  have ec := hcv _ r2
  subst ec
  obtain ⟨oe, od, J⟩ := instT I ha hd
  exact PySem.W.kia_one (kitx_excD (ox := oe) C) I.kIn ⟨od, J⟩ e (fun z => nomatch z) fun tk => ⟨.bl b, H, I.tok tk, rfl, q⟩
theorem call_isTT : CallR X (.builtin "isinstance") (rIsTT X.K) := by
  intro pins s σ H xs us Q I r h
  obtain ⟨a, D, tp, d, cs, ws, b, rfl, ha, hd, C, hT, k, e, q⟩ := h
  obtain ⟨u1, u2, rfl, r1, r2⟩ := vals2 r
  cases (show u2 = Value.ref tp from r2)
  cases (show u1 = Value.ref a from r1)
  obtain ⟨oe, od, J⟩ := instT I ha hd
  obtain ⟨_, its, rv, o, h1, h2, n, h3⟩ := (show ObjOk _ _ H s.heap tp (.tup cs) from I.hok tp _ hT)
  have e3 := ClsV.all k rv
  subst e3
  obtain ⟨oc, od', dt, sl⟩ := o
  simp only at h2 h3
  subst h2 h3
  exact PySem.W.kia_tup (kitx_excD (ox := oe) C) I.kIn ⟨od, J⟩ h1 e (fun z => nomatch z) fun tk => ⟨.bl b, H, I.tok tk, rfl, q⟩
theorem pe_fldT {e : Expr} {te : TE} {f : Str} {pos : Pos} (he : PE X e te) (hb : attributeBase e f X.env (eval e X.env) = eval e X.env := by rfl) : PE X (.Attribute e f pos) (tFldT X.K f te) := by
  refine ⟨fun pins s σ H Q I h => ?_⟩
  refine attr_of hb (thn (he.run pins s σ H _ I h) fun u s1 hh => ?_)
  obtain ⟨x, H1, I1, rx, a, D, dd, fs, v, ex, ha, hx, C, hno, hl, q⟩ := hh
  subst ex
  obtain rfl : u = Value.ref a := rx
  obtain ⟨oe, vs, h1, hz, h2⟩ := exT_at I1.hok ha
  have hx : ObjOk X.prog X.w H1 s1.heap dd (.xd fs) := I1.hok dd _ hx
  obtain ⟨mA, hns, hr⟩ := hx
  obtain ⟨od, ho, hlk⟩ := lookIn_ns hns
  obtain ⟨u, hu, ru⟩ := RelO.some_of (v := v) (o := mA f) (by rw [← hl]; exact hr f)
  have J : PySem.W.InstAt s1.heap a oe D (some od) := ⟨h1, hz.1, by unfold PySem.W.notCls; rw [h2] <;> rfl, by rw [hz.2]; exact ho⟩
  exact HandSPX.exc_get I1.kIn J C.hg C.hk C.hs (PySem.W.findObj_own C.hd hno rfl (by rw [hlk, hu])) (handed_of ru) ⟨v, H1, I1.tok _, ru, q⟩
end
theorem isT_to {K : PySem.W.Frag} {H : Hp} {Q : VK} {a D C : Addr} {d : Option Addr} {b : Bool} (ha : H a = some (ExT (.ref D) d a)) (hd : XdOk H d) (c : ExcC K D) (k : PySem.W.kitOne K (.ref D) (.ref C) = some b) (q : Q (.bl b) H) : rIsT K [.ref a, .ref C] H Q :=
  ⟨a, D, d, _, _, b, rfl, ha, hd, c, fun _ h => h, k, q⟩
theorem isT_ty {K : PySem.W.Frag} {H : Hp} {Q : VK} {a D : Addr} {d : Option Addr} {b : Bool} {n : String} (ha : H a = some (ExT (.ref D) d a)) (hd : XdOk H d) (c : ExcC K D) (k : PySem.W.kitOne K (.ref D) (.type n) = some b) (q : Q (.bl b) H) : rIsT K [.ref a, .ty n] H Q :=
  ⟨a, D, d, _, _, b, rfl, ha, hd, c, fun _ h => h, k, q⟩
/-! ### defs that are called within a suite and raise nothing -/
structure FnQ (P : Program) (w : World) (K : PySem.W.Frag) (mg : Str → Option Value) (base : Heap) (CX : CXT) (k : Nat) (f : Addr) (fd : FuncData) (ps : List Str) (sp : Sp) : Prop where
  len : ∀ vs H Q E, sp vs H Q E → vs.length = ps.length
  run : ∀ (A : Around) (outer : List Env) (s : Shared) (H : Hp) (args : Args) (us : List Value) (vs : List V) (Q : VK) (E : XK), L2H.RoomH k A → Env0 P w K mg base A outer s H → BindsTo s fd args (ps.zip us) → Vals vs us → sp vs H Q E → codeAny (model P w) A (.call (.ref f) args) (CR CX outer P w H s Q E) s
/-- the context of such a def's body -/
abbrev cxQ (CX : CXT) (P : Program) (w : World) (K : PySem.W.Frag) (mg : Str → Option Value) (base : Heap) (N : List Str) (qual : Str) (scope : Scope) (f : Addr) (cd : Value) (A : Around) (outer : List Env) (s : Shared) (H : Hp) (E : XK) : Cx :=
  { cxOf CX P w K mg base N qual scope f cd A outer s H E with calm := false }
section
variable {CX : CXT} {P : Program} {w : World} {K : PySem.W.Frag} {mg : Str → Option Value} {base : Heap} {N ps : List Str} {qual : Str} {scope : Scope} {f : Addr} {cd : Value} {A : Around} {outer : List Env} {s s1 : Shared} {H : Hp} {E : XK} {us : List Value} {vs : List V} {sp : Sp} {k : Nat}
theorem env0_mark (e0 : Env0 P w K mg base A outer s H) : Env0 P w K mg base ({ A with handled := none } : Around) outer s H := ⟨e0.frames, e0.mod, e0.bs, e0.bsz, e0.funs, e0.frf, e0.hok, e0.bare⟩
theorem inv_startQ (S : FnScope N ps scope) (e0 : Env0 P w K mg base A outer s H) (hl : vs.length = ps.length) (r : Vals vs us)
    (x : InCallC s s.heap.objs.size (bindL (envOfC qual scope s.heap.objs.size f cd).kindOf (ps.zip us) fun _ => none) (cellsFrom (s.heap.objs.size + 1) scope.names []) (bindC (envOfC qual scope s.heap.objs.size f cd).kindOf (ps.zip us) fun _ => none) s1) :
    Inv (cxQ CX P w K mg base N qual scope f cd A outer s H E) [] (L2.start N vs) H s1 := by
  have I := inv_start (CX := CX) (A := ({ A with handled := none } : Around)) (E := E) S rfl (env0_mark e0) hl r x
  exact ⟨⟨I.ok.mod, I.ok.kind, I.ok.glob, I.ok.blt, I.ok.above, I.ok.inj, I.ok.has, I.ok.cab, (fun z => Bool.noConfusion (show false = true from z)), I.ok.frames, I.ok.stk, I.ok.exf, I.ok.bs, I.ok.bsz, I.ok.noex, I.ok.exfs, I.ok.funs, I.ok.frf⟩, I.os, I.bare, I.base, I.loc, I.cell, I.free, I.freeC, I.pin, I.hok, I.len⟩
theorem okQ {x : Str} {params : Arguments} {body : List Stmt} {dvs : List V} {kws : List (Str × V)} {fd : FuncData} (F : FunD K x qual params body scope dvs kws f fd) (S : FnScope N ps scope) (len : ∀ vs H Q E, sp vs H Q E → vs.length = ps.length)
    (hbody : ∀ (cdv : Value) (A : Around) (outer : List Env) (s : Shared) (H : Hp) (vs : List V) (Q : VK) (E : XK), L2H.RoomH k (A.deeper (envOfC qual scope s.heap.objs.size f cdv)) → sp vs H Q E →
      ∃ t, PSs (cxQ CX P w K mg base N qual scope f cdv A outer s H E) body t ∧ t { nx := fun _ H' => Q .non H', rt := Q } (L2.start N vs) H) : FnQ P w K mg base CX (k + 1) f fd ps sp := by
  obtain ⟨oc, od, dV, kV, doc, pm, an, cdv, ct, osl, rfl, lk, hcd, _, _⟩ := F.ex
  refine ⟨len, fun A outer s H args us vs Q E hr e0 hb r hsp => ?_⟩
  have hl := len _ _ _ _ hsp
  have KX : K.In s.heap := e0.mod.kin.keeps fun b o e => (e0.bs b o e).1
  have lim : s.heap.NoLimit := e0.mod.nolimit.keeps fun b o e => (e0.bs b o e).1
  have hkind : ∀ y ∈ ps.zip us, scope.names.lookup y.1 = some .local ∨ (scope.names.lookup y.1 = some .cell ∧ ((cellsFrom (s.heap.objs.size + 1) scope.names []).lookup y.1).isSome = true) := fun ⟨n, v⟩ hy => by
    rcases S.par n (List.of_mem_zip hy).1 with q | q
    · exact .inl q
    · exact .inr ⟨q, PySem.W.cellsFrom_some _ _ _ (.inl q)⟩
  refine codeAny_call_function hr.depth (KX _ _ lk) rfl S.co S.gen rfl (PySem.W.codeRec_of KX hcd) (hb _ _ _ _ ?_)
  refine wpAny_newFunctionEnv_cells S.kind hkind fun env he s1 x => ?_
  subst he
  refine ⟨lim.keeps x.toInCall.keep, codeAny_func ?_⟩
  obtain ⟨t, ht, hq⟩ := hbody cdv A outer s H vs Q E (hr.deeper _) hsp
  have I : Inv (cxQ CX P w K mg base N qual scope f cdv A outer s H E) [] (L2.start N vs) H s1 := inv_startQ S e0 hl r x
  refine wpAny_mono (ht.run [] s1 (L2.start N vs) H _ I hq) (fun fl s' hs => ?_) fun e s' hs => hs
  have fin : ∀ {σ' : L2.St} {H' : Hp} {v : V} {u : Value}, Inv (cxQ CX P w K mg base N qual scope f cdv A outer s H E) [] σ' H' s' → RelV v u → Q v H' → CE outer P w H s Q u s' :=
    fun {σ' H' v u} J rv q => ⟨v, H', J.os, J.bare, J.base, J.hok, rv, q⟩
  cases fl with
  | ret u =>
    obtain ⟨v, σ', H', J, rv, q⟩ := hs
    exact fin J rv q
  | next =>
    obtain ⟨σ', H', J, q⟩ := hs
    exact fin (v := V.non) (u := Value.none) J rfl q
  | brk =>
    obtain ⟨_, _, _, q⟩ := hs
    exact False.elim q
  | cont =>
    obtain ⟨_, _, _, q⟩ := hs
    exact False.elim q
end
theorem roomQ {k : Nat} {A : Around} {h : Option Value} (r : Room k A) : L2H.RoomH k (A.mark h) := ⟨r.dp, r.un⟩
structure FnGQ (P : Program) (w : World) (K : PySem.W.Frag) (mg : Str → Option Value) (base : Heap) (CX : CXT) (x : Str) (ps : List Str) (k : Nat) (sp : Sp) : Prop where
  ex : ∃ f fd, mg x = some (.ref f) ∧ PySem.W.keepIn K (.ref f) = true ∧ Binds K fd ps [] ∧ FnQ P w K mg base CX k f fd ps sp
theorem pe_Q {X : Cx} {CX : CXT} {j k : Nat} {ps : List Str} {sp : Sp} {x : Str} {p pos : Pos} {e : Expr} {es : List Expr} {t : TA} (G : FnGQ X.prog X.w X.K X.mg X.base CX x ps k sp) (hr : L2H.RoomH j X.A) (hjk : k ≤ j) (hg : Gl X x) (hx : Passes CX X E0) (ha : PA X (e :: es) t)
    (hdb : (x == ("__debug__" : Str)) = false := by decide) (he : starEach (e :: es) X.env = (false, eval e X.env) :: starEach es X.env := by rfl) (hpl : (backTo pos (starEach es X.env)).any (·.1) = false := by rfl) :
    PE X (.Call (.Name x p) (e :: es) [] pos) (tCall sp [] E0 t) := by
  obtain ⟨f, fd, hm, hk, hb, F⟩ := G.ex
  refine ⟨fun pins s σ H Q I h => ?_⟩
  refine wpAny_Call_Name_kw (ld_glob I hg hm ?_ hdb)
  refine PySem.W.callWith_K (h₀ := X.base) I.ok.mod.kin hk (thn (ha.run pos pins s σ H _ I h) fun us s1 ⟨vs, H1, I1, r, q⟩ => ⟨I1.kIn, ?_⟩) he hpl
  have q : sp (vs ++ []) H1 Q E0 := q
  rw [List.append_nil] at q
  have hl : us.length = ps.length := by rw [← r.length]; exact F.len _ _ _ _ q
  have b := hb s1 us I1.kIn (by rw [List.append_nil]; exact hl)
  rw [List.append_nil] at b
  refine wpAny_call (codeAny_mono (F.run X.A X.stack s1 H1 ⟨us, []⟩ us vs Q E0 (hr.mono hjk) I1.env0 b r q) fun r s' hq => ?_)
  cases r with
  | error e => exact hx pins σ H1 s1 e s' I1 hq
  | ok fl =>
    cases fl with
    | ret u => exact I1.after hq
    | next => exact False.elim hq
    | brk => exact False.elim hq
    | cont => exact False.elim hq
end Sm
/-! SmHand: sorted(d.items()) of texts by texts; hands. -/
namespace Sm
open PySem PySem.Spec PyProof.Rows L2
/-! ### sorted(d.items()) -/
def lexS (p q : Str × Str) : Bool := if p.1.cps.toList = q.1.cps.toList then decide (p.2.cps.toList < q.2.cps.toList) else decide (p.1.cps.toList < q.1.cps.toList)
theorem lexS_iff {p q : Str × Str} : lexS p q = true ↔ p.1.cps.toList < q.1.cps.toList ∨ (p.1.cps.toList = q.1.cps.toList ∧ p.2.cps.toList < q.2.cps.toList) := by
  unfold lexS
  by_cases e : p.1.cps.toList = q.1.cps.toList
  · rw [if_pos e, decide_eq_true_eq]
    exact ⟨fun h => .inr ⟨e, h⟩, fun h => h.elim (fun z => absurd z (by rw [e]; exact List.lt_irrefl _)) fun z => z.2⟩
  · rw [if_neg e, decide_eq_true_eq]
    exact ⟨fun h => .inl h, fun h => h.elim id fun z => absurd z.1 e⟩
theorem swo_lexS (k : Value → Str × Str) : SrtO.Swo fun v u => lexS (k v) (k u) := by
  have no : ∀ p q : Str × Str, lexS p q = false ↔ ¬ (p.1.cps.toList < q.1.cps.toList ∨ (p.1.cps.toList = q.1.cps.toList ∧ p.2.cps.toList < q.2.cps.toList)) := fun p q => by
    rw [← lexS_iff]
    cases lexS p q <;> simp
  refine ⟨fun x y h => ?_, fun x y z h1 h2 => ?_⟩
  · refine (no _ _).mpr fun g => ?_
    rcases lexS_iff.mp h with a | ⟨a, b⟩ <;> rcases g with c | ⟨c, d⟩
    · exact List.lt_asymm a c
    · rw [c] at a; exact List.lt_irrefl _ a
    · rw [a] at c; exact List.lt_irrefl _ c
    · exact List.lt_asymm b d
  · refine (no _ _).mpr fun g => ?_
    have a := (no _ _).mp h1
    have b := (no _ _).mp h2
    have a1 : (k x).1.cps.toList ≤ (k y).1.cps.toList := List.not_lt.mp fun z => a (.inl z)
    have b1 : (k y).1.cps.toList ≤ (k z).1.cps.toList := List.not_lt.mp fun z => b (.inl z)
    rcases g with c | ⟨c, d⟩
    · exact List.not_lt.mpr (List.le_trans a1 b1) c
    · have e1 : (k x).1.cps.toList = (k y).1.cps.toList := List.le_antisymm a1 (by rw [← c]; exact b1)
      have e2 : (k y).1.cps.toList = (k z).1.cps.toList := e1.symm.trans c.symm
      have a2 : (k x).2.cps.toList ≤ (k y).2.cps.toList := List.not_lt.mp fun z => a (.inr ⟨e1.symm, z⟩)
      have b2 : (k y).2.cps.toList ≤ (k z).2.cps.toList := List.not_lt.mp fun z => b (.inr ⟨e2.symm, z⟩)
      exact List.not_lt.mpr (List.le_trans a2 b2) d
/-- a tuple of two texts -/
def IsPairS (h : Heap) (v : Value) (x y : Str) : Prop := ∃ a o t u n, v = .ref a ∧ h.get? a = some o ∧ o.cls = .type "tuple" ∧ o.data = .seq #[.str x t, .str y u] n
theorem IsPairS.keeps {h h' : Heap} {v : Value} {x y : Str} (p : IsPairS h v x y) (k : ∀ b o, h.get? b = some o → o.cls = .type "tuple" → h'.get? b = some o) : IsPairS h' v x y := by
  obtain ⟨a, o, t, u, n, e, ho, hc, hd⟩ := p
  exact ⟨a, o, t, u, n, e, k a o ho hc, hc, hd⟩
section
variable {prog : Program} {w : World} {A : Around} {E : Value → Shared → Prop} {s : Shared}
theorem pairS_cmp {vs : List Value} {k : Value → Str × Str} (hp : ∀ v ∈ vs, IsPairS s.heap v (k v).1 (k v).2) : SrtO.Cmp prog w A s (tuples' true) (fun p => p.1 ∈ vs) (SrtO.lt2 fun v u => lexS (k v) (k u)) := by
  intro p q hm hm'
  have h1 := hp _ hm
  have h2 := hp _ hm'
  show wpAny (model prog w) A (keyLt' (tuples' true) p.1 q.1) (fun r s' => s' = s ∧ r = lexS (k p.1) (k q.1)) (fun _ _ => False) s
  unfold lexS
  generalize (k p.1).1 = x at h1 ⊢
  generalize (k p.1).2 = y at h1 ⊢
  generalize (k q.1).1 = x' at h2 ⊢
  generalize (k q.1).2 = y' at h2 ⊢
  obtain ⟨a, o, t, u, n, e, ho, hc, hd⟩ := h1
  obtain ⟨a', o', t', u', n', e', ho', hc', hd'⟩ := h2
  rw [e, e']
  refine PySem.W.kat_lt ho hd ho' hd' ?_
  show PySem.W.KatLex prog w A true (decide (2 < 2)) _ [(.str x t, .str x' t'), (.str y u, .str y' u')] 0 s
  refine PySem.W.kat_cons ((SeqRoads2.EqGives.str x x' t t').at _ _ prog w _ _ ?_)
  refine PySem.W.kat_go (fun e1 => ?_) (fun e1 => ?_)
  · have ex : x.cps.toList = x'.cps.toList := by simpa using e1
    refine PySem.W.kat_yes (PySem.W.kat_cons ((SeqRoads2.EqGives.str y y' u u').at _ _ prog w _ _ ?_))
    refine PySem.W.kat_go (fun e2 => ?_) (fun e2 => ?_)
    · have ey : y.cps.toList = y'.cps.toList := by simpa using e2
      have e3 : (if x.cps.toList = x'.cps.toList then decide (y.cps.toList < y'.cps.toList) else decide (x.cps.toList < x'.cps.toList)) = false := by
        rw [if_pos ex, ey]
        exact decide_eq_false (List.lt_irrefl _)
      exact PySem.W.kat_yes (PySem.W.kat_nil ⟨rfl, e3.symm⟩)
    · have e3 : (if x.cps.toList = x'.cps.toList then decide (y.cps.toList < y'.cps.toList) else decide (x.cps.toList < x'.cps.toList)) = decide (y.cps.toList < y'.cps.toList) := if_pos ex
      refine PySem.W.kat_no (PySem.W.kat_one _ _ (PySem.P.lt_str ?_))
      exact (show s = s ∧ decide (y.cps.toList < y'.cps.toList) = _ from ⟨rfl, e3.symm⟩)
  · have ex : ¬ x.cps.toList = x'.cps.toList := by simpa using e1
    have e3 : (if x.cps.toList = x'.cps.toList then decide (y.cps.toList < y'.cps.toList) else decide (x.cps.toList < x'.cps.toList)) = decide (x.cps.toList < x'.cps.toList) := if_neg ex
    exact PySem.W.kat_no (oneLt_str ⟨rfl, e3.symm⟩)
theorem firstsS_of {h : Heap} : ∀ {vs : List Value}, (∀ v ∈ vs, ∃ x y, IsPairS h v x y) → ∃ fs : List Value, PySem.W.KatTups h vs fs ∧ fs.length = vs.length ∧ ∀ f ∈ fs, ∃ x t, f = Value.str x t
  | [], _ => ⟨[], PySem.W.KatTups.nil, rfl, fun f hf => by simp at hf⟩
  | v :: vs, x => by
    obtain ⟨fs, k, hl, hi⟩ := firstsS_of (vs := vs) fun u hu => x u (List.mem_cons_of_mem _ hu)
    obtain ⟨x1, y1, a, o, t, u, n, rfl, ho, hc, hd⟩ := x v List.mem_cons_self
    exact ⟨.str x1 t :: fs, PySem.W.KatTups.cons ho hc hd rfl k, by simp [hl], fun f hf => (List.mem_cons.mp hf).elim (fun e => ⟨x1, t, e⟩) (hi f)⟩
theorem pairsS_sortable {a : Addr} {vs : List Value} {k : Value → Str × Str} (h0 : 2 ≤ vs.length) (hp : ∀ v ∈ vs, IsPairS s.heap v (k v).1 (k v).2) (ha : ∀ o, s.heap.get? a = some o → o.cls ≠ .type "tuple") : SrtO.SortableO prog w A s a vs fun v u => lexS (k v) (k u) := by
  intro h' keep
  have hp' : ∀ v ∈ vs, IsPairS h' v (k v).1 (k v).2 := fun v hm => (hp v hm).keeps fun b o e c => keep b o (fun z => by subst z; exact ha o e c) e
  obtain ⟨fs, h1, h2, h3⟩ := firstsS_of fun v hm => ⟨_, _, hp' v hm⟩
  refine ⟨tuples' true, fun Q E hq => ?_, pairS_cmp hp'⟩
  refine PySem.W.kat_kind (T := .type "str") h1 (by omega) (fun f hm => ?_) (by rfl) ?_
  · obtain ⟨x, t, rfl⟩ := h3 f hm
    exact PySem.W.Looks.now
  · have e : (Value.type "str" != Value.type "tuple") = true := by first | decide +kernel | rfl | decide
    rw [e]
    exact hq
end
abbrev itK (e : Str × Str) : Key × V := (.inr e.1, .str e.2)
abbrev itV (e : Str × Str) : List V := [.str e.1, .str e.2]
/-- what is new is plain -/
def Pln (H H' : Hp) : Prop := ∀ a o, H' a = some o → H a = some o ∨ plainO o = true
theorem clo_pln {H H' : Hp} (c : Clo H) (e : Ex H H') (p : Pln H H') : Clo H' := fun a o h => by
  rcases p a o h with z | z
  · have q := c a o z
    clear h z
    induction o with
    | dT _ => exact q
    | ins C dx fs => exact e _ _ q
    | frz ob u ih => exact ih q
    | _ => trivial
  · exact okO_plain z
def rSortedItems : V → Hp → VK → Prop := fun x H Q => ∃ (d : Addr) (kvs : List (Str × Str)), x = .ref d ∧ H d = some (.dK (kvs.map itK)) ∧
  ∀ (H' : Hp) (p : Addr) (ts : List Addr) (kvs' : List (Str × Str)), Ex H H' → Pln H H' → kvs'.Perm kvs → (kvs'.Pairwise fun a b => a.1.cps.toList ≤ b.1.cps.toList) → H p = none → H' p = some (.lst (refs ts)) → TupsAt H' ts (kvs'.map itV) → Q (.ref p) H'
def tSortedItems (te : TE) : TE := fun σ H Q => te σ H fun x H1 => rSortedItems x H1 Q
theorem kv_strs {kvs : List (Str × Str)} {vs : List (Key × Value)} (h : KV (kvs.map itK) vs) : ∀ (j : Nat) (e : Str × Str), kvs[j]? = some e → ∃ t, vs[j]? = some (.inr e.1, .str e.2 t) := fun j e hj => by
  obtain ⟨y, h1, h2, h3⟩ := LiI.paired_get h (i := j) (x := itK e) (by rw [List.getElem?_map, hj]; rfl)
  obtain ⟨t, ht⟩ := h3
  refine ⟨t, ?_⟩
  rw [h1]
  obtain ⟨y1, y2⟩ := y
  dsimp only at h2 ht
  rw [← h2, ht]
theorem pairs_at {prog : Program} {w : World} {K : Type} [DecidableEq K] {knd : PySem.KeyKind prog w K} : ∀ {es : List DictEntry} {kvs : List (K × Value)}, Pairs knd es kvs → ∀ (j : Nat) (e : DictEntry), es[j]? = some e → ∃ kv, kvs[j]? = some kv ∧ knd.is kv.1 e.key = true ∧ e.val = kv.2
  | _, _, .nil, j, e, h => by simp at h
  | _, _, .cons h1 h2 t, 0, e, h => by
    cases h
    exact ⟨_, rfl, h1, h2⟩
  | _, _, .cons _ _ t, j + 1, e, h => pairs_at t j e (by simpa using h)
theorem pairs_len {prog : Program} {w : World} {K : Type} [DecidableEq K] {knd : PySem.KeyKind prog w K} : ∀ {es : List DictEntry} {kvs : List (K × Value)}, Pairs knd es kvs → es.length = kvs.length
  | _, _, .nil => rfl
  | _, _, .cons _ _ t => congrArg (· + 1) (pairs_len t)
section
variable {X : Cx} {pins : List (Addr × Obj)} {σ : L2.St} {H : Hp} {s : Shared}
/-- new tuples of two texts, a list of them: tracked -/
theorem pairs_laid {h' : Heap} {tk : Nat} {kvs : List (Str × Str)} {as ts : List Addr} {l : Addr} {n : Nat} (I : Inv X pins σ H s) (hk : ∀ b o, s.heap.get? b = some o → h'.get? b = some o) (hl : s.heap.objs.size ≤ l) (hla : l ∉ as) (hlo : ∀ a ∈ as, s.heap.objs.size ≤ a) (nd : as.Nodup) (hlen : as.length = kvs.length)
    (hL : h'.get? l = some (seqObj "list" (ts.map Value.ref).toArray n)) (hz : ts.length ≤ sizeLine) (hP : ∀ (j : Nat) (b : Addr) (e : Str × Str), as[j]? = some b → kvs[j]? = some e → ∃ t u, h'.get? b = some { cls := .type "tuple", data := .seq #[.str e.1 t, .str e.2 u] }) :
    ∃ H' : Hp, Ex H H' ∧ Pln H H' ∧ H l = none ∧ H' l = some (.lst (refs ts)) ∧ (∀ (j : Nat) (b : Addr) (e : Str × Str), as[j]? = some b → kvs[j]? = some e → H' b = some (.tup (itV e))) ∧ Inv X pins σ H' { s with heap := h', toks := tk } := by
  have new : ∀ t ∈ as, H t = none := fun t ht => I.hok.fresh (hlo t ht)
  have newL : H l = none := I.hok.fresh hl
  have lk : as.length = (kvs.map itK).length := by rw [List.length_map]; exact hlen
  have atP := LiI.putT_at as (kvs.map itK) (upd H l (.lst (refs ts))) lk nd
  have off : ∀ b, b ∉ as → b ≠ l → LiI.putT (upd H l (.lst (refs ts))) as (kvs.map itK) b = H b := fun b h1 h2 => by rw [LiI.putT_off as _ _ h1, upd_ne h2]
  have low : ∀ b o, s.heap.get? b = some o → b ∉ as ∧ b ≠ l := fun b o e => ⟨fun z => absurd (Heap.lt_size e) (Nat.not_lt.mpr (hlo b z)), Nat.ne_of_lt (Nat.lt_of_lt_of_le (Heap.lt_size e) hl)⟩
  have kp : ∀ b u, H b = some u → (LiI.putT (upd H l (.lst (refs ts))) as (kvs.map itK)) b = some u := fun b u e => by
    rw [off b (fun z => by rw [new b z] at e; cases e) (fun z => by rw [z, newL] at e; cases e)]
    exact e
  have eL : LiI.putT (upd H l (.lst (refs ts))) as (kvs.map itK) l = some (.lst (refs ts)) := by rw [LiI.putT_off as _ _ hla, upd_same]
  have eT : ∀ (j : Nat) (b : Addr) (e : Str × Str), as[j]? = some b → kvs[j]? = some e → LiI.putT (upd H l (.lst (refs ts))) as (kvs.map itK) b = some (.tup (itV e)) := fun j b e h1 h2 => by
    obtain ⟨q, g1, g2⟩ := LiI.paired_get atP h1
    rw [List.getElem?_map, h2] at g1
    cases g1
    exact g2
  have inAs : ∀ b, b ∈ as → ∃ (j : Nat) (e : Str × Str), as[j]? = some b ∧ kvs[j]? = some e := fun b hb => by
    obtain ⟨j, hj⟩ := List.mem_iff_getElem?.mp hb
    have h1 : j < as.length := (List.getElem?_eq_some_iff.mp hj).1
    exact ⟨j, kvs[j]'(by omega), hj, List.getElem?_eq_getElem (by omega)⟩
  refine ⟨_, kp, fun b o e => ?_, newL, eL, eT, ?_⟩
  · by_cases hb : b ∈ as
    · obtain ⟨j, e1, h1, h2⟩ := inAs b hb
      rw [eT j b e1 h1 h2] at e
      cases e
      exact .inr rfl
    · by_cases hb2 : b = l
      · rw [hb2, eL] at e
        cases e
        exact .inr rfl
      · rw [off b hb hb2] at e
        exact .inl e
  · refine I.call' (ch := []) rfl ⟨fun b o q _ _ _ => hk b o q, fun b o q _ _ _ => ⟨o.slots, hk b o q⟩, fun b o q n _ => ?_, fun b o q _ => ⟨o, hk b o q⟩, fun b xs q => kp b _ q, fun b o u q => kp b _ q, fun b ps q => ⟨#[], by rw [kp b _ q]; simp⟩⟩ (fun b u q => ?_) I.bare fun b z => by simp at z
    · obtain ⟨z1, z2⟩ := low b o q
      rw [off b z1 z2]
      exact n
    · by_cases hb : b ∈ as
      · obtain ⟨j, e1, h1, h2⟩ := inAs b hb
        rw [eT j b e1 h1 h2] at q
        cases q
        obtain ⟨t, u, hg⟩ := hP j b e1 h1 h2
        exact ⟨by show 2 ≤ sizeLine; decide, [.str e1.1 t, .str e1.2 u], .cons ⟨t, rfl⟩ (.cons ⟨u, rfl⟩ .nil), ⟨_, hg, rfl, _, rfl⟩⟩
      · by_cases hb2 : b = l
        · rw [hb2] at q ⊢
          rw [eL] at q
          cases q
          exact ⟨by rw [refs_len]; exact hz, ts.map Value.ref, n, LiI.vals_refs ts, hL⟩
        · rw [off b hb hb2] at q
          exact (I.hok b u q).stay (fun d v _ y => hk d v y) (fun d y => kp d _ y) fun d xs y => kp d _ y
theorem idx_nodup : ∀ {as : List Addr} {j : Nat} {b : Addr}, as.Nodup → as[j]? = some b → as.idxOf b = j
  | [], j, b, _, h => by simp at h
  | a :: as, 0, b, _, h => by
    cases h
    exact List.idxOf_cons_self
  | a :: as, j + 1, b, hn, h => by
    have h' : as[j]? = some b := by simpa using h
    have hn' := List.nodup_cons.mp hn
    have ne : ¬ a = b := fun e => hn'.1 (by rw [e]; exact List.mem_of_getElem? h')
    rw [List.idxOf_cons, idx_nodup hn'.2 h', show (a == b) = false by simpa using ne]
    rfl
/-- sorted of the items of a dict of texts by texts -/
theorem sorted_view {s1 : Shared} {H1 : Hp} {Q : VK} {d : Addr} {kvs : List (Str × Str)} (hc : X.calm = true) (I1 : Inv X pins σ H1 s1) (hd : H1 d = some (.dK (kvs.map itK)))
    (q : ∀ (H' : Hp) (p : Addr) (ts : List Addr) (kvs' : List (Str × Str)), Ex H1 H' → Pln H1 H' → kvs'.Perm kvs → (kvs'.Pairwise fun a b => a.1.cps.toList ≤ b.1.cps.toList) → H1 p = none → H' p = some (.lst (refs ts)) → TupsAt H' ts (kvs'.map itV) → Q (.ref p) H') :
    wpAny (model X.prog X.w) X.A (call (.builtin "sorted") [.ref s1.heap.objs.size]) (EP X pins σ Q) X.xe { s1 with heap := s1.heap.push { cls := .type "dict_items", data := .fields #[.ref d] } } := by
  obtain ⟨hz, hs0, vs, kv, hdo⟩ := I1.hok d _ hd
  have lk0 : (kvs.map itK).length = vs.length := Paired.length kv
  have lk : kvs.length = vs.length := by rw [← lk0, List.length_map]
  rw [List.length_map] at hz
  obtain ⟨o, es, ep, ho, hx, hdat, _, hpr, hnd⟩ := hdo
  have les : es.size = vs.length := by rw [← Array.length_toList]; exact pairs_len hpr
  refine DT.sortedI (es := es) (ep := ep) (d := d) (I1.ok.hd hc) ⟨_, Heap.get?_push_size _ rfl, rfl, rfl⟩ ⟨o, Heap.get?_push_of_some _ ho, hx, hdat⟩ (by omega) fun h' tk as hk hlt hl hG => ?_
  have nd : as.Nodup := List.Pairwise.imp (fun h => Nat.ne_of_lt h) hG.rise
  have lak : as.length = kvs.length := by omega
  have pr : ∀ (j : Nat) (b : Addr) (e1 : Str × Str), as[j]? = some b → kvs[j]? = some e1 → ∃ t u, h'.get? b = some { cls := .type "tuple", data := .seq #[.str e1.1 t, .str e1.2 u] } := fun j b e1 hj hk1 => by
    obtain ⟨en, he1, hg1⟩ := hG.pairs j b hj
    obtain ⟨kv1, g1, g2, g3⟩ := pairs_at hpr j en (by rw [Array.getElem?_toList]; exact he1)
    obtain ⟨u, hu⟩ := kv_strs kv j e1 hk1
    rw [hu] at g1
    cases g1
    obtain ⟨t, ht⟩ : ∃ t, en.key = .str e1.1 t := relV_key (show keyIs (.inr e1.1) en.key = true from g2)
    exact ⟨t, u, by rw [hg1, ht, g3]⟩
  have hob : (h'.push { cls := .type "list", data := .seq (as.map Value.ref).toArray }).get? h'.objs.size = some (seqObj "list" (as.map Value.ref).toArray 0) := Heap.get?_push_size _ rfl
  have ka : ∀ b o, h'.get? b = some o → (h'.push { cls := .type "list", data := .seq (as.map Value.ref).toArray }).get? b = some o := fun b o e => Heap.get?_push_of_some _ e
  have ne0 : ∀ b o, h'.get? b = some o → b ≠ h'.objs.size := fun b o e => Nat.ne_of_lt (Heap.lt_size e)
  have hsz2 : h'.objs.size < (h'.push { cls := .type "list", data := .seq (as.map Value.ref).toArray }).objs.size := by rw [Heap.size_push]; exact Nat.lt_succ_self _
  generalize hh2 : h'.push { cls := .type "list", data := .seq (as.map Value.ref).toArray } = h2 at hob ka hsz2 ⊢
  obtain ⟨k, hkk⟩ : ∃ k : Value → Str × Str, k = fun v => match v with | .ref b => kvs.getD (as.idxOf b) ("", "") | _ => ("", "") := ⟨_, rfl⟩
  have kat : ∀ (j : Nat) (b : Addr) (e1 : Str × Str), as[j]? = some b → kvs[j]? = some e1 → k (.ref b) = e1 := fun j b e1 hj hk1 => by
    rw [hkk]
    show kvs.getD (as.idxOf b) ("", "") = e1
    rw [idx_nodup nd hj, List.getD_eq_getElem?_getD, hk1]; rfl
  have at_ : ∀ v ∈ as.map Value.ref, ∃ (j : Nat) (b : Addr) (e1 : Str × Str), v = .ref b ∧ as[j]? = some b ∧ kvs[j]? = some e1 := fun v hv' => by
    obtain ⟨b, hb, rfl⟩ := List.mem_map.mp hv'
    obtain ⟨j, hj⟩ := List.mem_iff_getElem?.mp hb
    have h1 : j < as.length := (List.getElem?_eq_some_iff.mp hj).1
    exact ⟨j, b, kvs[j]'(by omega), rfl, hj, List.getElem?_eq_getElem (by omega)⟩
  have pin : ∀ v ∈ as.map Value.ref, IsPairS h2 v (k v).1 (k v).2 := fun v hv' => by
    obtain ⟨j, b, e1, rfl, hj, hk1⟩ := at_ v hv'
    obtain ⟨t, u, hg1⟩ := pr j b e1 hj hk1
    rw [kat j b e1 hj hk1]
    exact ⟨b, _, t, u, 0, rfl, ka _ _ hg1, rfl, rfl⟩
  refine wpAny_call_entry PyProof.Rows.slot_list_sort ⟨_, hob, rfl⟩ PyProof.Rows.entry_list_sort
    (SrtO.list_sort_ord (s := { s1 with heap := h2, toks := tk }) (swo_lexS k) hob (by rw [List.length_map]; omega) (fun h2' => pairsS_sortable (s := { s1 with heap := h2, toks := tk }) h2' pin fun o e1 => ?_) fun out hsrt hstb => ⟨.none, rfl, ?_⟩) (PyProof.Rows.args_list_sort _)
  · have e' : some o = some (seqObj "list" (as.map Value.ref).toArray 0) := e1.symm.trans hob
    cases e'
    intro c
    exact absurd (Value.type.inj c) (by decide)
  · show EP X pins σ Q (.ref h'.objs.size) { s1 with heap := sortedHeap h2 h'.objs.size (as.map Value.ref) out.toArray, toks := tk }
    have hperm : out.Perm (as.map Value.ref) := hstb.perm
    obtain ⟨ts, hts⟩ : ∃ ts : List Addr, out = ts.map Value.ref := by
      have : ∀ v ∈ out, ∃ a, v = Value.ref a := fun v hv' => by
        obtain ⟨b, _, rfl⟩ := List.mem_map.mp (hperm.mem_iff.mp hv')
        exact ⟨b, rfl⟩
      clear hsrt hstb hperm
      induction out with
      | nil => exact ⟨[], rfl⟩
      | cons v out ih =>
        obtain ⟨a, rfl⟩ := this v List.mem_cons_self
        obtain ⟨ts, rfl⟩ := ih fun u hu => this u (List.mem_cons_of_mem _ hu)
        exact ⟨a :: ts, rfl⟩
    subst hts
    obtain ⟨n2, hat2⟩ := sortedHeap_at (out := (ts.map Value.ref).toArray) hob
    have old2 : ∀ b o, h'.get? b = some o → (sortedHeap h2 h'.objs.size (as.map Value.ref) (ts.map Value.ref).toArray).get? b = some o := fun b o e1 => by
      rw [sortedHeap_old (ne0 b o e1) (Nat.lt_trans (Heap.lt_size e1) hsz2)]
      exact ka b o e1
    have hpts : ts.Perm as := by
      have := hperm.map backV
      rw [List.map_map, List.map_map] at this
      have z : ∀ l : List Addr, l.map (backV ∘ Value.ref) = l.map V.ref := fun l => rfl
      rw [z, z] at this
      have := this.map (fun v => match v with | V.ref a => a | _ => 0)
      rw [List.map_map, List.map_map] at this
      have z2 : ∀ l : List Addr, l.map ((fun v => match v with | V.ref a => a | _ => 0) ∘ V.ref) = l := fun l => by
        refine (List.map_congr_left fun a _ => ?_).trans (List.map_id l)
        rfl
      rw [z2, z2] at this
      exact this
    have hlt2 : s1.heap.objs.size + 1 < h'.objs.size := by
      have := hlt
      rw [show (s1.heap.push { cls := .type "dict_items", data := .fields #[.ref d] }).objs.size = s1.heap.objs.size + 1 from Heap.size_push ..] at this
      exact this
    have hab : ∀ a ∈ as, s1.heap.objs.size + 1 < a := fun a ha => by
      have := hG.above a ha
      rw [show (s1.heap.push { cls := .type "dict_items", data := .fields #[.ref d] }).objs.size = s1.heap.objs.size + 1 from Heap.size_push ..] at this
      exact this
    obtain ⟨H', kx, pl, nl, eL, eT, J⟩ := pairs_laid (tk := tk) (h' := sortedHeap h2 h'.objs.size (as.map Value.ref) (ts.map Value.ref).toArray) (kvs := kvs) (as := as) (ts := ts) (l := h'.objs.size) I1
      (fun b o e1 => old2 b o (hk b o (Heap.get?_push_of_some _ e1))) (by omega) (fun z => Nat.lt_irrefl _ (hG.there z)) (fun a ha => by have := hab a ha; omega) nd lak hat2 (by rw [hpts.length_eq]; omega) (fun j b e1 h1 h3 => by
        obtain ⟨t, u, hg1⟩ := pr j b e1 h1 h3
        exact ⟨t, u, old2 _ _ hg1⟩)
    have hkts : ∀ b ∈ ts, ∃ (j : Nat) (e1 : Str × Str), as[j]? = some b ∧ kvs[j]? = some e1 ∧ k (.ref b) = e1 := fun b hb => by
      obtain ⟨j, b', e1, e2, hj, hk1⟩ := at_ (.ref b) (List.mem_map.mpr ⟨b, hpts.mem_iff.mp hb, rfl⟩)
      cases e2
      exact ⟨j, e1, hj, hk1, kat j b e1 hj hk1⟩
    have hks : (as.map fun b => k (.ref b)) = kvs := by
      refine List.ext_getElem (by rw [List.length_map]; exact lak) fun j h1 h3 => ?_
      rw [List.length_map] at h1
      rw [List.getElem_map]
      exact kat j _ _ (List.getElem?_eq_getElem h1) (List.getElem?_eq_getElem h3)
    refine ⟨.ref h'.objs.size, H', J, rfl, q H' _ ts (ts.map fun b => k (.ref b)) kx pl (by have := hpts.map fun b => k (.ref b); rw [hks] at this; exact this) ?_ nl eL ⟨by rw [List.length_map, List.length_map], fun j b r h1 h3 => ?_⟩⟩
    · refine List.pairwise_map.mpr ?_
      have := List.pairwise_map.mp hsrt
      refine this.imp fun {a b} h1 => ?_
      refine List.not_lt.mp fun z => ?_
      have : lexS (k (.ref b)) (k (.ref a)) = true := lexS_iff.mpr (.inl z)
      rw [show lexS (k (.ref b)) (k (.ref a)) = false from h1] at this
      cases this
    · obtain ⟨i, e1, g1, g2, g3⟩ := hkts b (List.mem_of_getElem? h1)
      rw [List.getElem?_map, List.getElem?_map, h1] at h3
      have h3 : itV (k (.ref b)) = r := Option.some.inj h3
      rw [← h3, g3]
      exact eT i b e1 g1 g2
/-- sorted(e.items()), texts by texts -/
theorem pe_sortedItems {e : Expr} {te : TE} {p apos cpos pos : Pos} (hc : X.calm = true) (he : PE X e te) (hg : Gl X "sorted") (hm : X.mg "sorted" = none) (hv : bootBuiltins "sorted" = some (.builtin "sorted")) (hbase : attributeBase e "items" X.env (eval e X.env) = eval e X.env := by rfl) (hline : (apos.endLine == cpos.line) = true := by rfl)
    (hs : starEach [.Call (.Attribute e "items" apos) [] [] cpos] X.env = (false, eval (.Call (.Attribute e "items" apos) [] [] cpos) X.env) :: starEach [] X.env := by rfl) :
    PE X (.Call (.Name "sorted" p) [.Call (.Attribute e "items" apos) [] [] cpos] [] pos) (tSortedItems te) := by
  refine ⟨fun pins s σ H Q I hq => ?_⟩
  refine wpAny_Call_Name_kw (ld_blt I hg hm hv ?_ (by decide) (by decide))
  refine PyProof.Rows.callWith_builtin1 ?_ hs rfl
  rw [hs]
  show wpAny _ _ (spliced ((false, eval (.Call (.Attribute e "items" apos) [] [] cpos) X.env) :: backTo pos (starEach [] X.env))) _ _ s
  refine Calls.spliced_cons ?_
  refine wpAny_Call_method (T := "dict") (id := "dict.items") hbase rfl hline F.plainAttrs_dict F.slot_dict_items F.type_dict_items (thn (he.run pins s σ H _ I hq) fun u s1 ⟨x, H1, I1, rx, d, kvs, ex, hd, q⟩ => ?_)
  subst ex
  obtain rfl : u = Value.ref d := rx
  obtain ⟨hz, hs0, vs, kv, hdo⟩ := id (I1.hok d _ hd)
  refine ⟨hdo.typeIs, hdo.mapOf.noDict, ?_⟩
  show wpAny _ _ (callWith cpos (.builtin "dict.items") [.ref d] [] []) _ X.xe s1
  refine method_meetsIn F.slot_dict_items F.entry_dict_items rfl (PySem.evalArgs_none ⟨rfl, hdo.typeIs, F.args_dict_items_1 _, _, meets_dict_items (mixKind X.prog X.w) d hs0, ⟨vs, hdo⟩, ?_⟩)
  refine Calls.spliced_nil ?_
  exact sorted_view hc I1 hd q
end
/-! ### hands -/
def hdF (L h n : Int) (rn td gd : Addr) : List (Str × V) := [("letters", .int L), ("hands", .int h), ("own_number", .int n), ("renewals", .ref rn), ("thing_of", .ref td), ("gone", .ref gd)]
abbrev Th := List Nat × Str
def thK (e : Th) : Key × V := (.inr (txt e.1), .str e.2)
def thV (e : Th) : List V := [.str (txt e.1), .str e.2]
def gnK (m : List Nat) : Key × V := (.inr (txt m), .bl true)
def keys (kvs : List Th) : List (List Nat) := kvs.map (·.1)
/-- lists of rows -/
structure RowsAt (H : Hp) (rs : List Addr) (RS : List (List Row)) : Prop where
  len : rs.length = RS.length
  at_ : ∀ (i : Nat) (r : Addr) (R : List Row), rs[i]? = some r → RS[i]? = some R → ∃ qs : List Addr, H r = some (.lst (refs qs)) ∧ TupsAt H qs (R.map rowV)
theorem RowsAt.nil (H : Hp) : RowsAt H [] [] := ⟨rfl, fun _ _ _ h => by simp at h⟩
theorem RowsAt.ex {H H' : Hp} {rs : List Addr} {RS : List (List Row)} (h : RowsAt H rs RS) (e : Ex H H') : RowsAt H' rs RS := ⟨h.len, fun i r R a b => by
  obtain ⟨qs, h1, h2⟩ := h.at_ i r R a b
  exact ⟨qs, e _ _ h1, h2.ex e⟩⟩
theorem RowsAt.snoc {H : Hp} {rs : List Addr} {RS : List (List Row)} {r : Addr} {R : List Row} {qs : List Addr} (t : RowsAt H rs RS) (h : H r = some (.lst (refs qs))) (ht : TupsAt H qs (R.map rowV)) : RowsAt H (rs ++ [r]) (RS ++ [R]) := by
  refine ⟨by rw [List.length_append, List.length_append, t.len]; rfl, fun i a b h1 h2 => ?_⟩
  by_cases c : i < rs.length
  · rw [List.getElem?_append_left c] at h1
    rw [List.getElem?_append_left (by rw [← t.len]; exact c)] at h2
    exact t.at_ i a b h1 h2
  · rw [List.getElem?_append_right (by omega)] at h1
    rw [List.getElem?_append_right (by rw [← t.len]; omega), ← t.len] at h2
    cases hj : i - rs.length with
    | zero =>
      rw [hj] at h1 h2
      cases h1
      cases h2
      exact ⟨qs, h, ht⟩
    | succ j => rw [hj] at h1; simp at h1
/-- all but what stands at p stays -/
def Bt (p : Addr) (H H' : Hp) : Prop := ∀ a o, a ≠ p → H a = some o → H' a = some o
theorem Bt.of {p : Addr} {H H' : Hp} (e : Ex H H') : Bt p H H' := fun a o _ h => e a o h
theorem Bt.trans {p : Addr} {H H1 H2 : Hp} (a : Bt p H H1) (b : Bt p H1 H2) : Bt p H H2 := fun x o n h => b x o n (a x o n h)
theorem Bt.upd {p : Addr} {H : Hp} {o : HO} : Bt p H (upd H p o) := fun a u n h => by rw [upd_ne n]; exact h
theorem TupsAt.bt {p : Addr} {H H' : Hp} {qs : List Addr} {rs : List (List V)} (t : TupsAt H qs rs) (e : Bt p H H') (hp : ∀ xs, H p ≠ some (.tup xs)) : TupsAt H' qs rs := ⟨t.len, fun i q r a b => e q _ (fun z => hp r (by rw [← z]; exact t.at_ i q r a b)) (t.at_ i q r a b)⟩
theorem RowsAt.bt {p : Addr} {H H' : Hp} {rs : List Addr} {RS : List (List Row)} (h : RowsAt H rs RS) (e : Bt p H H') (hp : ∀ xs, H p ≠ some (.tup xs)) (hr : p ∉ rs) : RowsAt H' rs RS := ⟨h.len, fun i r R a b => by
  obtain ⟨qs, h1, h2⟩ := h.at_ i r R a b
  exact ⟨qs, e _ _ (fun z => hr (by rw [← z]; exact List.mem_of_getElem? a)) h1, h2.bt e hp⟩⟩
structure HandAt (K : PySem.W.Frag) (H : Hp) (p rn td gd : Addr) (L h n : Nat) (rs : List Addr) (RS : List (List Row)) (kvs : List Th) (gvs : List (List Nat)) : Prop where
  at_ : ∃ dx, H p = some (.ins (He.ga K "Hand") dx (hdF L h n rn td gd))
  rn : H rn = some (.lst (refs rs))
  rows : RowsAt H rs RS
  td : H td = some (.dK (kvs.map thK))
  gd : H gd = some (.dK (gvs.map gnK))
theorem putF_td {L h n : Int} {rn td gd th : Addr} : putF ("thing_of" : Str) (.ref th) (hdF L h n rn td gd) = hdF L h n rn th gd := by unfold hdF; rfl
theorem putF_gd {L h n : Int} {rn td gd gn : Addr} : putF ("gone" : Str) (.ref gn) (hdF L h n rn td gd) = hdF L h n rn td gn := by unfold hdF; rfl
theorem putF_rn {L h n : Int} {rn td gd x : Addr} : putF ("renewals" : Str) (.ref x) (hdF L h n rn td gd) = hdF L h n x td gd := by unfold hdF; rfl
theorem hdF_no {m : Str} {L h n : Int} {rn td gd : Addr} (h1 : (m == "letters") = false) (h2 : (m == "hands") = false) (h3 : (m == "own_number") = false) (h4 : (m == "renewals") = false) (h5 : (m == "thing_of") = false) (h6 : (m == "gone") = false) : (hdF L h n rn td gd).lookup m = none := by
  unfold hdF
  rw [List.lookup_cons, h1, List.lookup_cons, h2, List.lookup_cons, h3, List.lookup_cons, h4, List.lookup_cons, h5, List.lookup_cons, h6]
  rfl
section
variable {K : PySem.W.Frag} {H : Hp} {p rn td gd : Addr} {L h n : Nat} {rs : List Addr} {RS : List (List Row)} {kvs : List Th} {gvs : List (List Nat)}
theorem HandAt.ex {H' : Hp} (a : HandAt K H p rn td gd L h n rs RS kvs gvs) (e : Ex H H') : HandAt K H' p rn td gd L h n rs RS kvs gvs := by
  obtain ⟨⟨dx, h1⟩, h2, h3, h4, h5⟩ := a
  exact ⟨⟨dx, e _ _ h1⟩, e _ _ h2, h3.ex e, e _ _ h4, e _ _ h5⟩
theorem HandAt.meth {m : Str} {Z : Prop} (a : HandAt K H p rn td gd L h n rs RS kvs gvs) (q : Z) (h1 : (m == "letters") = false := by decide +kernel) (h2 : (m == "hands") = false := by decide +kernel) (h3 : (m == "own_number") = false := by decide +kernel) (h4 : (m == "renewals") = false := by decide +kernel) (h5 : (m == "thing_of") = false := by decide +kernel) (h6 : (m == "gone") = false := by decide +kernel) :
    ∃ b dx fs, V.ref p = .ref b ∧ H b = some (.ins (He.ga K "Hand") dx fs) ∧ fs.lookup m = none ∧ Z := by
  obtain ⟨dx, e⟩ := a.at_
  exact ⟨_, _, _, rfl, e, hdF_no h1 h2 h3 h4 h5 h6, q⟩
end
/-- the thing of a mark -/
def thF (kvs : List Th) (m : List Nat) : Option Str := (kvs.find? fun e => decide (e.1 = m)).map (·.2)
theorem thF_val (m : List Nat) : ∀ kvs : List Th, valV (kvs.map thK) (.inr (txt m)) = (thF kvs m).map V.str
  | [] => rfl
  | e :: kvs => by
    rw [List.map_cons]
    unfold thF
    by_cases c : e.1 = m
    · rw [valV_pos (by rw [← c]; rfl), List.find?_cons_of_pos (by simpa using c)]; rfl
    · rw [valV_neg (fun z => c (txt_inj (Sum.inr.inj z))), List.find?_cons_of_neg (by simpa using c)]
      exact thF_val m kvs
theorem gn_val (m : List Nat) : ∀ gvs : List (List Nat), valV (gvs.map gnK) (.inr (txt m)) = if m ∈ gvs then some (.bl true) else none
  | [] => by rw [if_neg (by simp)]; rfl
  | g :: gvs => by
    rw [List.map_cons]
    by_cases c : g = m
    · rw [valV_pos (by rw [← c]; rfl), if_pos (by rw [c]; exact List.mem_cons_self)]; rfl
    · rw [valV_neg (fun z => c (txt_inj (Sum.inr.inj z))), gn_val m gvs]
      by_cases c2 : m ∈ gvs
      · rw [if_pos c2, if_pos (List.mem_cons_of_mem _ c2)]
      · rw [if_neg c2, if_neg fun z => (List.mem_cons.mp z).elim (fun y => c y.symm) c2]
theorem thF_some {kvs : List Th} {m : List Nat} {t : Str} (h : thF kvs m = some t) : (m, t) ∈ kvs := by
  unfold thF at h
  obtain ⟨e, he, rfl⟩ := Option.map_eq_some_iff.mp h
  have h1 := List.find?_some he
  have h2 := List.mem_of_find?_eq_some he
  have h3 : e.1 = m := by simpa using h1
  rw [← h3]; exact h2
theorem thF_none {kvs : List Th} {m : List Nat} : thF kvs m = none ↔ m ∉ keys kvs := by
  unfold thF keys
  rw [Option.map_eq_none_iff, List.find?_eq_none]
  constructor
  · intro h z
    obtain ⟨e, he, rfl⟩ := List.mem_map.mp z
    exact h e he (by simp)
  · intro h e he z
    exact h (List.mem_map.mpr ⟨e, he, by simpa using z⟩)
theorem thF_mem {kvs : List Th} {m : List Nat} (h : m ∈ keys kvs) : ∃ t, thF kvs m = some t := by
  cases e : thF kvs m with
  | some t => exact ⟨t, rfl⟩
  | none => exact absurd h (thF_none.mp e)
/-- a list sorted -/
def srt (l : List (List Nat)) : List (List Nat) := l.mergeSort fun a b => decide (a ≤ b)
theorem srt_perm (l : List (List Nat)) : (srt l).Perm l := List.mergeSort_perm l _
theorem srt_up {l : List (List Nat)} (h : l.Nodup) : (srt l).Pairwise (· < ·) := by
  have h1 : (srt l).Pairwise fun a b => decide (a ≤ b) = true := List.pairwise_mergeSort (le := fun a b => decide (a ≤ b)) (fun a b c h1 h2 => decide_eq_true (List.le_trans (of_decide_eq_true h1) (of_decide_eq_true h2))) (fun a b => by
    rcases Classical.em (a ≤ b) with z | z
    · rw [decide_eq_true z]; rfl
    · rw [decide_eq_true (List.le_of_lt (List.not_le.mp z)), Bool.or_true]) l
  have h2 : (srt l).Nodup := (srt_perm l).nodup_iff.mpr h
  refine (h1.and h2).imp fun {a b} z => ?_
  rcases Classical.em (a < b) with y | y
  · exact y
  · exact absurd (List.le_antisymm (of_decide_eq_true z.1) (List.not_lt.mp y)) z.2
theorem up_uniq : ∀ {l m : List (List Nat)}, l.Pairwise (· < ·) → m.Pairwise (· < ·) → l.Perm m → l = m
  | [], m, _, _, h => (List.Perm.eq_nil h.symm).symm
  | x :: l, [], _, _, h => absurd h.length_eq (by simp)
  | x :: l, y :: m, hl, hm, h => by
    have hl' := List.pairwise_cons.mp hl
    have hm' := List.pairwise_cons.mp hm
    have e : x = y := by
      have h1 : x ∈ y :: m := h.mem_iff.mp List.mem_cons_self
      have h2 : y ∈ x :: l := h.mem_iff.mpr List.mem_cons_self
      rcases List.mem_cons.mp h1 with z | z
      · exact z
      · rcases List.mem_cons.mp h2 with w | w
        · exact w.symm
        · exact absurd (hl'.1 y w) (List.lt_asymm (hm'.1 x z))
    subst e
    rw [up_uniq hl'.2 hm'.2 h.cons_inv]
theorem srt_eq {l m : List (List Nat)} (hn : l.Nodup) (hp : m.Perm l) (hu : m.Pairwise (· < ·)) : m = srt l := up_uniq hu (srt_up hn) (hp.trans (srt_perm l).symm)
theorem srt_mem {l : List (List Nat)} {m : List Nat} : m ∈ srt l ↔ m ∈ l := (srt_perm l).mem_iff
theorem srt_len (l : List (List Nat)) : (srt l).length = l.length := (srt_perm l).length_eq
/-- what a hand shows -/
def shown (kvs : List Th) (gvs : List (List Nat)) : List (List Nat) := (srt (keys kvs)).filter fun m => !decide (m ∈ gvs)
/-- what a hand knows is in order -/
structure HandOk (L B : Nat) (kvs : List Th) (gvs : List (List Nat)) : Prop where
  nk : (keys kvs).Nodup
  ng : gvs.Nodup
  mks : ∀ m ∈ keys kvs, Mk0 L m ∧ m ≠ [] ∧ m.length ≤ B
  gk : ∀ m ∈ gvs, Mk0 L m ∧ m ≠ [] ∧ m.length ≤ B
  th : ∀ e ∈ kvs, PyData.strOk e.2 = true ∧ e.2.length ≤ 1000
  sk : kvs.length < 64
  sg : gvs.length < 64
theorem HandOk.low {L B : Nat} {kvs : List Th} {gvs : List (List Nat)} (hL : L ≤ 26) (h : HandOk L B kvs gvs) : ∀ m ∈ keys kvs, Low m := fun m hm d hd => by
  have := (h.mks m hm).1.lt d hd
  omega
theorem HandOk.up {L B : Nat} {kvs : List Th} {gvs : List (List Nat)} (h : HandOk L B kvs gvs) : (shown kvs gvs).Pairwise (· < ·) := (srt_up h.nk).filter _
theorem shown_mem {kvs : List Th} {gvs : List (List Nat)} {m : List Nat} : m ∈ shown kvs gvs ↔ m ∈ keys kvs ∧ m ∉ gvs := by
  unfold shown
  rw [List.mem_filter, srt_mem]
  simp
theorem shown_len {kvs : List Th} {gvs : List (List Nat)} : (shown kvs gvs).length ≤ kvs.length := by
  unfold shown
  refine Nat.le_trans (List.length_filter_le _ _) ?_
  rw [srt_len]
  unfold keys
  rw [List.length_map]
  exact Nat.le_refl _
/-- sorted(thing_of) -/
theorem sorted_keys {H : Hp} {d : Addr} {kvs : List Th} {Q : VK} (hd : H d = some (.dK (kvs.map thK))) (hn : (keys kvs).Nodup) (hs : kvs.length < 64) (q : ∀ p, H p = none → Q (.ref p) (upd H p (.lst (((srt (keys kvs)).map txt).map V.str)))) : rSortedD [.ref d] H Q := by
  have ek : (kvs.map thK).map (·.1) = ((keys kvs).map txt).map Sum.inr := by unfold keys; rw [List.map_map, List.map_map, List.map_map]; rfl
  refine ⟨d, _, (keys kvs).map txt, rfl, .inl hd, ek, by unfold keys; rw [List.length_map, List.length_map]; exact hs, fun ys p h1 h2 h3 => ?_⟩
  obtain ⟨M, rfl, hp, hu⟩ := sort_up hn h1 h2
  rw [srt_eq hn hp hu]
  exact q p h3
/-- sorted(gone) -/
theorem sorted_gone {H : Hp} {d : Addr} {gvs : List (List Nat)} {Q : VK} (hd : H d = some (.dK (gvs.map gnK))) (hn : gvs.Nodup) (hs : gvs.length < 64) (q : ∀ p, H p = none → Q (.ref p) (upd H p (.lst (((srt gvs).map txt).map V.str)))) : rSortedD [.ref d] H Q := by
  have ek : (gvs.map gnK).map (·.1) = (gvs.map txt).map Sum.inr := by rw [List.map_map, List.map_map]; rfl
  refine ⟨d, _, gvs.map txt, rfl, .inl hd, ek, by rw [List.length_map]; exact hs, fun ys p h1 h2 h3 => ?_⟩
  obtain ⟨M, rfl, hp, hu⟩ := sort_up hn h1 h2
  rw [srt_eq hn hp hu]
  exact q p h3
theorem gn_get {H : Hp} {d : Addr} {gvs : List (List Nat)} {m : List Nat} (hd : H d = some (.dK (gvs.map gnK))) : DGet H d (.str (txt m)) (if m ∈ gvs then some (.bl true) else none) := by
  have := DGet.k (k := Sum.inr (txt m)) hd
  rw [gn_val] at this
  exact this
theorem th_get {H : Hp} {d : Addr} {kvs : List Th} {m : List Nat} {t : Str} (hd : H d = some (.dK (kvs.map thK))) (h : thF kvs m = some t) : DGet H d (.str (txt m)) (some (.str t)) := by
  have := DGet.k (k := Sum.inr (txt m)) hd
  rw [thF_val, h] at this
  exact this
def skv (kvs : List Th) : List Th := (srt (keys kvs)).map fun m => (m, (thF kvs m).getD "")
def skP (e : Th) : Str × Str := (txt e.1, e.2)
theorem thF_at {kvs : List Th} (hn : (keys kvs).Nodup) {m : List Nat} {t : Str} (h : (m, t) ∈ kvs) : thF kvs m = some t := by
  induction kvs with
  | nil => cases h
  | cons e kvs ih =>
    have hn' := List.nodup_cons.mp (show (e.1 :: keys kvs).Nodup from hn)
    unfold thF
    rcases List.mem_cons.mp h with z | z
    · rw [List.find?_cons_of_pos (by rw [← z]; simp), ← z]; rfl
    · rw [List.find?_cons_of_neg (fun y => hn'.1 (by
        have y : e.1 = m := by simpa using y
        rw [y]
        exact List.mem_map.mpr ⟨_, z, rfl⟩))]
      exact ih hn'.2 z
theorem skv_uniq {kvs : List Th} (hn : (keys kvs).Nodup) {ys : List (Str × Str)} (hp : ys.Perm (kvs.map skP)) (hs : ys.Pairwise fun a b => a.1.cps.toList ≤ b.1.cps.toList) : ys = (skv kvs).map skP := by
  have h1 : (ys.map (·.1)).Perm ((keys kvs).map txt) := by
    have := hp.map (·.1)
    rw [List.map_map] at this
    unfold keys
    rw [List.map_map]
    exact this
  obtain ⟨M, e1, e2, e3⟩ := sort_up hn h1 (List.pairwise_map.mpr hs)
  have e4 := srt_eq hn e2 e3
  subst e4
  have hl : ys.length = (srt (keys kvs)).length := by
    have := congrArg List.length e1
    rwa [List.length_map, List.length_map] at this
  refine List.ext_getElem (by unfold skv; rw [List.length_map, List.length_map]; exact hl) fun i a b => ?_
  have hb : ((skv kvs).map skP)[i] = skP ((srt (keys kvs))[i]'(by omega), (thF kvs ((srt (keys kvs))[i]'(by omega))).getD "") := by simp [skv]
  rw [hb]
  obtain ⟨e, he, hee⟩ := List.mem_map.mp (hp.mem_iff.mp (List.getElem_mem a))
  have h2 : ys[i].1 = txt (srt (keys kvs))[i] := by
    have := congrArg (fun l => l[i]?) e1
    rw [List.getElem?_map, List.getElem?_map, List.getElem?_eq_getElem a, List.getElem?_eq_getElem (by omega)] at this
    exact Option.some.inj this
  rw [← hee] at h2 ⊢
  have h3 := txt_inj h2
  have h4 := thF_at hn (m := e.1) (t := e.2) he
  rw [h3] at h4
  show skP e = (txt (srt (keys kvs))[i], (thF kvs (srt (keys kvs))[i]).getD "")
  rw [h4, ← h3]; rfl
theorem skv_keys {kvs : List Th} : keys (skv kvs) = srt (keys kvs) := by
  unfold keys skv
  rw [List.map_map]
  exact List.map_id _
/-- a state as a tuple -/
structure StAt (H : Hp) (r a b c : Addr) (qs ts : List Addr) (L h : Nat) (RS : List (List Row)) (kvs : List Th) (gs : List (List Nat)) : Prop where
  tup : H r = some (.tup [.int L, .int h, .ref a, .ref b, .ref c])
  ra : H a = some (.lst (refs qs))
  rows : RowsAt H qs RS
  tb : H b = some (.lst (refs ts))
  ths : TupsAt H ts (kvs.map thV)
  gc : H c = some (.lst ((gs.map txt).map V.str))
theorem StAt.ex {H H' : Hp} {r a b c : Addr} {qs ts : List Addr} {L h : Nat} {RS : List (List Row)} {kvs : List Th} {gs : List (List Nat)} (s : StAt H r a b c qs ts L h RS kvs gs) (e : Ex H H') : StAt H' r a b c qs ts L h RS kvs gs :=
  ⟨e _ _ s.tup, e _ _ s.ra, s.rows.ex e, e _ _ s.tb, s.ths.ex e, e _ _ s.gc⟩
/-- a state as data -/
abbrev stD (L h : Nat) (RS : List (List Row)) (kvs : List Th) (gs : List (List Nat)) : PyData := .tuple [.int L, .int h, .list (RS.map rowsD), .list (kvs.map fun e => .tuple [.str (txt e.1), .str e.2]), .list (gs.map fun g => .str (txt g))]
theorem dp_rowsAll {K : PySem.W.Frag} {H : Hp} : ∀ {rs : List Addr} {RS : List (List Row)}, RowsAt H rs RS → DpAll K H (refs rs) (RS.map rowsD)
  | [], [], _ => .nil
  | [], _ :: _, t => nomatch t.len
  | _ :: _, [], t => nomatch t.len
  | r :: rs, R :: RS, t => by
    obtain ⟨qs, h1, h2⟩ := t.at_ 0 r R rfl rfl
    exact .cons (dp_rows h1 h2) (dp_rowsAll ⟨by have := t.len; simpa using this, fun i a b x y => t.at_ (i + 1) a b (by simpa using x) (by simpa using y)⟩)
theorem dp_strsAll {K : PySem.W.Frag} {H : Hp} : ∀ gs : List (List Nat), DpAll K H ((gs.map txt).map V.str) (gs.map fun g => .str (txt g))
  | [] => .nil
  | g :: gs => .cons (.str _) (dp_strsAll gs)
theorem dp_st {K : PySem.W.Frag} {H : Hp} {r a b c : Addr} {qs ts : List Addr} {L h : Nat} {RS : List (List Row)} {kvs : List Th} {gs : List (List Nat)} (s : StAt H r a b c qs ts L h RS kvs gs) : Dp K H (.ref r) (stD L h RS kvs gs) :=
  .tup (tup_sq s.tup) (.cons (.int _) (.cons (.int _) (.cons (.lst (.inl (.inl s.ra)) (dp_rowsAll s.rows)) (.cons (.lst (.inl (.inl s.tb)) (dpAll_tups (f := thV) (fun _ => .cons (.str _) (.cons (.str _) .nil)) s.ths)) (.cons (.lst (.inl (.inl s.gc)) (dp_strsAll gs)) .nil)))))
theorem eqv_int (x : Int) : PyData.eqv (.int x) (.int x) = true := by simp [PyData.eqv]
theorem all5 {P : PyData → Prop} {a b c d e : PyData} (h1 : P a) (h2 : P b) (h3 : P c) (h4 : P d) (h5 : P e) : ∀ x ∈ [a, b, c, d, e], P x := fun x hx => by
  rcases List.mem_cons.mp hx with z | hx
  · rw [z]; exact h1
  rcases List.mem_cons.mp hx with z | hx
  · rw [z]; exact h2
  rcases List.mem_cons.mp hx with z | hx
  · rw [z]; exact h3
  rcases List.mem_cons.mp hx with z | hx
  · rw [z]; exact h4
  rw [List.mem_singleton.mp hx]; exact h5
theorem eqv_st (L h : Nat) (RS : List (List Row)) (kvs : List Th) (gs : List (List Nat)) : PyData.eqv (stD L h RS kvs gs) (stD L h RS kvs gs) = true :=
  eqv_tup (all5 (eqv_int _) (eqv_int _) (eqv_list (map_all fun R _ => eqv_rows R)) (eqv_list (map_all fun e _ => eqv_tup (all2 (eqv_str _) (eqv_str _)))) (eqv_list (map_all fun g _ => eqv_str _)))
structure StLow (RS : List (List Row)) (kvs : List Th) (gs : List (List Nat)) : Prop where
  rows : ∀ R ∈ RS, ∀ r ∈ R, LowR r
  ks : ∀ e ∈ kvs, Low e.1 ∧ PyData.strOk e.2 = true
  gs : ∀ g ∈ gs, Low g
theorem Sh.mono {n m : Nat} {d : PyData} (h : Sh n d) (hm : n ≤ m) : Sh m d := ⟨h.lay, Nat.le_trans h.dep hm⟩
theorem sh_st {L h : Nat} {RS : List (List Row)} {kvs : List Th} {gs : List (List Nat)} (z : StLow RS kvs gs) : Sh 4 (stD L h RS kvs gs) :=
  Sh.tup (n := 3) (all5 (Sh.int _) (Sh.int _) (Sh.list (n := 2) (map_all fun R hR => sh_rows (z.rows R hR)))
    ((Sh.list (n := 1) (map_all fun e he => Sh.tup (n := 0) (all2 (Sh.str (strOk_txt (z.ks e he).1)) (Sh.str (z.ks e he).2)))).mono (by omega))
    ((Sh.list (n := 0) (map_all fun g hg => Sh.str (strOk_txt (z.gs g hg)))).mono (by omega)))
theorem HandOk.stLow {L B : Nat} {kvs : List Th} {gvs : List (List Nat)} {RS : List (List Row)} (h : HandOk L B kvs gvs) (hL : L ≤ 26) (hR : ∀ R ∈ RS, ∀ r ∈ R, LowR r) : StLow RS (skv kvs) (srt gvs) := by
  refine ⟨hR, fun e he => ?_, fun g hg d hd => ?_⟩
  · obtain ⟨m, hm, rfl⟩ := List.mem_map.mp he
    have hm := srt_mem.mp hm
    obtain ⟨t, ht⟩ := thF_mem hm
    refine ⟨h.low hL m hm, ?_⟩
    show PyData.strOk ((thF kvs m).getD "") = true
    rw [ht]
    exact (h.th _ (thF_some ht)).1
  · have := (h.gk g (srt_mem.mp hg)).1.lt d hd
    omega
end Sm
/-! SmRng: ranges of any bounds. -/
namespace Sm
open PySem PySem.Spec PyProof.Rows L2
def rInTp (K : PySem.W.Frag) : R2 := fun x y H Q => ∃ d ds, Dp K H x d ∧ Dp K H y (.tuple ds) ∧ SeqAt.shaped d = true ∧ SeqAt.shaped (.tuple ds) = true ∧ Q (.bl (ds.any fun z => PyData.eqv z d)) H
def rNotInTp (K : PySem.W.Frag) : R2 := fun x y H Q => ∃ d ds, Dp K H x d ∧ Dp K H y (.tuple ds) ∧ SeqAt.shaped d = true ∧ SeqAt.shaped (.tuple ds) = true ∧ Q (.bl (!ds.any fun z => PyData.eqv z d)) H
theorem op_inT {X : Cx} (hu : X.A.units + 65 < cLine) : OpR X (compareOp .In) (rInTp X.K) := by
  intro _ s _ H x y v u Q I rx ry h
  obtain ⟨d, ds, hd, he, sd, se, q⟩ := h
  obtain ⟨_, r1⟩ := Dp.reads I d x v hd rx
  obtain ⟨_, r2⟩ := Dp.reads I (.tuple ds) y u he ry
  exact SeqAt.in_tuple_reads r2 r1 (SeqAt.canLay_of_shaped se) (SeqAt.canLay_of_shaped sd) (room_in_shaped sd hu) ⟨.bl _, H, I, rfl, q⟩
theorem op_notInT {X : Cx} (hu : X.A.units + 65 < cLine) : OpR X (compareOp .NotIn) (rNotInTp X.K) := by
  intro _ s _ H x y v u Q I rx ry h
  obtain ⟨d, ds, hd, he, sd, se, q⟩ := h
  obtain ⟨_, r1⟩ := Dp.reads I d x v hd rx
  obtain ⟨_, r2⟩ := Dp.reads I (.tuple ds) y u he ry
  exact SeqAt.notIn_tuple_reads r2 r1 (SeqAt.canLay_of_shaped se) (SeqAt.canLay_of_shaped sd) (room_in_shaped sd hu) ⟨.bl _, H, I, rfl, q⟩
theorem gLstN2 {K : PySem.W.Frag} {a : Addr} {v w : V} {i j : Nat} {σ : L2.St} {H : Hp} {Q : L2.St → Hp → Prop} (h : SqL K H a [v, w]) (q : Q ((σ.set i (some v)).set j (some w)) H) : gLst K 2 (gCons (gName i) (gCons (gName j) gNil)) (.ref a) σ H Q :=
  ⟨a, _, rfl, h, rfl, v, _, rfl, w, _, rfl, rfl, q⟩
theorem Trim.all {H H' : Hp} (e : Ex H H') (c : Clo H') : Trim H H' H' :=
  ⟨fun _ _ h => h, fun a xs h => e a _ h, fun a o u h => e a _ h, fun a ps h => ⟨#[], by rw [Array.append_empty]; exact e a _ h⟩, c⟩
theorem gTupN5 {K : PySem.W.Frag} {a : Addr} {v w x y z : V} {i j k l m : Nat} {σ : L2.St} {H : Hp} {Q : L2.St → Hp → Prop} (h : SqT K H a [v, w, x, y, z]) (q : Q (((((σ.set i (some v)).set j (some w)).set k (some x)).set l (some y)).set m (some z)) H) : gTup K 5 (gCons (gName i) (gCons (gName j) (gCons (gName k) (gCons (gName l) (gCons (gName m) gNil))))) (.ref a) σ H Q :=
  ⟨a, _, rfl, h, rfl, v, _, rfl, w, _, rfl, x, _, rfl, y, _, rfl, z, _, rfl, rfl, q⟩
abbrev rIntS : List V → Hp → VK → Prop := fun xs H Q => ∃ a n, xs = [.str a] ∧ PySem.intText? a = some n ∧ a.length ≤ 640 ∧ Q (.int n) H
abbrev rSplit : V → List V → Hp → VK → Prop := fun x xs H Q => ∃ a b, x = .str a ∧ xs = [.str b] ∧ (b.length == 0) = false ∧ a.length + 2 ≤ sizeLine ∧ rNewStrs (Txt.split a b) H Q
theorem ps_never1 {X : Cx} {st : Stmt} : PS X st tNever := ⟨fun _ _ _ _ _ _ h => h.elim⟩
abbrev rDictP (K : PySem.W.Frag) : List V → Hp → VK → Prop := fun xs H Q => ∃ (a : Addr) (ps : List Addr) (kvs : List (Key × V)), xs = [.ref a] ∧ SqL K H a (ps.map V.ref) ∧ Paired (fun p kv => SqT K H p [kV kv.1, kv.2]) ps kvs ∧
    ∀ p, H p = none → Q (.ref p) (upd H p (.dK (mergeK [] kvs)))
def rLenD : List V → Hp → VK → Prop := fun xs H Q => ∃ a kvs, xs = [V.ref a] ∧ H a = some (.dK kvs) ∧ Q (.int kvs.length) H
theorem turn_long {P : Program} {w : World} {K : PySem.W.Frag} {tg : Expr} (it : Addr) (lo : Int) (n : Nat) : Turn P w K tg (Itr lo n) [it] it (fun i h => IsLongIter h it (lo + (i : Nat) * 1) ((n : Int) - (i : Nat)) 1) where
  mem := by simp
  obj := fun i h st b hb => by
    have e : b = it := by simpa using hb
    subst e
    exact ⟨_, st, fun v z => by
      have z' : Data.fields _ = Data.cell v := z
      cases z'⟩
  keep := fun i h h' st k => k it (by simp) _ st
  item := by
    intro X hP hw hK hc i pins s σ H E I hf st hg
    subst hP hw hK
    obtain ⟨f0, f1, f2, f3, f4, f5⟩ := hf it (by simp)
    have W := Walks.longrange (prog := X.prog) (w := X.w) (I.ok.hd hc) it lo 1 n
    refine W.item i s _ _ hg st fun v h' tk hv st' kk => ?_
    obtain ⟨t, rfl⟩ := hv
    have I1 : Inv X pins σ H { s with heap := h', toks := tk } := I.turned (fun b o hb e => kk b o (by simpa using hb) e) f0 f1 f3 f4 f5
    refine ⟨_, rfl, go_of (s := { s with heap := h', toks := tk }) (n := "longrange_iterator") st' rfl rfl (by decide) ⟨.int (lo + i), H, I1, ⟨t, ?_⟩, ⟨rfl, rfl⟩, st', fun b hb => (hf b hb).1⟩⟩
    rw [Int.mul_one]
  done := by
    intro X hP hw hK hc i pins s σ H E I hf st hg
    subst hP hw hK
    obtain ⟨f0, f1, f2, f3, f4, f5⟩ := hf it (by simp)
    exact wpAny_pyNext_long_end (I.ok.hd hc) st (by have : n ≤ i := hg; omega) fun h' eb => ⟨rfl, I.turned (t' := s.toks) (fun b o hb e => eb b o hb e) f0 f1 f3 f4 f5⟩
  self := fun _ _ _ _ _ st h => wpAny_pyIter_longiter st h
section
variable {X : Cx} {tg : Expr}
/-- a range object just made, of any bounds, walked -/
theorem range_itA {pins : List (Addr × Obj)} {σ : L2.St} {H : Hp} {s : Shared} {R : It → Hp → Prop} {E : Value → Shared → Prop} {lo hi : Int} {t u v : Tok} {tk : Nat} (I : Inv X pins σ H s)
    (q : R (Itr lo (hi - lo).toNat) H) : wpAny (model X.prog X.w) X.A (pyIter (.ref s.heap.objs.size)) (PIE X pins σ tg R) E { s with heap := s.heap.push { cls := .type "range", data := .fields #[.int lo t, .int hi u, .int 1 v] }, toks := tk } := by
  have e1 : lo + ((0 : Nat) : Int) * 1 = lo := by simp
  have e2 : (((hi - lo).toNat : Nat) : Int) - ((0 : Nat) : Int) = Builtin.Range.rangeSize lo hi 1 := by rw [rangeSize_one]; split <;> omega
  have I1 : Inv X pins σ H { s with heap := s.heap.push { cls := .type "range", data := .fields #[.int lo t, .int hi u, .int 1 v] }, toks := tk } := I.kept fun b o e => Heap.get?_push_of_some _ e
  cases hb : Builtin.Range.small lo hi 1 with
  | true =>
    refine wpAny_pyIter_range (IsRange.new ..) hb ?_
    refine ⟨(s.heap.push { cls := .type "range", data := .fields #[.int lo t, .int hi u, .int 1 v] }).objs.size, [(s.heap.push { cls := .type "range", data := .fields #[.int lo t, .int hi u, .int 1 v] }).objs.size], _, _, H, rfl,
      I1.kept (t' := tk) fun b o e => Heap.get?_push_of_some _ e, turn_range _ lo (hi - lo).toNat, ?_, fun b hb => ?_, q⟩
    · show IsRangeIter _ _ (lo + ((0 : Nat) : Int) * 1) ((((hi - lo).toNat : Nat) : Int) - ((0 : Nat) : Int)) 1
      rw [e1, e2]
      exact Heap.get?_push_size _ rfl
    · have e : b = (s.heap.push { cls := .type "range", data := .fields #[.int lo t, .int hi u, .int 1 v] }).objs.size := by simpa using hb
      subst e
      exact I1.fpOk (Nat.le_refl _) (I1.hok.fresh (Nat.le_refl _))
  | false =>
    refine wpAny_pyIter_longrange (IsRange.new ..) hb ?_
    refine ⟨(s.heap.push { cls := .type "range", data := .fields #[.int lo t, .int hi u, .int 1 v] }).objs.size, [(s.heap.push { cls := .type "range", data := .fields #[.int lo t, .int hi u, .int 1 v] }).objs.size], _, _, H, rfl,
      I1.kept (t' := tk) fun b o e => Heap.get?_push_of_some _ e, turn_long _ lo (hi - lo).toNat, ?_, fun b hb => ?_, q⟩
    · show IsLongIter _ _ (lo + ((0 : Nat) : Int) * 1) ((((hi - lo).toNat : Nat) : Int) - ((0 : Nat) : Int)) 1
      rw [e1, e2]
      exact Heap.get?_push_size _ rfl
    · have e : b = (s.heap.push { cls := .type "range", data := .fields #[.int lo t, .int hi u, .int 1 v] }).objs.size := by simpa using hb
      subst e
      exact I1.fpOk (Nat.le_refl _) (I1.hok.fresh (Nat.le_refl _))
def iRngA (ta : TA) : TI := fun σ H R => ta σ H fun vs H1 => ∃ i j : Int, vs = [.int i, .int j] ∧ R (Itr i (j - i).toNat) H1
theorem pi_rangeA {a b : Expr} {ta : TA} {p pos : Pos} (hg : Gl X "range") (hm : X.mg "range" = none) (ha : PA X [a, b] ta) (hs : starEach [a, b] X.env = [(false, eval a X.env), (false, eval b X.env)] := by rfl) (hs2 : starEach [b] X.env = [(false, eval b X.env)] := by rfl) :
    PI X tg (.Call (.Name "range" p) [a, b] [] pos) (iRngA ta) := by
  refine ⟨fun pins s σ H R I h => ?_⟩
  refine Call_ (ld_blt I hg hm boot_range (PyProof.Rows.callWith_type1 (thn (ha.run pos pins s σ H _ I h) fun us s1 ⟨vs, H1, I1, r1, q1⟩ => ?_) (by rw [hs, hs2]) (by rw [hs2]; rfl)))
  obtain ⟨i, j, e, q⟩ := q1
  subst e
  cases r1 with
  | cons r rr =>
    cases rr with
    | cons r' rr =>
      cases rr
      obtain ⟨t, rfl⟩ := r
      obtain ⟨t', rfl⟩ := r'
      exact call_range_2 (range_itA I1 q)
end

/-! ### d.update(e) -/
section
variable {X : Cx} {o e : Expr} {apos cpos : Pos} {td ty : TE}
def tDUpd (td ty : TE) : TE := fun σ H Q => td σ H fun x H1 => ∃ a kvs0, x = .ref a ∧ H1 a = some (.dK kvs0) ∧ ty σ H1 fun y H2 => ∃ b kvs more, y = .ref b ∧ a ≠ b ∧ H2 a = some (.dK kvs) ∧ H2 b = some (.dK more) ∧ kvs.length + more.length ≤ sizeLine ∧ Q .non (upd H2 a (.dK (mergeK kvs more)))
theorem pe_dupd (ho : PE X o td) (he : PE X e ty) (m : M1 X o "update" apos e cpos) : PE X (.Call (.Attribute o "update" apos) [e] [] cpos) (tDUpd td ty) := by
  refine ⟨fun pins s σ H Q I h => ?_⟩
  refine wpAny_Call_method m.base m.few m.line PySem.F.plainAttrs_dict PySem.F.slot_dict_update PySem.F.type_dict_update (thn (ho.run pins s σ H _ I h) fun u s1 ⟨x, H1, I1, rx, a, kvs0, ex, d0, q1⟩ => ?_)
  subst ex
  obtain rfl : u = Value.ref a := rx
  obtain ⟨t1, t2, _⟩ := isD_at I1 (.inl ⟨kvs0, .inl d0⟩)
  refine ⟨t1, t2, ?_⟩
  rw [m.trees]
  refine Calls.callWith_builtin rfl (Calls.evalArgs_plain (Calls.spliced_cons (thn (he.run pins s1 σ H1 _ I1 q1) fun iv s2 ⟨y, H2, I2, ry, b, kvs, more, ey, nab, ea, eb, hz, q2⟩ => Calls.spliced_nil ?_)))
  subst ey
  obtain rfl : iv = Value.ref b := ry
  obtain ⟨z1, hd1, vs, rel1, dd1⟩ := dk_of I2.hok ea
  obtain ⟨z2, hd2, ws, rel2, dd2⟩ := dk_of I2.hok eb
  refine call_meetsIn PySem.F.slot_dict_update dd1.typeIs PySem.F.entry_dict_update (PySem.F.args_dict_update_2 _ _) (meets_dict_update (mixKind X.prog X.w) a b nab hd2)
    ⟨vs, ws, dd1, dd2, by rw [← rel1.length, ← rel2.length]; exact hz, fun h' dd' _ hs => ⟨.non, _, ?_, rfl, q2⟩⟩
  have he' : ∃ q, h'.get? a = some q := let ⟨q, _, _, hq, _⟩ := dd'; ⟨q, hq⟩
  have hl : (mergeK kvs more).length ≤ sizeLine := Nat.le_trans (length_mergeK more kvs) hz
  exact d_write I2 (by rw [ea]; exact True.intro) hs he' (dk_new hl hd1 (KV.merge rel2 rel1) dd')
end
abbrev rDictD : List V → Hp → VK → Prop := fun xs H Q => ∃ (a : Addr) (kvs : List (Key × V)), xs = [.ref a] ∧ Rd H a (.dK kvs) ∧ ∀ p, H p = none → Q (.ref p) (upd H p (.dK kvs))
section
variable {J : It} {n : Nat} {G : Hp → Prop} {f : Nat → V} {g : TG} {tb : TS} {nx : L2.St → Hp → Prop} {rt : VK} {σ : L2.St} {H : Hp}
/-- loops whose ends are told part by part -/
theorem for_fnX (w : Walk J n G (YFn f)) (Pv : Nat → L2.St → Hp → Prop) (h0 : Pv 0 σ H) (hG : ∀ i σ' H', i ≤ n → Pv i σ' H' → G H')
    (hs : ∀ i σ' H', i < n → Pv i σ' H' → g (f i) σ' H' fun σ2 H2 => tb ⟨Pv (i + 1), rt, nx, Pv (i + 1)⟩ σ2 H2) (hd : ∀ σ' H', Pv n σ' H' → nx σ' H') :
    ∃ W : Nat → Nat → L2.St → Hp → Prop, (∃ m, W 0 m σ H) ∧ ∀ i m σ H, W i m σ H →
      (J.stop i H ∧ nx σ H) ∨ (J.go i H ∧ ∃ N : L2.St → Hp → Prop, (∀ σ' H', N σ' H' → ∃ m', m' < m ∧ W (i + 1) m' σ' H') ∧ ∀ x H', J.yld i H x H' → g x σ H' fun σ2 H2 => tb ⟨N, rt, nx, N⟩ σ2 H2) :=
  for_fn (D := ⟨nx, rt, nx, nx⟩) w Pv h0 hG hs hd
theorem for_fixX (w : Walk J n G (YFn f)) (Pv : Nat → L2.St → Prop) (hG : G H) (h0 : Pv 0 σ)
    (hs : ∀ i σ', i < n → Pv i σ' → g (f i) σ' H fun σ2 H2 => tb ⟨fun σ3 H3 => H3 = H ∧ Pv (i + 1) σ3, rt, nx, fun σ3 H3 => H3 = H ∧ Pv (i + 1) σ3⟩ σ2 H2) (hd : ∀ σ', Pv n σ' → nx σ' H) :
    ∃ W : Nat → Nat → L2.St → Hp → Prop, (∃ m, W 0 m σ H) ∧ ∀ i m σ H, W i m σ H →
      (J.stop i H ∧ nx σ H) ∨ (J.go i H ∧ ∃ N : L2.St → Hp → Prop, (∀ σ' H', N σ' H' → ∃ m', m' < m ∧ W (i + 1) m' σ' H') ∧ ∀ x H', J.yld i H x H' → g x σ H' fun σ2 H2 => tb ⟨N, rt, nx, N⟩ σ2 H2) :=
  for_fix (D := ⟨nx, rt, nx, nx⟩) w Pv hG h0 hs hd
end
/-- the keys of a locked dict -/
theorem walk_keysF {d : Addr} {o : Obj} {kvs : List (Key × V)} : Walk (Itk d o kvs) kvs.length (fun H => H d = some (.frz o (.dK kvs))) (YFn fun i => (kvs.map fun kv => kV kv.1).getD i .non) :=
  walk_keys.mono (fun _ h => h) fun i H x H' hi _ y => ⟨y.1, by
    obtain ⟨_, k, v, h1, h2⟩ := y
    show x = (kvs.map fun kv => kV kv.1).getD i .non
    rw [h2, List.getD_eq_getElem?_getD, List.getElem?_map, h1]; rfl⟩
theorem clo_frz {H : Hp} {b : Addr} {od : Obj} {kk : List (Key × V)} (c : Clo H) (hb : H b = some (.dK kk)) : Clo (upd H b (.frz od (.dK kk))) := fun a u q => by
  by_cases ha : a = b
  · rw [ha, upd_same] at q; cases q; trivial
  · rw [upd_ne ha] at q
    exact okO_upd (fun x z => by rw [hb] at z; cases z) (c a u q)
theorem clo_unfrz {H : Hp} {b : Addr} {od : Obj} {kk : List (Key × V)} (c : Clo H) (hb : H b = some (.frz od (.dK kk))) : Clo (upd H b (.dK kk)) := clo_set c (fun x z => by rw [hb] at z; cases z) rfl
theorem dget_frz {H : Hp} {a : Addr} {od : Obj} {kvs : List (Key × V)} {k : Key} (e : H a = some (.frz od (.dK kvs))) : DGet H a (kV k) (valV kvs k) := .inl ⟨kvs, k, .inr ⟨od, e⟩, rfl, rfl⟩
end Sm
/-! SmSet: sets of many texts. -/
namespace Sm
open PySem PySem.Spec PyProof.Rows L2
/-- how many unlike texts stand ahead of a place -/
def unl (xs : List Str) : Nat → Nat
  | 0 => 0
  | i + 1 => if (xs.take i).any (· == xs.getD i Str.empty) = true then unl xs i else unl xs i + 1
theorem unl_le (xs : List Str) : ∀ i, unl xs i ≤ i
  | 0 => Nat.le_refl _
  | i + 1 => by
    have := unl_le xs i
    unfold unl
    split <;> omega
theorem unl_nodup {xs : List Str} (h : xs.Nodup) : ∀ i, i ≤ xs.length → unl xs i = i
  | 0, _ => rfl
  | i + 1, hi => by
    unfold unl
    rw [unl_nodup h i (by omega), if_neg]
    intro z
    obtain ⟨y, hy, e⟩ := List.any_eq_true.mp z
    have hi2 : i < xs.length := by omega
    have e2 : y = xs[i] := by
      rw [List.getD_eq_getElem?_getD, List.getElem?_eq_getElem hi2] at e
      simpa using e
    obtain ⟨j, hj, e3⟩ := List.mem_iff_getElem.mp hy
    rw [List.length_take] at hj
    rw [List.getElem_take, e2] at e3
    have := (List.getElem_inj h).mp e3
    omega
theorem any_snoc (xs : List Str) {i : Nat} (hi : i < xs.length) (y : Str) : (xs.take (i + 1)).any (· == y) = ((xs.take i).any (· == y) || decide (y = xs.getD i Str.empty)) := by
  rw [List.take_add_one, List.getElem?_eq_getElem hi, List.any_append, List.getD_eq_getElem?_getD, List.getElem?_eq_getElem hi]
  congr 1
  show ([xs[i]].any (· == y)) = decide (y = xs[i])
  rw [Bool.eq_iff_iff, decide_eq_true_iff]
  simp
  exact eq_comm
section
variable {prog : Program} {w : World} {A : Around} {R : Result → Shared → Prop} {I : Addr} {fp wr : List Addr} {G : Array GenState → Array GenState → Prop} {n : Nat} {P : Nat → Value → Prop} {St : Nat → Shared → Prop}
/-- the set's members at a place -/
def Mem (prog : Program) (w : World) (S : Addr) (xs : List Str) (i : Nat) (h : Heap) : Prop := h.SetOf (PySem.strKind prog w) S (fun y => (xs.take i).any (· == y)) (unl xs i)
theorem Mem.keep {S : Addr} {xs : List Str} {i : Nat} {h h' : Heap} (m : Mem prog w S xs i h) (e : ∀ o, h.get? S = some o → h'.get? S = some o) : Mem prog w S xs i h' := by
  obtain ⟨o, a, b, c, d, z⟩ := m
  exact ⟨o, a, b, c, e o d, z⟩
theorem loop_texts (W : WalksS prog w A.in1 I fp wr G n P St) {S : Addr} (hS : S ∉ fp) {xs : List Str} (hn : xs.length = n) (hb : n + 1 < scanBound) (hv : ∀ i v, P i v → ∃ t, v = .str (xs.getD i Str.empty) t) :
    ∀ (k i : Nat) (s : Shared), i + k = n → St i s → Mem prog w S xs i s.heap → (∀ z, Moved (S :: wr) G s z → Mem prog w S xs n z.heap → R (.ok (.ret .none)) z) → codeAny (model prog w) A (.builtin "set.update.loop" ⟨[.ref S, .ref I], []⟩) R s := by
  have wider : ∀ b ∈ wr, b ∈ S :: wr := fun b => List.mem_cons_of_mem S
  have apart : S ∉ wr := fun z => hS (W.sub S z)
  have quiet := plainId_quiet PyProof.Rows.F.plain_set_update_loop
  intro k
  induction k with
  | zero =>
    intro i s hi st m fin
    obtain rfl : i = n := by omega
    refine codeAny_builtin PyProof.Rows.F.entry_set_update_loop ?_; rw [Around.under_plainId PyProof.Rows.F.plain_set_update_loop _]
    show wpAny _ A.in1 (pyNext (.ref I) >>= _) _ _ s
    exact wpAny_bind (W.done s _ _ st fun z mv => wpAny_pure (fin z (mv.mono wider) (m.keep fun o e => mv.heap S o apart e)))
  | succ k ih =>
    intro i s hi st m fin
    have hi2 : i < n := by omega
    refine codeAny_builtin PyProof.Rows.F.entry_set_update_loop ?_; rw [Around.under_plainId PyProof.Rows.F.plain_set_update_loop _]
    show wpAny _ A.in1 (pyNext (.ref I) >>= _) _ _ s
    refine wpAny_bind (W.item i s _ _ hi2 st fun v z hP st2 mv => ?_)
    obtain ⟨t, rfl⟩ := hv i v hP
    have m2 := m.keep (h' := z.heap) fun o e => mv.heap S o apart e
    show wpAny _ A.in1 (holding [Value.str (xs.getD i Str.empty) t] (setAdd S (.str (xs.getD i Str.empty) t)) >>= _) _ _ z
    refine wpAny_bind (wpAny_holding ?_); unfold setAdd
    refine wpAny_holding (wpAny_bind ((PySem.strKind prog w).pyHash (k := xs.getD i Str.empty) (strKind_is _ _ _ _) ?_))
    have hul := unl_le xs i
    refine wpAny_setAddHashed_of (knd := PySem.strKind prog w) (s := { z with toks := z.toks + 1 }) (strKind_is _ _ _ _) rfl m2 (by omega) fun h2 sb m3 => ?_
    have m4 : Mem prog w S xs (i + 1) h2 := PyProof.Rows.SetOf_congr m3 (fun y => (any_snoc xs (by omega) y).symm) rfl
    have same : ∀ b o, b ∉ S :: wr → z.heap.get? b = some o → h2.get? b = some o := fun b o hbn e => by
      rw [sb.2 b fun q => hbn (by rw [q]; exact List.mem_cons_self)]
      exact e
    refine wpAny_pure ⟨quiet _, ih (i + 1) _ (by omega) (W.frame _ z _ _ st2 (Nat.le_succ _) fun b hbf o e => ?_) m4 fun y mv2 m5 => ?_⟩
    · rw [sb.2 b fun q => hS (by rw [← q]; exact hbf)]
      exact e
    · exact fin y (Moved.trans W.gtrans ((mv.mono wider).then_heap (Nat.le_succ _) fun b o hbn e => same b o hbn e) mv2) m5
end
section
variable {prog : Program} {w : World} {A : Around} {E : Value → Shared → Prop} {s : Shared}
/-- a new set -/
abbrev newSet (led : Bool) : Obj := { cls := .type "set", dict := none, data := .set #[] 0 (.fresh 0 0 led) }
set_option maxHeartbeats 6000000 in
theorem set_texts {l : Addr} {items : Array Value} {xs : List Str} {Q : Value → Shared → Prop} (hh : A.handled = none) (hl : s.heap.IsList l items) (hi : PyProof.Rows.StrsAre items.toList xs) (hb : xs.length + 1 < scanBound)
    (q : ∀ (h2 : Heap) (tk : Nat), Mem prog w s.heap.objs.size xs items.size h2 → (∀ b o, b < s.heap.objs.size → s.heap.get? b = some o → h2.get? b = some o) → Q (.ref s.heap.objs.size) { s with heap := h2, toks := tk }) :
    wpAny (model prog w) A (call (.type "set") [.ref l]) Q E s := by
  have size : xs.length = items.size := by rw [← StrsAre.len_eq hi, Array.length_toList]
  have below : l < s.heap.objs.size := by obtain ⟨o, e, _⟩ := hl; exact Heap.lt_size e
  obtain ⟨c, tl, hmro⟩ := PySem.F.called_set.mro
  have f1 := PySem.F.called_set.made; have f2 := PySem.F.called_set.sub; have f3 := PySem.F.called_set.notType
  have f4 := PySem.F.called_set.canCreate; have f5 := PySem.F.typeCall_set_1 (.ref l)
  refine wpAny_call (codeAny_of_tree ?_); show wpAny _ _ (callAny (.type "set") _) _ _ _
  refine wpAny_pure ⟨Code.quiet_builtin _ (by decide +kernel), codeAny_builtin PySem.F.entry_type_call ?_⟩; rw [Around.under_plain (weight_type_call_type "set" [.ref l] []) rfl]
  repeat (any_goals (first | assumption | wp_step))
  refine codeAny_mono (code_set_new_1 (.ref l) (E := E) (Q₁ := fun x z => ∃ led : Bool, x = .ref s.heap.objs.size ∧ z = { s with heap := s.heap.push (newSet led) }) fun led => ⟨led, rfl, rfl⟩) fun r z hr => ?_
  cases r with
  | error e => exact hr
  | ok fl =>
    cases fl with
    | ret x =>
      obtain ⟨led, rfl, rfl⟩ := hr
      have g1 : (s.heap.push (newSet led)).get? s.heap.objs.size = some (newSet led) := Heap.get?_push_size _ rfl
      have g2 : Shared.TypeIs { s with heap := s.heap.push (newSet led) } (.ref s.heap.objs.size) "set" := ⟨_, g1, rfl⟩
      have f6 := PySem.F.called_set.init.lookup; have f7 := PySem.F.called_set.init.bind (.ref s.heap.objs.size)
      repeat (any_goals (first | assumption | wp_step))
      have after : codeAny (model prog w) A.in1 (Code.call (Value.builtin "set.__init__") { pos := [Value.ref s.heap.objs.size] ++ { pos := [Value.ref l] : Args }.pos })
          (wants (fun r z => r = .none ∧ ∃ h2 tk, z = { s with heap := h2, toks := tk } ∧ Mem prog w s.heap.objs.size xs items.size h2 ∧ ∀ b o, b < s.heap.objs.size → s.heap.get? b = some o → h2.get? b = some o) E) { s with heap := s.heap.push (newSet led) } := by
        refine codeAny_call_builtin PySem.F.called_set.init.plain PySem.F.entry_set_init (check_set_init_1 g2 ?_)
        obtain ⟨⟨lc, ld, lx, lsl⟩, hol, hcl, nl, hdl⟩ := hl
        simp only at hcl hdl
        subst hcl; subst hdl
        have k1 : (s.heap.push (newSet led)).get? l = some { cls := .type "list", dict := ld, data := .seq items nl, slots := lsl } := Heap.get?_push_of_some _ hol
        have k2 := PySem.F.sub_list_set; have k3 := PySem.F.sub_list_frozenset
        have k4 : (Value.type "list" == Value.type "dict") = false := by decide
        have k5 : (s.heap.push (newSet led)).IsList l items := ⟨_, k1, rfl, nl, rfl⟩
        unfold Builtin.«set.__init__» noKeywords Builtin.Frozenset.updateFrom; generalize hPI : pyIter = PI
        wp_walk
        subst hPI
        refine wpAny_pyIter_list k5 (wpAny_bind (wpAny_runValue ?_))
        have calm : A.in1.in1.in1.handled = none := by simp [hh]
        have ne1 : l ≠ (s.heap.push (newSet led)).objs.size := fun z => absurd (z ▸ below) (by rw [Heap.size_push]; exact Nat.not_lt.mpr (Nat.le_succ _))
        have ne2 : s.heap.objs.size ∉ [(s.heap.push (newSet led)).objs.size, l] := by
          intro z
          rcases List.mem_cons.mp z with z | z
          · rw [Heap.size_push] at z
            exact Nat.ne_of_lt (Nat.lt_succ_self _) z
          · exact Nat.ne_of_gt below (List.mem_singleton.mp z)
        refine loop_texts ((Walks.list calm _ l ne1 items).toS) ne2 size (by omega) (fun i v hv => SS.strs_at hi i v (by rw [Array.getElem?_toList]; exact hv)) items.size 0 _ (by omega) ⟨⟨_, Heap.get?_push_size _ rfl, rfl, rfl⟩, k5.push _⟩ ?_ ?_
        · have k6 : ((s.heap.push (newSet led)).push { cls := .type "list_iterator", data := .fields #[.ref l, .int 0 0] }).get? s.heap.objs.size = some (newSet led) := Heap.get?_push_of_some _ g1
          exact PyProof.Rows.SetOf_congr ((PyProof.Rows.setObjOf_fresh (knd := PySem.strKind prog w) led).setOf k6 (by unfold scanBound; omega)) (fun _ => rfl) rfl
        · rintro ⟨h2, g, d, tk, os⟩ mv m
          have eg : g = s.gens := mv.gens
          have ed : d = s.drawn := mv.drawn
          have eo : os = s.os := mv.os
          subst eg; subst ed; subst eo
          show wpAny _ _ _ _ _ _
          refine wpAny_pure ?_
          show wpAny _ _ (ret Value.none) _ _ _
          refine wpAny_pure ⟨rfl, h2, tk, rfl, m, fun b o hbl e => mv.heap b o ?_ (Heap.get?_push_of_some _ (Heap.get?_push_of_some _ e))⟩
          intro z
          rcases List.mem_cons.mp z with z | z
          · exact Nat.ne_of_lt hbl z
          · rw [List.mem_singleton, Heap.size_push] at z
            exact Nat.ne_of_lt (Nat.lt_succ_of_lt hbl) z
      refine codeAny_mono after fun r2 z2 hr2 => ?_
      cases r2 with
      | error e => exact hr2
      | ok fl2 =>
        cases fl2 with
        | ret v =>
          obtain ⟨rfl, h2, tk, rfl, m, keep⟩ := hr2
          repeat (any_goals (first | assumption | wp_step))
          exact q _ _ m keep
        | _ => exact hr2.elim
    | _ => exact hr.elim
end
/-- len(set(xs)), xs a list of texts -/
def tLenTexts (K : PySem.W.Frag) (ta : TE) : TE := fun σ H Q => ta σ H fun x H1 => ∃ (l : Addr) (xs : List Str), x = .ref l ∧ SqL K H1 l (xs.map V.str) ∧ xs.length ≤ 1000 ∧ Q (.int ((unl xs xs.length : Nat) : Int)) H1
section
variable {X : Cx}
theorem pe_lenTexts {a : Expr} {ta : TE} {p p2 q pos : Pos} (hc : X.calm = true) (g1 : Gl X "len") (m1 : X.mg "len" = none) (g2 : Gl X "set") (m2 : X.mg "set" = none) (ha : PE X a ta)
    (na : starEach [a] X.env = (false, eval a X.env) :: starEach [] X.env := by rfl) : PE X (.Call (.Name "len" p) [.Call (.Name "set" p2) [a] [] q] [] pos) (tLenTexts X.K ta) := by
  refine ⟨fun pins s σ H Q I h => ?_⟩
  refine Call_ (ld_blt I g1 m1 boot_len (PyProof.Rows.callWith_builtin1 (PyProof.Rows.args_cons ?_ rfl) rfl rfl))
  refine Call_ (ld_blt I g2 m2 boot_set (PyProof.Rows.callWith_type1 (PyProof.Rows.args_cons (thn (ha.run pins s σ H _ I h) fun v s1 ⟨x, H1, I1, r1, q1⟩ => PyProof.Rows.args_nil ?_) na) na rfl))
  obtain ⟨l, xs, rfl, hq, hl, q2⟩ := q1
  cases r1
  obtain ⟨its, r, pl, hz⟩ := I1.list hq
  have big : (1002 : Nat) < scanBound := by unfold scanBound; decide
  have hsz : its.toArray.size = xs.length := by rw [List.size_toArray, ← r.length, List.length_map]
  refine set_texts (I1.ok.hd hc) pl.isList (xs := xs) (by simpa using strsAre_of r) (by omega) fun h2 tk m keep => PyProof.Rows.args_nil ?_
  rw [hsz] at m
  obtain ⟨o, es, ep, t, ho, hex, hd, _, _, _, hf, hn⟩ := m
  have I2 : Inv X pins σ H1 { s1 with heap := h2, toks := tk } := I1.kept fun b o e => keep b o (Heap.lt_size e) e
  have hu := unl_le xs xs.length
  exact call_len_set ho hex hd hf (by rw [hn]; omega) ⟨.int ((unl xs xs.length : Nat) : Int), H1, I2.tok _, ⟨_, by rw [hn]⟩, q2⟩
end
end Sm
/-! SmSort: sorted(set(xs)), xs a list of texts, or of ints. -/
namespace Sm
open PySem PySem.Spec PyProof.Rows L2

section
variable {prog : Program} {w : World} {A : Around} {E : Value → Shared → Prop} {s : Shared}
theorem code_set_led1 (a : Value) {Q₁ : Value → Shared → Prop}
    (h : Q₁ (.ref s.heap.objs.size) { s with heap := s.heap.push (newSet (!w.params.followText "set-order")) }) :
    codeAny (model prog w) A (.call (.builtin "set.__new__") ⟨[.type "set", a], []⟩) (wants Q₁ E) s := by
  refine codeAny_of_tree ?_
  show wpAny _ A.in1 (do checkBuiltinCall "set.__new__" ⟨[.type "set", a], []⟩; again (.builtin "set.__new__" ⟨[.type "set", a], []⟩)) _ _ s
  refine wpAny_bind (wpAny_of_eq (F.newCall_set_1 a) (wpAny_pure ⟨plainId_quiet F.plain_set_new _, codeAny_builtin F.entry_set_new ?_⟩))
  rw [Around.under_plainId F.plain_set_new _]
  unfold Builtin.«set.__new__» Builtin.Frozenset.newClass
  have hsub := sub_set_self
  obtain ⟨hp, g, d, tk, os⟩ := s
  dsimp only
  wp_walk
  refine wpAny_askSetting (wpAny_pure ?_)
  dsimp only
  simp only [newObj]
  refine wpAny_bind (wpAny_alloc (wpAny_pure ?_))
  exact wpAny_pure h
end

/-! ### S -/
def keyS (e : Int × Value) : Str := svS e.2
def GoodS (P : Program) (w : World) (e : Int × Value) : Prop := ∃ k tk, e.2 = Value.str k tk ∧ e.1 = (PySem.strKind P w).hash k
/-- the set at a: S its members, n their number; its table rises and can be walked -/
def SetS (P : Program) (w : World) (h : Heap) (a : Addr) (S : Str → Bool) (n : Nat) : Prop :=
  ∃ o es ep t, h.get? a = some o ∧ o.ExactSet ∧ o.data = .set es ep t ∧ (∀ e ∈ es.toList, GoodS P w e) ∧ (es.toList.map keyS).Nodup ∧ (∀ k, S k = true ↔ k ∈ es.toList.map keyS) ∧
    es.size < scanBound ∧ t.fits es.size = true ∧ es.size = n ∧ Ris t.place.toList ∧ (w.params.followText "set-order" = true ∨ t.led = true)
section
variable {P : Program} {w : World} {h h' : Heap} {a : Addr} {S : Str → Bool} {n : Nat}
theorem SetS.at (R : SetS P w h a S n) (k : ∀ o, h.get? a = some o → h'.get? a = some o) : SetS P w h' a S n := by
  obtain ⟨o, es, ep, t, ho, r⟩ := R
  exact ⟨o, es, ep, t, k o ho, r⟩
theorem SetS.congr {S' : Str → Bool} (R : SetS P w h a S n) (e : ∀ k, S' k = S k) : SetS P w h a S' n := by
  have q : S' = S := funext e
  rw [q]; exact R
theorem good_elemsS {l : List (Int × Value)} (g : ∀ e ∈ l, GoodS P w e) : ElemsOf (PySem.strKind P w) l := fun e he => by
  obtain ⟨k, tk, h1, h2⟩ := g e he
  exact ⟨⟨k, by rw [h1]; exact strKind_is P w k tk, h2⟩, by rw [h1] <;> rfl⟩
theorem good_isS {e : Int × Value} (g : GoodS P w e) (k : Str) : (PySem.strKind P w).is k e.2 = true ↔ keyS e = k := by
  obtain ⟨k0, tk, h1, _⟩ := g
  unfold keyS
  rw [h1]
  show ((k0 == k) = true) ↔ k0 = k
  exact beq_iff_eq
theorem good_memS {l : List (Int × Value)} (g : ∀ e ∈ l, GoodS P w e) (k : Str) : k ∈ l.map keyS ↔ ∃ e ∈ l, (PySem.strKind P w).is k e.2 = true := by
  rw [List.mem_map]
  constructor
  · rintro ⟨e, he, q⟩
    exact ⟨e, he, (good_isS (g e he) k).2 q⟩
  · rintro ⟨e, he, q⟩
    exact ⟨e, he, (good_isS (g e he) k).1 q⟩
end
section
variable {P : Program} {w : World} {A : Around} {E : Value → Shared → Prop} {s : Shared} {a : Addr} {S : Str → Bool} {n : Nat}
theorem setS_add_tail {g : Bool → Sem Unit} (hg : ∀ (b : Bool) (s₁ : Shared) (Q' : Unit → Shared → Prop), Q' () s₁ → wpAny (model P w) A (g b) Q' E s₁)
    {o : Obj} {es : Array (Int × Value)} {ep : Nat} {t : SetTable} (ho : s.heap.get? a = some o) (hex : o.ExactSet) (hd : o.data = .set es ep t)
    {es1 : Array (Int × Value)} {t2 : SetTable} {S' : Str → Bool} (g1 : ∀ e ∈ es1.toList, GoodS P w e) (nd1 : (es1.toList.map keyS).Nodup) (m1 : ∀ k, S' k = true ↔ k ∈ es1.toList.map keyS)
    (hb1 : es1.size < scanBound) (hf2 : t2.fits es1.size = true) (hr : Ris t2.place.toList) (hl : w.params.followText "set-order" = true ∨ t2.led = true) {wasDummy : Bool} {R : Option Bool → Shared → Prop}
    (hR : ∀ h', Heap.SameBut a s.heap h' → SetS P w h' a S' es1.size → R (some true) { s with heap := h' }) :
    wpAny (model P w) A (do
        storeSet a es1 t2
        if (!wasDummy && t2.tooFull) = true then do
            g (relayAll t2 es1 (SetTable.grown es1.size)).2.2
            storeSet a (relayAll t2 es1 (SetTable.grown es1.size)).1 (relayAll t2 es1 (SetTable.grown es1.size)).2.1
            pure (some true)
          else pure (some true)) R E s := by
  refine wpAny_bind (wpAny_storeSet_of ho hd ?_ (fits_of_scanBound hb1))
  have ho1 := store_at (es' := es1) (t' := t2) ho hd
  have sb1 := Heap.SameBut.update s.heap a (Obj.putSet es1 t2)
  split
  · have pm := relayAll_perm t2 es1 (SetTable.grown es1.size)
    have hf3 := relayAll_fits t2 es1 (SetTable.grown es1.size)
    have hr3 := relayAll_ris t2 es1 (SetTable.grown es1.size)
    have hl3 := relayAll_led t2 es1 (SetTable.grown es1.size)
    generalize relayAll t2 es1 (SetTable.grown es1.size) = Z at pm hf3 hr3 hl3 ⊢
    obtain ⟨es2, t3, gave⟩ := Z
    dsimp only at pm hf3 hr3 hl3 ⊢
    have hsz : es2.size = es1.size := by rw [← Array.length_toList, pm.length_eq, Array.length_toList]
    have hb2 : es2.size < scanBound := by rw [hsz]; exact hb1
    refine wpAny_bind (hg _ _ _ ?_)
    refine wpAny_bind (wpAny_storeSet_of ho1 rfl ?_ (fits_of_scanBound hb2))
    have ho2 := store_at (es' := es2) (t' := t3) ho1 rfl
    refine wpAny_pure (hR _ (sb1.trans (Heap.SameBut.update _ a _)) ?_)
    exact ⟨_, es2, _, t3, ho2, hex, rfl, fun e he => g1 e (pm.mem_iff.mp he), (pm.map keyS).nodup_iff.mpr nd1, fun k => (m1 k).trans (pm.map keyS).mem_iff.symm, hb2, hf3, hsz, hr3,
      hl.imp id fun z => by rw [hl3]; exact z⟩
  · exact wpAny_pure (hR _ sb1 ⟨_, es1, _, t2, ho1, hex, rfl, g1, nd1, m1, hb1, hf2, rfl, hr, hl⟩)
theorem setS_add_hashed {k : Str} {tk : Tok} {Q : Bool → Shared → Prop} (R : SetS P w s.heap a S n) (room : n + 1 < scanBound)
    (hQ : ∀ h', Heap.SameBut a s.heap h' → SetS P w h' a (fun j => S j || decide (j = k)) (if S k = true then n else n + 1) → Q (!S k) { s with heap := h' }) :
    wpAny (model P w) A (setAddHashed a (Value.str k tk) ((PySem.strKind P w).hash k)) Q E s := by
  obtain ⟨o, es, ep, t, ho, hex, hd, g, nd, hm, hb, hf, hn, hr, hl⟩ := R
  have hkey : (PySem.strKind P w).is k (Value.str k tk) = true := strKind_is P w k tk
  have hsc : (Value.str k tk).scannable = true := rfl
  have hel : ElemsOf (PySem.strKind P w) es.toList := good_elemsS g
  unfold setAddHashed setAddHashedIn
  refine wpAny_holding (wpAny_bind (wpAny_setState_of ho hd hf ?_))
  dsimp only
  rw [byScan_of hsc hb hel]
  simp only [↓reduceIte]
  unfold setAddByScan
  refine wpAny_bind ?_
  refine wpAny_bind (wpAny_rule ?_)
  refine wpAny_bind (wpAny_setScan_of hkey ho hd hf hel ?_)
  cases hfi : List.findIdx? (fun e => (PySem.strKind P w).is k e.2) es.toList with
  | some j =>
    dsimp only
    obtain ⟨hj, pj, _⟩ := List.findIdx?_eq_some_iff_getElem.mp hfi
    have hSk : S k = true := (hm k).2 ((good_memS (P := P) (w := w) g k).2 ⟨es.toList[j], List.getElem_mem hj, pj⟩)
    refine wpAny_pure (wpAny_pure ?_)
    have q := hQ s.heap (Heap.SameBut.refl a s.heap) ⟨o, es, ep, t, ho, hex, hd, g, nd, fun i => by
      rw [Bool.or_eq_true, decide_eq_true_eq, ← hm i]
      exact ⟨fun z => z.elim id (fun e => e ▸ hSk), .inl⟩, hb, hf, by rw [if_pos hSk]; exact hn, hr, hl⟩
    rw [hSk] at q
    exact q
  | none =>
    dsimp only
    have hnk : k ∉ es.toList.map keyS := fun z => by
      obtain ⟨e, he, q⟩ := (good_memS (P := P) (w := w) g k).1 z
      have c := List.findIdx?_eq_none_iff.mp hfi e he
      rw [q] at c
      cases c
    have hSk : S k = false := by
      cases q : S k with
      | false => rfl
      | true => exact absurd ((hm k).1 q) hnk
    have hgw : ∀ (b : Bool) {s₁ : Shared} {Q' : Unit → Shared → Prop}, Q' () s₁ → wpAny (model P w) A (match b with | true => rule "set.scan.the-table-gave-way" | false => pure ()) Q' E s₁ :=
      fun b s₁ Q' q => by cases b <;> first | exact wpAny_pure q | exact wpAny_rule q
    have pm := layNew_perm t es ((PySem.strKind P w).hash k) (Value.str k tk)
    have hf1 := layNew_fits t es ((PySem.strKind P w).hash k) (Value.str k tk)
    have hr1 := layNew_ris t es ((PySem.strKind P w).hash k) (Value.str k tk) hr
    have hl1 := layNew_led t es ((PySem.strKind P w).hash k) (Value.str k tk)
    generalize layNew t es ((PySem.strKind P w).hash k) (Value.str k tk) = Z at pm hf1 hr1 hl1 ⊢
    obtain ⟨es1, t1, wasDummy, gave⟩ := Z
    dsimp only at pm hf1 hr1 hl1 ⊢
    rw [Array.toList_push] at pm
    have pc : es1.toList.Perm (((PySem.strKind P w).hash k, Value.str k tk) :: es.toList) := pm.trans (List.perm_append_singleton _ _)
    have pk : (es1.toList.map keyS).Perm (k :: es.toList.map keyS) := pc.map keyS
    have g1 : ∀ e ∈ es1.toList, GoodS P w e := fun e he => by
      rcases List.mem_cons.mp (pc.mem_iff.mp he) with z | z
      · rw [z]; exact ⟨k, tk, rfl, rfl⟩
      · exact g e z
    have nd1 : (es1.toList.map keyS).Nodup := pk.nodup_iff.mpr (List.nodup_cons.mpr ⟨hnk, nd⟩)
    have m1 : ∀ i, (S i || decide (i = k)) = true ↔ i ∈ es1.toList.map keyS := fun i => by
      rw [Bool.or_eq_true, decide_eq_true_eq, hm i, pk.mem_iff, List.mem_cons]
      exact Or.comm
    have hsz : es1.size = n + 1 := by rw [← Array.length_toList, pc.length_eq, List.length_cons, Array.length_toList, hn]
    have hb1 : es1.size < scanBound := by rw [hsz]; exact room
    have hled : w.params.followText "set-order" = true ∨ t1.led = true := hl.imp id fun z => by rw [hl1]; exact z
    have fin : ∀ h', Heap.SameBut a s.heap h' → SetS P w h' a (fun j => S j || decide (j = k)) es1.size → Q true { s with heap := h' } := fun h' sb r => by
      have q := hQ h' sb
      rw [hSk] at q
      rw [hsz] at r
      exact q r
    refine wpAny_bind (hgw _ ?_)
    split
    · refine wpAny_bind ?_
      rw [hashByValue_scannable 8 hsc]
      refine wpAny_pure ?_
      refine setS_add_tail ?_ ho hex hd g1 nd1 m1 hb1 ?_ ?_ ?_ ?_
      · intro b s₁ Q' q; cases b <;> first | exact wpAny_pure q | exact wpAny_rule q
      · first | (split <;> first | exact hf1 | exact SetTable.fits_plain_off hf1) | exact hf1
      · first | (split <;> exact hr1) | exact hr1
      · first | (split <;> exact hled) | exact hled
      · intro h' sb r; dsimp only; exact wpAny_pure (fin h' sb r)
    · refine wpAny_bind (wpAny_pure ?_)
      simp only [↓reduceIte]
      refine setS_add_tail ?_ ho hex hd g1 nd1 m1 hb1 hf1 hr1 hled ?_
      · intro b s₁ Q' q; cases b <;> first | exact wpAny_pure q | exact wpAny_rule q
      · intro h' sb r; dsimp only; exact wpAny_pure (fin h' sb r)
end
theorem any_snocS (xs : List Str) {i : Nat} (hi : i < xs.length) (y : Str) : (xs.take (i + 1)).contains y = ((xs.take i).contains y || decide (y = xs.getD i Str.empty)) := by
  rw [List.take_add_one, List.getElem?_eq_getElem hi, List.getD_eq_getElem?_getD, List.getElem?_eq_getElem hi, Bool.eq_iff_iff, Bool.or_eq_true, decide_eq_true_eq, List.contains_iff_mem, List.contains_iff_mem, List.mem_append]
  refine or_congr_right ?_
  show y ∈ [xs[i]] ↔ y = xs[i]
  exact List.mem_singleton
section
variable {prog : Program} {w : World} {A : Around} {R : Result → Shared → Prop} {I : Addr} {fp wr : List Addr} {G : Array GenState → Array GenState → Prop} {n : Nat} {P : Nat → Value → Prop} {St : Nat → Shared → Prop}
def MemS (prog : Program) (w : World) (S : Addr) (xs : List Str) (i : Nat) (h : Heap) : Prop := ∃ m, m ≤ i ∧ SetS prog w h S (fun y => (xs.take i).contains y) m
theorem MemS.keep {S : Addr} {xs : List Str} {i : Nat} {h h' : Heap} (m : MemS prog w S xs i h) (e : ∀ o, h.get? S = some o → h'.get? S = some o) : MemS prog w S xs i h' := by
  obtain ⟨m, hm, r⟩ := m
  exact ⟨m, hm, r.at e⟩
theorem loopS (W : WalksS prog w A.in1 I fp wr G n P St) {S : Addr} (hS : S ∉ fp) {xs : List Str} (hn : xs.length = n) (hb : n + 1 < scanBound) (hv : ∀ i v, P i v → ∃ t, v = Value.str (xs.getD i Str.empty) t) :
    ∀ (k i : Nat) (s : Shared), i + k = n → St i s → MemS prog w S xs i s.heap → (∀ z, Moved (S :: wr) G s z → MemS prog w S xs n z.heap → R (.ok (.ret .none)) z) → codeAny (model prog w) A (.builtin "set.update.loop" ⟨[.ref S, .ref I], []⟩) R s := by
  have wider : ∀ b ∈ wr, b ∈ S :: wr := fun b => List.mem_cons_of_mem S
  have apart : S ∉ wr := fun z => hS (W.sub S z)
  have quiet := plainId_quiet PyProof.Rows.F.plain_set_update_loop
  intro k
  induction k with
  | zero =>
    intro i s hi st m fin
    obtain rfl : i = n := by omega
    refine codeAny_builtin PyProof.Rows.F.entry_set_update_loop ?_; rw [Around.under_plainId PyProof.Rows.F.plain_set_update_loop _]
    show wpAny _ A.in1 (pyNext (.ref I) >>= _) _ _ s
    exact wpAny_bind (W.done s _ _ st fun z mv => wpAny_pure (fin z (mv.mono wider) (m.keep fun o e => mv.heap S o apart e)))
  | succ k ih =>
    intro i s hi st m fin
    have hi2 : i < n := by omega
    refine codeAny_builtin PyProof.Rows.F.entry_set_update_loop ?_; rw [Around.under_plainId PyProof.Rows.F.plain_set_update_loop _]
    show wpAny _ A.in1 (pyNext (.ref I) >>= _) _ _ s
    refine wpAny_bind (W.item i s _ _ hi2 st fun v z hP st2 mv => ?_)
    obtain ⟨t, rfl⟩ := hv i v hP
    have m2 := m.keep (h' := z.heap) fun o e => mv.heap S o apart e
    show wpAny _ A.in1 (holding [Value.str (xs.getD i Str.empty) t] (setAdd S (Value.str (xs.getD i Str.empty) t)) >>= _) _ _ z
    refine wpAny_bind (wpAny_holding ?_); unfold setAdd
    refine wpAny_holding (wpAny_bind ((PySem.strKind prog w).pyHash (k := xs.getD i Str.empty) (strKind_is _ _ _ _) ?_))
    obtain ⟨mm, hmm, r2⟩ := m2
    refine setS_add_hashed (s := { z with toks := z.toks + 1 }) r2 (by omega) fun h2 sb m3 => ?_
    have m4 : MemS prog w S xs (i + 1) h2 := ⟨_, by split <;> omega, m3.congr fun y => any_snocS xs (by omega) y⟩
    have same : ∀ b o, b ∉ S :: wr → z.heap.get? b = some o → h2.get? b = some o := fun b o hbn e => by
      rw [sb.2 b fun q => hbn (by rw [q]; exact List.mem_cons_self)]
      exact e
    refine wpAny_pure ⟨quiet _, ih (i + 1) _ (by omega) (W.frame _ z _ _ st2 (Nat.le_succ _) fun b hbf o e => ?_) m4 fun y mv2 m5 => ?_⟩
    · rw [sb.2 b fun q => hS (by rw [← q]; exact hbf)]
      exact e
    · exact fin y (Moved.trans W.gtrans ((mv.mono wider).then_heap (Nat.le_succ _) fun b o hbn e => same b o hbn e) mv2) m5
end
section
variable {prog : Program} {w : World} {A : Around} {E : Value → Shared → Prop} {s : Shared}
set_option maxHeartbeats 6000000 in
theorem newS {l : Addr} {items : Array Value} {xs : List Str} {Q : Value → Shared → Prop} (hh : A.handled = none) (hl : s.heap.IsList l items) (hi : PyProof.Rows.StrsAre items.toList xs) (hb : xs.length + 1 < scanBound)
    (q : ∀ (h2 : Heap) (tk : Nat), MemS prog w s.heap.objs.size xs items.size h2 → (∀ b o, b < s.heap.objs.size → s.heap.get? b = some o → h2.get? b = some o) → Q (.ref s.heap.objs.size) { s with heap := h2, toks := tk }) :
    wpAny (model prog w) A (call (.type "set") [.ref l]) Q E s := by
  have size : xs.length = items.size := by rw [← PyProof.Rows.StrsAre.len_eq hi, Array.length_toList]
  have below : l < s.heap.objs.size := by obtain ⟨o, e, _⟩ := hl; exact Heap.lt_size e
  obtain ⟨c, tl, hmro⟩ := PySem.F.called_set.mro
  have f1 := PySem.F.called_set.made; have f2 := PySem.F.called_set.sub; have f3 := PySem.F.called_set.notType
  have f4 := PySem.F.called_set.canCreate; have f5 := PySem.F.typeCall_set_1 (.ref l)
  refine wpAny_call (codeAny_of_tree ?_); show wpAny _ _ (callAny (.type "set") _) _ _ _
  refine wpAny_pure ⟨Code.quiet_builtin _ (by decide +kernel), codeAny_builtin PySem.F.entry_type_call ?_⟩; rw [Around.under_plain (weight_type_call_type "set" [.ref l] []) rfl]
  repeat (any_goals (first | assumption | wp_step))
  refine codeAny_mono (code_set_led1 (.ref l) (E := E) (Q₁ := fun x z => x = .ref s.heap.objs.size ∧ z = { s with heap := s.heap.push (newSet (!w.params.followText "set-order")) }) ⟨rfl, rfl⟩) fun r z hr => ?_
  cases r with
  | error e => exact hr
  | ok fl =>
    cases fl with
    | ret x =>
      obtain ⟨rfl, rfl⟩ := hr
      generalize hled : (!w.params.followText "set-order") = led
      have g1 : (s.heap.push (newSet led)).get? s.heap.objs.size = some (newSet led) := Heap.get?_push_size _ rfl
      have g2 : Shared.TypeIs { s with heap := s.heap.push (newSet led) } (.ref s.heap.objs.size) "set" := ⟨_, g1, rfl⟩
      have f6 := PySem.F.called_set.init.lookup; have f7 := PySem.F.called_set.init.bind (.ref s.heap.objs.size)
      repeat (any_goals (first | assumption | wp_step))
      have after : codeAny (model prog w) A.in1 (Code.call (Value.builtin "set.__init__") { pos := [Value.ref s.heap.objs.size] ++ { pos := [Value.ref l] : Args }.pos })
          (wants (fun r z => r = .none ∧ ∃ h2 tk, z = { s with heap := h2, toks := tk } ∧ MemS prog w s.heap.objs.size xs items.size h2 ∧ ∀ b o, b < s.heap.objs.size → s.heap.get? b = some o → h2.get? b = some o) E) { s with heap := s.heap.push (newSet led) } := by
        refine codeAny_call_builtin PySem.F.called_set.init.plain PySem.F.entry_set_init (check_set_init_1 g2 ?_)
        obtain ⟨⟨lc, ld, lx, lsl⟩, hol, hcl, nl, hdl⟩ := hl
        simp only at hcl hdl
        subst hcl; subst hdl
        have k1 : (s.heap.push (newSet led)).get? l = some { cls := .type "list", dict := ld, data := .seq items nl, slots := lsl } := Heap.get?_push_of_some _ hol
        have k2 := PySem.F.sub_list_set; have k3 := PySem.F.sub_list_frozenset
        have k4 : (Value.type "list" == Value.type "dict") = false := by decide
        have k5 : (s.heap.push (newSet led)).IsList l items := ⟨_, k1, rfl, nl, rfl⟩
        unfold Builtin.«set.__init__» noKeywords Builtin.Frozenset.updateFrom; generalize hPI : pyIter = PI
        wp_walk
        subst hPI
        refine wpAny_pyIter_list k5 (wpAny_bind (wpAny_runValue ?_))
        have calm : A.in1.in1.in1.handled = none := by simp [hh]
        have ne1 : l ≠ (s.heap.push (newSet led)).objs.size := fun z => absurd (z ▸ below) (by rw [Heap.size_push]; exact Nat.not_lt.mpr (Nat.le_succ _))
        have ne2 : s.heap.objs.size ∉ [(s.heap.push (newSet led)).objs.size, l] := by
          intro z
          rcases List.mem_cons.mp z with z | z
          · rw [Heap.size_push] at z
            exact Nat.ne_of_lt (Nat.lt_succ_self _) z
          · exact Nat.ne_of_gt below (List.mem_singleton.mp z)
        refine loopS ((Walks.list calm _ l ne1 items).toS) ne2 size (by omega) (fun i v hv => SS.strs_at hi i v (by rw [Array.getElem?_toList]; exact hv)) items.size 0 _ (by omega) ⟨⟨_, Heap.get?_push_size _ rfl, rfl, rfl⟩, k5.push _⟩ ?_ ?_
        · have k6 : ((s.heap.push (newSet led)).push { cls := .type "list_iterator", data := .fields #[.ref l, .int 0 0] }).get? s.heap.objs.size = some (newSet led) := Heap.get?_push_of_some _ g1
          refine ⟨0, Nat.le_refl _, _, #[], 0, _, k6, ⟨rfl, rfl, rfl⟩, rfl, (fun e he => by simp at he), (by simp), (fun k => by simp), (by decide), (by rfl), rfl, List.Pairwise.nil, ?_⟩
          show _ ∨ led = true
          rw [← hled]
          cases w.params.followText "set-order"
          · exact .inr rfl
          · exact .inl rfl
        · rintro ⟨h2, g, d, tk, os⟩ mv m
          have eg : g = s.gens := mv.gens
          have ed : d = s.drawn := mv.drawn
          have eo : os = s.os := mv.os
          subst eg; subst ed; subst eo
          show wpAny _ _ _ _ _ _
          refine wpAny_pure ?_
          show wpAny _ _ (ret Value.none) _ _ _
          refine wpAny_pure ⟨rfl, h2, tk, rfl, m, fun b o hbl e => mv.heap b o ?_ (Heap.get?_push_of_some _ (Heap.get?_push_of_some _ e))⟩
          intro z
          rcases List.mem_cons.mp z with z | z
          · exact Nat.ne_of_lt hbl z
          · rw [List.mem_singleton, Heap.size_push] at z
            exact Nat.ne_of_lt (Nat.lt_succ_of_lt hbl) z
      refine codeAny_mono after fun r2 z2 hr2 => ?_
      cases r2 with
      | error e => exact hr2
      | ok fl2 =>
        cases fl2 with
        | ret v =>
          obtain ⟨rfl, h2, tk, rfl, m, keep⟩ := hr2
          repeat (any_goals (first | assumption | wp_step))
          exact q _ _ m keep
        | _ => exact hr2.elim
    | _ => exact hr.elim
theorem sortedS {a : Addr} {S : Str → Bool} {n : Nat} {Q : Value → Shared → Prop} (R : SetS prog w s.heap a S n) (hh : A.handled = none)
    (hQ : ∀ s' p (out : Array Value) (c : Nat) (ns : List Str), (∀ b o, s.heap.get? b = some o → s'.heap.get? b = some o) → s'.gens = s.gens → s'.os = s.os → s.heap.objs.size ≤ p →
      s'.heap.get? p = some (seqObj "list" out c) → PyProof.Rows.StrsAre out.toList ns → (ns.Pairwise fun a b => a.cps.toList ≤ b.cps.toList) → ns.Nodup → (∀ k, k ∈ ns ↔ S k = true) → ns.length = n → Q (.ref p) s') :
    wpAny (model prog w) A (call (.builtin "sorted") [.ref a]) Q E s := by
  obtain ⟨o, es, ep, t, ho, hex, hd, g, nd, hm, hb, hf, hn, hr, hl⟩ := R
  refine Calls.call_function_entry kind_sorted plain_sorted entry_sorted (args_sorted1 _) ?_
  unfold Builtin.«sorted»
  refine wpAny_bind (m := checkCount "sorted" 1 1 _) (wpAny_pure ?_)
  refine wpAny_bind (collect_set (A := A.in1) hh ⟨o, ho, hex.1, hd⟩ hf hb hr hl fun s1 vs k1 hz g1 o1 pm => ?_)
  have hvl : vs.length = n := by rw [pm.length_eq, List.length_map, Array.length_toList]; exact hn
  have hnz : n ≤ sizeLine := by rw [← hn]; exact fits_of_scanBound hb
  have hI : PyProof.Rows.StrsAre vs (vs.map svS) := strs_sv fun v hv => by
    obtain ⟨e, he, q⟩ := List.mem_map.mp (pm.mem_iff.mp hv)
    obtain ⟨k, tk, h1, _⟩ := g e he
    exact ⟨k, tk, by rw [← q]; exact h1⟩
  have pk : (vs.map svS).Perm (es.toList.map keyS) := by
    have q := pm.map svS
    rw [List.map_map] at q
    exact q
  refine wpAny_bind (wpAny_newList ?_ (by rw [hvl]; exact hnz))
  have hoL : (s1.heap.push (seqObj "list" vs.toArray 0)).get? s1.heap.objs.size = some (seqObj "list" vs.toArray 0) := Heap.get?_push_size _ rfl
  refine wpAny_bind (wpAny_holding (wpAny_call_entry slot_list_sort ⟨_, hoL, rfl⟩ entry_list_sort (SrtO.list_sort_ord swo_str hoL (by rw [hvl]; exact hnz) (fun h2 => strs_sortable hI h2) fun out a1 a2 => ⟨_, rfl, ?_⟩) (args_list_sort _)))
  obtain ⟨k1', k2', k3'⟩ := strs_out hI a1 a2
  obtain ⟨c, hc⟩ := sortedHeap_at (vs := vs) (out := out.toArray) hoL
  have pn : (out.map svS).Perm (es.toList.map keyS) := k2'.trans pk
  refine wpAny_pure ⟨_, rfl, hQ _ s1.heap.objs.size out.toArray c (out.map svS) (fun b u e => ?_) g1 o1 hz hc (by simpa using k1') k3' (pn.nodup_iff.mpr nd) (fun k => by rw [pn.mem_iff, ← hm k]) ?_⟩
  · have q := k1 b u e
    have hlt := Heap.lt_size q
    show (sortedHeap (s1.heap.push (seqObj "list" vs.toArray 0)) s1.heap.objs.size vs out.toArray).get? b = some u
    rw [sortedHeap_old (Nat.ne_of_lt hlt) (by rw [size_push']; exact Nat.lt_succ_of_lt hlt)]
    exact Heap.get?_push_of_some _ q
  · rw [pn.length_eq, List.length_map, Array.length_toList]; exact hn
end
/-- sorted(set(xs)) -/
def tSortSetS (K : PySem.W.Frag) (ta : TE) : TE := fun σ H Q => ta σ H fun x H1 => ∃ (l : Addr) (xs : List Str), x = .ref l ∧ SqL K H1 l (xs.map V.str) ∧ xs.length ≤ 1000 ∧
  ∀ (ys : List Str) (p : Addr), (ys.Pairwise fun a b : Str => a.cps.toList ≤ b.cps.toList) → ys.Nodup → (∀ k, k ∈ ys ↔ k ∈ xs) → H1 p = none → Q (.ref p) (upd H1 p (.lst (ys.map V.str)))
section
variable {X : Cx}
theorem pe_sortSetS {a : Expr} {ta : TE} {p p2 q pos : Pos} (hc : X.calm = true) (g1 : Gl X "sorted") (m1 : X.mg "sorted" = none) (g2 : Gl X "set") (m2 : X.mg "set" = none) (ha : PE X a ta)
    (na : starEach [a] X.env = (false, eval a X.env) :: starEach [] X.env := by rfl) : PE X (.Call (.Name "sorted" p) [.Call (.Name "set" p2) [a] [] q] [] pos) (tSortSetS X.K ta) := by
  refine ⟨fun pins s σ H Q I h => ?_⟩
  refine Call_ (ld_blt I g1 m1 boot_sorted (PyProof.Rows.callWith_builtin1 (PyProof.Rows.args_cons ?_ rfl) rfl rfl))
  refine Call_ (ld_blt I g2 m2 boot_set (PyProof.Rows.callWith_type1 (PyProof.Rows.args_cons (thn (ha.run pins s σ H _ I h) fun v s1 ⟨x, H1, I1, r1, q1⟩ => PyProof.Rows.args_nil ?_) na) na rfl))
  obtain ⟨l, xs, rfl, hq, hl, q2⟩ := q1
  cases r1
  obtain ⟨its, r, pl, hz⟩ := I1.list hq
  have big : (1002 : Nat) < scanBound := by unfold scanBound; decide
  have hsz : its.toArray.size = xs.length := by rw [List.size_toArray, ← r.length, List.length_map]
  refine newS (I1.ok.hd hc) pl.isList (xs := xs) (by simpa using strsAre_of r) (by omega) fun h2 tk m keep => PyProof.Rows.args_nil ?_
  rw [hsz] at m
  obtain ⟨mm, hmm, R⟩ := m
  refine sortedS (s := { s1 with heap := h2, toks := tk }) R (I1.ok.hd hc) fun s' p out c ns kp hg ho hp hout hare hle hnd hmem hlen => ?_
  have I2 : Inv X pins σ H1 { s1 with heap := h2, toks := tk } := I1.kept fun b o e => keep b o (Heap.lt_size e) e
  generalize ({ s1 with heap := h2, toks := tk } : Shared) = z at I2 kp hg ho hp
  have hlen2 : (ns.map V.str).length ≤ sizeLine := by rw [List.length_map, hlen]; rw [List.length_map] at hz; omega
  have hn : H1 p = none := I2.hok.fresh hp
  have J : Inv X pins σ (upd H1 p (.lst (ns.map V.str))) { z with heap := s'.heap, gens := s'.gens, drawn := s'.drawn, toks := s'.toks } :=
    I2.call (ch := []) (Un.laid kp hp hn) (I2.hok.laid kp hp ⟨hlen2, out.toList, c, vals_of_strs hare, hout⟩) (by rw [hg]; exact I2.bare) (fun _ z => nomatch z)
  have e : s' = { z with heap := s'.heap, gens := s'.gens, drawn := s'.drawn, toks := s'.toks } := by
    cases s'
    cases z
    cases ho
    rfl
  rw [e]
  exact ⟨.ref p, _, J, rfl, q2 ns p hle hnd (fun k => by rw [hmem k, List.take_length, List.contains_iff_mem]) hn⟩
end

abbrev svI : Value → Int := SrtO.iv
theorem intsLen : ∀ {vs : List Value} {ns : List Int}, IntsAre vs ns → vs.length = ns.length
  | _, _, .nil => rfl
  | _, _, .cons n t r => congrArg (· + 1) (intsLen r)
theorem intsAt : ∀ {vs : List Value} {ns : List Int}, IntsAre vs ns → ∀ (i : Nat) (v : Value), vs[i]? = some v → ∃ t, v = Value.int (ns.getD i 0) t
  | _, _, .nil, i, v, h => by simp at h
  | _, _, .cons n t r, 0, v, h => ⟨t, by simpa using h.symm⟩
  | _, _, .cons n t r, i + 1, v, h => by
    obtain ⟨u, e⟩ := intsAt r i v (by simpa using h)
    exact ⟨u, by simpa using e⟩

/-! ### I -/
def keyI (e : Int × Value) : Int := svI e.2
def GoodI (P : Program) (w : World) (e : Int × Value) : Prop := ∃ k tk, e.2 = Value.int k tk ∧ e.1 = (intKind P w).hash k
/-- the set at a: S its members, n their number; its table rises and can be walked -/
def SetI (P : Program) (w : World) (h : Heap) (a : Addr) (S : Int → Bool) (n : Nat) : Prop :=
  ∃ o es ep t, h.get? a = some o ∧ o.ExactSet ∧ o.data = .set es ep t ∧ (∀ e ∈ es.toList, GoodI P w e) ∧ (es.toList.map keyI).Nodup ∧ (∀ k, S k = true ↔ k ∈ es.toList.map keyI) ∧
    es.size < scanBound ∧ t.fits es.size = true ∧ es.size = n ∧ Ris t.place.toList ∧ (w.params.followText "set-order" = true ∨ t.led = true)
section
variable {P : Program} {w : World} {h h' : Heap} {a : Addr} {S : Int → Bool} {n : Nat}
theorem SetI.at (R : SetI P w h a S n) (k : ∀ o, h.get? a = some o → h'.get? a = some o) : SetI P w h' a S n := by
  obtain ⟨o, es, ep, t, ho, r⟩ := R
  exact ⟨o, es, ep, t, k o ho, r⟩
theorem SetI.congr {S' : Int → Bool} (R : SetI P w h a S n) (e : ∀ k, S' k = S k) : SetI P w h a S' n := by
  have q : S' = S := funext e
  rw [q]; exact R
theorem good_elemsI {l : List (Int × Value)} (g : ∀ e ∈ l, GoodI P w e) : ElemsOf (intKind P w) l := fun e he => by
  obtain ⟨k, tk, h1, h2⟩ := g e he
  exact ⟨⟨k, by rw [h1]; exact intKind_is P w k tk, h2⟩, by rw [h1] <;> rfl⟩
theorem good_isI {e : Int × Value} (g : GoodI P w e) (k : Int) : (intKind P w).is k e.2 = true ↔ keyI e = k := by
  obtain ⟨k0, tk, h1, _⟩ := g
  unfold keyI
  rw [h1]
  show ((k0 == k) = true) ↔ k0 = k
  exact beq_iff_eq
theorem good_memI {l : List (Int × Value)} (g : ∀ e ∈ l, GoodI P w e) (k : Int) : k ∈ l.map keyI ↔ ∃ e ∈ l, (intKind P w).is k e.2 = true := by
  rw [List.mem_map]
  constructor
  · rintro ⟨e, he, q⟩
    exact ⟨e, he, (good_isI (g e he) k).2 q⟩
  · rintro ⟨e, he, q⟩
    exact ⟨e, he, (good_isI (g e he) k).1 q⟩
end
section
variable {P : Program} {w : World} {A : Around} {E : Value → Shared → Prop} {s : Shared} {a : Addr} {S : Int → Bool} {n : Nat}
theorem setI_add_tail {g : Bool → Sem Unit} (hg : ∀ (b : Bool) (s₁ : Shared) (Q' : Unit → Shared → Prop), Q' () s₁ → wpAny (model P w) A (g b) Q' E s₁)
    {o : Obj} {es : Array (Int × Value)} {ep : Nat} {t : SetTable} (ho : s.heap.get? a = some o) (hex : o.ExactSet) (hd : o.data = .set es ep t)
    {es1 : Array (Int × Value)} {t2 : SetTable} {S' : Int → Bool} (g1 : ∀ e ∈ es1.toList, GoodI P w e) (nd1 : (es1.toList.map keyI).Nodup) (m1 : ∀ k, S' k = true ↔ k ∈ es1.toList.map keyI)
    (hb1 : es1.size < scanBound) (hf2 : t2.fits es1.size = true) (hr : Ris t2.place.toList) (hl : w.params.followText "set-order" = true ∨ t2.led = true) {wasDummy : Bool} {R : Option Bool → Shared → Prop}
    (hR : ∀ h', Heap.SameBut a s.heap h' → SetI P w h' a S' es1.size → R (some true) { s with heap := h' }) :
    wpAny (model P w) A (do
        storeSet a es1 t2
        if (!wasDummy && t2.tooFull) = true then do
            g (relayAll t2 es1 (SetTable.grown es1.size)).2.2
            storeSet a (relayAll t2 es1 (SetTable.grown es1.size)).1 (relayAll t2 es1 (SetTable.grown es1.size)).2.1
            pure (some true)
          else pure (some true)) R E s := by
  refine wpAny_bind (wpAny_storeSet_of ho hd ?_ (fits_of_scanBound hb1))
  have ho1 := store_at (es' := es1) (t' := t2) ho hd
  have sb1 := Heap.SameBut.update s.heap a (Obj.putSet es1 t2)
  split
  · have pm := relayAll_perm t2 es1 (SetTable.grown es1.size)
    have hf3 := relayAll_fits t2 es1 (SetTable.grown es1.size)
    have hr3 := relayAll_ris t2 es1 (SetTable.grown es1.size)
    have hl3 := relayAll_led t2 es1 (SetTable.grown es1.size)
    generalize relayAll t2 es1 (SetTable.grown es1.size) = Z at pm hf3 hr3 hl3 ⊢
    obtain ⟨es2, t3, gave⟩ := Z
    dsimp only at pm hf3 hr3 hl3 ⊢
    have hsz : es2.size = es1.size := by rw [← Array.length_toList, pm.length_eq, Array.length_toList]
    have hb2 : es2.size < scanBound := by rw [hsz]; exact hb1
    refine wpAny_bind (hg _ _ _ ?_)
    refine wpAny_bind (wpAny_storeSet_of ho1 rfl ?_ (fits_of_scanBound hb2))
    have ho2 := store_at (es' := es2) (t' := t3) ho1 rfl
    refine wpAny_pure (hR _ (sb1.trans (Heap.SameBut.update _ a _)) ?_)
    exact ⟨_, es2, _, t3, ho2, hex, rfl, fun e he => g1 e (pm.mem_iff.mp he), (pm.map keyI).nodup_iff.mpr nd1, fun k => (m1 k).trans (pm.map keyI).mem_iff.symm, hb2, hf3, hsz, hr3,
      hl.imp id fun z => by rw [hl3]; exact z⟩
  · exact wpAny_pure (hR _ sb1 ⟨_, es1, _, t2, ho1, hex, rfl, g1, nd1, m1, hb1, hf2, rfl, hr, hl⟩)
theorem setI_add_hashed {k : Int} {tk : Tok} {Q : Bool → Shared → Prop} (R : SetI P w s.heap a S n) (room : n + 1 < scanBound)
    (hQ : ∀ h', Heap.SameBut a s.heap h' → SetI P w h' a (fun j => S j || decide (j = k)) (if S k = true then n else n + 1) → Q (!S k) { s with heap := h' }) :
    wpAny (model P w) A (setAddHashed a (Value.int k tk) ((intKind P w).hash k)) Q E s := by
  obtain ⟨o, es, ep, t, ho, hex, hd, g, nd, hm, hb, hf, hn, hr, hl⟩ := R
  have hkey : (intKind P w).is k (Value.int k tk) = true := intKind_is P w k tk
  have hsc : (Value.int k tk).scannable = true := rfl
  have hel : ElemsOf (intKind P w) es.toList := good_elemsI g
  unfold setAddHashed setAddHashedIn
  refine wpAny_holding (wpAny_bind (wpAny_setState_of ho hd hf ?_))
  dsimp only
  rw [byScan_of hsc hb hel]
  simp only [↓reduceIte]
  unfold setAddByScan
  refine wpAny_bind ?_
  refine wpAny_bind (wpAny_rule ?_)
  refine wpAny_bind (wpAny_setScan_of hkey ho hd hf hel ?_)
  cases hfi : List.findIdx? (fun e => (intKind P w).is k e.2) es.toList with
  | some j =>
    dsimp only
    obtain ⟨hj, pj, _⟩ := List.findIdx?_eq_some_iff_getElem.mp hfi
    have hSk : S k = true := (hm k).2 ((good_memI (P := P) (w := w) g k).2 ⟨es.toList[j], List.getElem_mem hj, pj⟩)
    refine wpAny_pure (wpAny_pure ?_)
    have q := hQ s.heap (Heap.SameBut.refl a s.heap) ⟨o, es, ep, t, ho, hex, hd, g, nd, fun i => by
      rw [Bool.or_eq_true, decide_eq_true_eq, ← hm i]
      exact ⟨fun z => z.elim id (fun e => e ▸ hSk), .inl⟩, hb, hf, by rw [if_pos hSk]; exact hn, hr, hl⟩
    rw [hSk] at q
    exact q
  | none =>
    dsimp only
    have hnk : k ∉ es.toList.map keyI := fun z => by
      obtain ⟨e, he, q⟩ := (good_memI (P := P) (w := w) g k).1 z
      have c := List.findIdx?_eq_none_iff.mp hfi e he
      rw [q] at c
      cases c
    have hSk : S k = false := by
      cases q : S k with
      | false => rfl
      | true => exact absurd ((hm k).1 q) hnk
    have hgw : ∀ (b : Bool) {s₁ : Shared} {Q' : Unit → Shared → Prop}, Q' () s₁ → wpAny (model P w) A (match b with | true => rule "set.scan.the-table-gave-way" | false => pure ()) Q' E s₁ :=
      fun b s₁ Q' q => by cases b <;> first | exact wpAny_pure q | exact wpAny_rule q
    have pm := layNew_perm t es ((intKind P w).hash k) (Value.int k tk)
    have hf1 := layNew_fits t es ((intKind P w).hash k) (Value.int k tk)
    have hr1 := layNew_ris t es ((intKind P w).hash k) (Value.int k tk) hr
    have hl1 := layNew_led t es ((intKind P w).hash k) (Value.int k tk)
    generalize layNew t es ((intKind P w).hash k) (Value.int k tk) = Z at pm hf1 hr1 hl1 ⊢
    obtain ⟨es1, t1, wasDummy, gave⟩ := Z
    dsimp only at pm hf1 hr1 hl1 ⊢
    rw [Array.toList_push] at pm
    have pc : es1.toList.Perm (((intKind P w).hash k, Value.int k tk) :: es.toList) := pm.trans (List.perm_append_singleton _ _)
    have pk : (es1.toList.map keyI).Perm (k :: es.toList.map keyI) := pc.map keyI
    have g1 : ∀ e ∈ es1.toList, GoodI P w e := fun e he => by
      rcases List.mem_cons.mp (pc.mem_iff.mp he) with z | z
      · rw [z]; exact ⟨k, tk, rfl, rfl⟩
      · exact g e z
    have nd1 : (es1.toList.map keyI).Nodup := pk.nodup_iff.mpr (List.nodup_cons.mpr ⟨hnk, nd⟩)
    have m1 : ∀ i, (S i || decide (i = k)) = true ↔ i ∈ es1.toList.map keyI := fun i => by
      rw [Bool.or_eq_true, decide_eq_true_eq, hm i, pk.mem_iff, List.mem_cons]
      exact Or.comm
    have hsz : es1.size = n + 1 := by rw [← Array.length_toList, pc.length_eq, List.length_cons, Array.length_toList, hn]
    have hb1 : es1.size < scanBound := by rw [hsz]; exact room
    have hled : w.params.followText "set-order" = true ∨ t1.led = true := hl.imp id fun z => by rw [hl1]; exact z
    have fin : ∀ h', Heap.SameBut a s.heap h' → SetI P w h' a (fun j => S j || decide (j = k)) es1.size → Q true { s with heap := h' } := fun h' sb r => by
      have q := hQ h' sb
      rw [hSk] at q
      rw [hsz] at r
      exact q r
    refine wpAny_bind (hgw _ ?_)
    split
    · refine wpAny_bind ?_
      rw [hashByValue_scannable 8 hsc]
      refine wpAny_pure ?_
      refine setI_add_tail ?_ ho hex hd g1 nd1 m1 hb1 ?_ ?_ ?_ ?_
      · intro b s₁ Q' q; cases b <;> first | exact wpAny_pure q | exact wpAny_rule q
      · first | (split <;> first | exact hf1 | exact SetTable.fits_plain_off hf1) | exact hf1
      · first | (split <;> exact hr1) | exact hr1
      · first | (split <;> exact hled) | exact hled
      · intro h' sb r; dsimp only; exact wpAny_pure (fin h' sb r)
    · refine wpAny_bind (wpAny_pure ?_)
      simp only [↓reduceIte]
      refine setI_add_tail ?_ ho hex hd g1 nd1 m1 hb1 hf1 hr1 hled ?_
      · intro b s₁ Q' q; cases b <;> first | exact wpAny_pure q | exact wpAny_rule q
      · intro h' sb r; dsimp only; exact wpAny_pure (fin h' sb r)
end
theorem any_snocI (xs : List Int) {i : Nat} (hi : i < xs.length) (y : Int) : (xs.take (i + 1)).contains y = ((xs.take i).contains y || decide (y = xs.getD i 0)) := by
  rw [List.take_add_one, List.getElem?_eq_getElem hi, List.getD_eq_getElem?_getD, List.getElem?_eq_getElem hi, Bool.eq_iff_iff, Bool.or_eq_true, decide_eq_true_eq, List.contains_iff_mem, List.contains_iff_mem, List.mem_append]
  refine or_congr_right ?_
  show y ∈ [xs[i]] ↔ y = xs[i]
  exact List.mem_singleton
section
variable {prog : Program} {w : World} {A : Around} {R : Result → Shared → Prop} {I : Addr} {fp wr : List Addr} {G : Array GenState → Array GenState → Prop} {n : Nat} {P : Nat → Value → Prop} {St : Nat → Shared → Prop}
def MemI (prog : Program) (w : World) (S : Addr) (xs : List Int) (i : Nat) (h : Heap) : Prop := ∃ m, m ≤ i ∧ SetI prog w h S (fun y => (xs.take i).contains y) m
theorem MemI.keep {S : Addr} {xs : List Int} {i : Nat} {h h' : Heap} (m : MemI prog w S xs i h) (e : ∀ o, h.get? S = some o → h'.get? S = some o) : MemI prog w S xs i h' := by
  obtain ⟨m, hm, r⟩ := m
  exact ⟨m, hm, r.at e⟩
theorem loopI (W : WalksS prog w A.in1 I fp wr G n P St) {S : Addr} (hS : S ∉ fp) {xs : List Int} (hn : xs.length = n) (hb : n + 1 < scanBound) (hv : ∀ i v, P i v → ∃ t, v = Value.int (xs.getD i 0) t) :
    ∀ (k i : Nat) (s : Shared), i + k = n → St i s → MemI prog w S xs i s.heap → (∀ z, Moved (S :: wr) G s z → MemI prog w S xs n z.heap → R (.ok (.ret .none)) z) → codeAny (model prog w) A (.builtin "set.update.loop" ⟨[.ref S, .ref I], []⟩) R s := by
  have wider : ∀ b ∈ wr, b ∈ S :: wr := fun b => List.mem_cons_of_mem S
  have apart : S ∉ wr := fun z => hS (W.sub S z)
  have quiet := plainId_quiet PyProof.Rows.F.plain_set_update_loop
  intro k
  induction k with
  | zero =>
    intro i s hi st m fin
    obtain rfl : i = n := by omega
    refine codeAny_builtin PyProof.Rows.F.entry_set_update_loop ?_; rw [Around.under_plainId PyProof.Rows.F.plain_set_update_loop _]
    show wpAny _ A.in1 (pyNext (.ref I) >>= _) _ _ s
    exact wpAny_bind (W.done s _ _ st fun z mv => wpAny_pure (fin z (mv.mono wider) (m.keep fun o e => mv.heap S o apart e)))
  | succ k ih =>
    intro i s hi st m fin
    have hi2 : i < n := by omega
    refine codeAny_builtin PyProof.Rows.F.entry_set_update_loop ?_; rw [Around.under_plainId PyProof.Rows.F.plain_set_update_loop _]
    show wpAny _ A.in1 (pyNext (.ref I) >>= _) _ _ s
    refine wpAny_bind (W.item i s _ _ hi2 st fun v z hP st2 mv => ?_)
    obtain ⟨t, rfl⟩ := hv i v hP
    have m2 := m.keep (h' := z.heap) fun o e => mv.heap S o apart e
    show wpAny _ A.in1 (holding [Value.int (xs.getD i 0) t] (setAdd S (Value.int (xs.getD i 0) t)) >>= _) _ _ z
    refine wpAny_bind (wpAny_holding ?_); unfold setAdd
    refine wpAny_holding (wpAny_bind ((intKind prog w).pyHash (k := xs.getD i 0) (intKind_is _ _ _ _) ?_))
    obtain ⟨mm, hmm, r2⟩ := m2
    refine setI_add_hashed (s := { z with toks := z.toks + 1 }) r2 (by omega) fun h2 sb m3 => ?_
    have m4 : MemI prog w S xs (i + 1) h2 := ⟨_, by split <;> omega, m3.congr fun y => any_snocI xs (by omega) y⟩
    have same : ∀ b o, b ∉ S :: wr → z.heap.get? b = some o → h2.get? b = some o := fun b o hbn e => by
      rw [sb.2 b fun q => hbn (by rw [q]; exact List.mem_cons_self)]
      exact e
    refine wpAny_pure ⟨quiet _, ih (i + 1) _ (by omega) (W.frame _ z _ _ st2 (Nat.le_succ _) fun b hbf o e => ?_) m4 fun y mv2 m5 => ?_⟩
    · rw [sb.2 b fun q => hS (by rw [← q]; exact hbf)]
      exact e
    · exact fin y (Moved.trans W.gtrans ((mv.mono wider).then_heap (Nat.le_succ _) fun b o hbn e => same b o hbn e) mv2) m5
end
section
variable {prog : Program} {w : World} {A : Around} {E : Value → Shared → Prop} {s : Shared}
set_option maxHeartbeats 6000000 in
theorem newI {l : Addr} {items : Array Value} {xs : List Int} {Q : Value → Shared → Prop} (hh : A.handled = none) (hl : s.heap.IsList l items) (hi : IntsAre items.toList xs) (hb : xs.length + 1 < scanBound)
    (q : ∀ (h2 : Heap) (tk : Nat), MemI prog w s.heap.objs.size xs items.size h2 → (∀ b o, b < s.heap.objs.size → s.heap.get? b = some o → h2.get? b = some o) → Q (.ref s.heap.objs.size) { s with heap := h2, toks := tk }) :
    wpAny (model prog w) A (call (.type "set") [.ref l]) Q E s := by
  have size : xs.length = items.size := by rw [← intsLen hi, Array.length_toList]
  have below : l < s.heap.objs.size := by obtain ⟨o, e, _⟩ := hl; exact Heap.lt_size e
  obtain ⟨c, tl, hmro⟩ := PySem.F.called_set.mro
  have f1 := PySem.F.called_set.made; have f2 := PySem.F.called_set.sub; have f3 := PySem.F.called_set.notType
  have f4 := PySem.F.called_set.canCreate; have f5 := PySem.F.typeCall_set_1 (.ref l)
  refine wpAny_call (codeAny_of_tree ?_); show wpAny _ _ (callAny (.type "set") _) _ _ _
  refine wpAny_pure ⟨Code.quiet_builtin _ (by decide +kernel), codeAny_builtin PySem.F.entry_type_call ?_⟩; rw [Around.under_plain (weight_type_call_type "set" [.ref l] []) rfl]
  repeat (any_goals (first | assumption | wp_step))
  refine codeAny_mono (code_set_led1 (.ref l) (E := E) (Q₁ := fun x z => x = .ref s.heap.objs.size ∧ z = { s with heap := s.heap.push (newSet (!w.params.followText "set-order")) }) ⟨rfl, rfl⟩) fun r z hr => ?_
  cases r with
  | error e => exact hr
  | ok fl =>
    cases fl with
    | ret x =>
      obtain ⟨rfl, rfl⟩ := hr
      generalize hled : (!w.params.followText "set-order") = led
      have g1 : (s.heap.push (newSet led)).get? s.heap.objs.size = some (newSet led) := Heap.get?_push_size _ rfl
      have g2 : Shared.TypeIs { s with heap := s.heap.push (newSet led) } (.ref s.heap.objs.size) "set" := ⟨_, g1, rfl⟩
      have f6 := PySem.F.called_set.init.lookup; have f7 := PySem.F.called_set.init.bind (.ref s.heap.objs.size)
      repeat (any_goals (first | assumption | wp_step))
      have after : codeAny (model prog w) A.in1 (Code.call (Value.builtin "set.__init__") { pos := [Value.ref s.heap.objs.size] ++ { pos := [Value.ref l] : Args }.pos })
          (wants (fun r z => r = .none ∧ ∃ h2 tk, z = { s with heap := h2, toks := tk } ∧ MemI prog w s.heap.objs.size xs items.size h2 ∧ ∀ b o, b < s.heap.objs.size → s.heap.get? b = some o → h2.get? b = some o) E) { s with heap := s.heap.push (newSet led) } := by
        refine codeAny_call_builtin PySem.F.called_set.init.plain PySem.F.entry_set_init (check_set_init_1 g2 ?_)
        obtain ⟨⟨lc, ld, lx, lsl⟩, hol, hcl, nl, hdl⟩ := hl
        simp only at hcl hdl
        subst hcl; subst hdl
        have k1 : (s.heap.push (newSet led)).get? l = some { cls := .type "list", dict := ld, data := .seq items nl, slots := lsl } := Heap.get?_push_of_some _ hol
        have k2 := PySem.F.sub_list_set; have k3 := PySem.F.sub_list_frozenset
        have k4 : (Value.type "list" == Value.type "dict") = false := by decide
        have k5 : (s.heap.push (newSet led)).IsList l items := ⟨_, k1, rfl, nl, rfl⟩
        unfold Builtin.«set.__init__» noKeywords Builtin.Frozenset.updateFrom; generalize hPI : pyIter = PI
        wp_walk
        subst hPI
        refine wpAny_pyIter_list k5 (wpAny_bind (wpAny_runValue ?_))
        have calm : A.in1.in1.in1.handled = none := by simp [hh]
        have ne1 : l ≠ (s.heap.push (newSet led)).objs.size := fun z => absurd (z ▸ below) (by rw [Heap.size_push]; exact Nat.not_lt.mpr (Nat.le_succ _))
        have ne2 : s.heap.objs.size ∉ [(s.heap.push (newSet led)).objs.size, l] := by
          intro z
          rcases List.mem_cons.mp z with z | z
          · rw [Heap.size_push] at z
            exact Nat.ne_of_lt (Nat.lt_succ_self _) z
          · exact Nat.ne_of_gt below (List.mem_singleton.mp z)
        refine loopI ((Walks.list calm _ l ne1 items).toS) ne2 size (by omega) (fun i v hv => intsAt hi i v (by rw [Array.getElem?_toList]; exact hv)) items.size 0 _ (by omega) ⟨⟨_, Heap.get?_push_size _ rfl, rfl, rfl⟩, k5.push _⟩ ?_ ?_
        · have k6 : ((s.heap.push (newSet led)).push { cls := .type "list_iterator", data := .fields #[.ref l, .int 0 0] }).get? s.heap.objs.size = some (newSet led) := Heap.get?_push_of_some _ g1
          refine ⟨0, Nat.le_refl _, _, #[], 0, _, k6, ⟨rfl, rfl, rfl⟩, rfl, (fun e he => by simp at he), (by simp), (fun k => by simp), (by decide), (by rfl), rfl, List.Pairwise.nil, ?_⟩
          show _ ∨ led = true
          rw [← hled]
          cases w.params.followText "set-order"
          · exact .inr rfl
          · exact .inl rfl
        · rintro ⟨h2, g, d, tk, os⟩ mv m
          have eg : g = s.gens := mv.gens
          have ed : d = s.drawn := mv.drawn
          have eo : os = s.os := mv.os
          subst eg; subst ed; subst eo
          show wpAny _ _ _ _ _ _
          refine wpAny_pure ?_
          show wpAny _ _ (ret Value.none) _ _ _
          refine wpAny_pure ⟨rfl, h2, tk, rfl, m, fun b o hbl e => mv.heap b o ?_ (Heap.get?_push_of_some _ (Heap.get?_push_of_some _ e))⟩
          intro z
          rcases List.mem_cons.mp z with z | z
          · exact Nat.ne_of_lt hbl z
          · rw [List.mem_singleton, Heap.size_push] at z
            exact Nat.ne_of_lt (Nat.lt_succ_of_lt hbl) z
      refine codeAny_mono after fun r2 z2 hr2 => ?_
      cases r2 with
      | error e => exact hr2
      | ok fl2 =>
        cases fl2 with
        | ret v =>
          obtain ⟨rfl, h2, tk, rfl, m, keep⟩ := hr2
          repeat (any_goals (first | assumption | wp_step))
          exact q _ _ m keep
        | _ => exact hr2.elim
    | _ => exact hr.elim
theorem sortedI {a : Addr} {S : Int → Bool} {n : Nat} {Q : Value → Shared → Prop} (R : SetI prog w s.heap a S n) (hh : A.handled = none)
    (hQ : ∀ s' p (out : Array Value) (c : Nat) (ns : List Int), (∀ b o, s.heap.get? b = some o → s'.heap.get? b = some o) → s'.gens = s.gens → s'.os = s.os → s.heap.objs.size ≤ p →
      s'.heap.get? p = some (seqObj "list" out c) → IntsAre out.toList ns → (ns.Pairwise fun a b => a ≤ b) → ns.Nodup → (∀ k, k ∈ ns ↔ S k = true) → ns.length = n → Q (.ref p) s') :
    wpAny (model prog w) A (call (.builtin "sorted") [.ref a]) Q E s := by
  obtain ⟨o, es, ep, t, ho, hex, hd, g, nd, hm, hb, hf, hn, hr, hl⟩ := R
  refine Calls.call_function_entry kind_sorted plain_sorted entry_sorted (args_sorted1 _) ?_
  unfold Builtin.«sorted»
  refine wpAny_bind (m := checkCount "sorted" 1 1 _) (wpAny_pure ?_)
  refine wpAny_bind (collect_set (A := A.in1) hh ⟨o, ho, hex.1, hd⟩ hf hb hr hl fun s1 vs k1 hz g1 o1 pm => ?_)
  have hvl : vs.length = n := by rw [pm.length_eq, List.length_map, Array.length_toList]; exact hn
  have hnz : n ≤ sizeLine := by rw [← hn]; exact fits_of_scanBound hb
  have hI : IntsAre vs (vs.map svI) := SrtO.ints_iv fun v hv => by
    obtain ⟨e, he, q⟩ := List.mem_map.mp (pm.mem_iff.mp hv)
    obtain ⟨k, tk, h1, _⟩ := g e he
    exact ⟨k, tk, by rw [← q]; exact h1⟩
  have pk : (vs.map svI).Perm (es.toList.map keyI) := by
    have q := pm.map svI
    rw [List.map_map] at q
    exact q
  refine wpAny_bind (wpAny_newList ?_ (by rw [hvl]; exact hnz))
  have hoL : (s1.heap.push (seqObj "list" vs.toArray 0)).get? s1.heap.objs.size = some (seqObj "list" vs.toArray 0) := Heap.get?_push_size _ rfl
  refine wpAny_bind (wpAny_holding (wpAny_call_entry slot_list_sort ⟨_, hoL, rfl⟩ entry_list_sort (SrtO.list_sort_ord SrtO.swo_int hoL (by rw [hvl]; exact hnz) (fun h2 => SrtO.ints_sortable hI h2) fun out a1 a2 => ⟨_, rfl, ?_⟩) (args_list_sort _)))
  obtain ⟨k1', k2', k3'⟩ := SrtO.ints_out hI a1 a2
  obtain ⟨c, hc⟩ := sortedHeap_at (vs := vs) (out := out.toArray) hoL
  have pn : (out.map svI).Perm (es.toList.map keyI) := k2'.trans pk
  refine wpAny_pure ⟨_, rfl, hQ _ s1.heap.objs.size out.toArray c (out.map svI) (fun b u e => ?_) g1 o1 hz hc (by simpa using k1') k3' (pn.nodup_iff.mpr nd) (fun k => by rw [pn.mem_iff, ← hm k]) ?_⟩
  · have q := k1 b u e
    have hlt := Heap.lt_size q
    show (sortedHeap (s1.heap.push (seqObj "list" vs.toArray 0)) s1.heap.objs.size vs out.toArray).get? b = some u
    rw [sortedHeap_old (Nat.ne_of_lt hlt) (by rw [size_push']; exact Nat.lt_succ_of_lt hlt)]
    exact Heap.get?_push_of_some _ q
  · rw [pn.length_eq, List.length_map, Array.length_toList]; exact hn
end
/-- sorted(set(xs)) -/
def tSortSetI (K : PySem.W.Frag) (ta : TE) : TE := fun σ H Q => ta σ H fun x H1 => ∃ (l : Addr) (xs : List Int), x = .ref l ∧ SqL K H1 l (xs.map V.int) ∧ xs.length ≤ 1000 ∧
  ∀ (ys : List Int) (p : Addr), (ys.Pairwise fun a b : Int => a ≤ b) → ys.Nodup → (∀ k, k ∈ ys ↔ k ∈ xs) → H1 p = none → Q (.ref p) (upd H1 p (.lst (ys.map V.int)))
section
variable {X : Cx}
theorem pe_sortSetI {a : Expr} {ta : TE} {p p2 q pos : Pos} (hc : X.calm = true) (g1 : Gl X "sorted") (m1 : X.mg "sorted" = none) (g2 : Gl X "set") (m2 : X.mg "set" = none) (ha : PE X a ta)
    (na : starEach [a] X.env = (false, eval a X.env) :: starEach [] X.env := by rfl) : PE X (.Call (.Name "sorted" p) [.Call (.Name "set" p2) [a] [] q] [] pos) (tSortSetI X.K ta) := by
  refine ⟨fun pins s σ H Q I h => ?_⟩
  refine Call_ (ld_blt I g1 m1 boot_sorted (PyProof.Rows.callWith_builtin1 (PyProof.Rows.args_cons ?_ rfl) rfl rfl))
  refine Call_ (ld_blt I g2 m2 boot_set (PyProof.Rows.callWith_type1 (PyProof.Rows.args_cons (thn (ha.run pins s σ H _ I h) fun v s1 ⟨x, H1, I1, r1, q1⟩ => PyProof.Rows.args_nil ?_) na) na rfl))
  obtain ⟨l, xs, rfl, hq, hl, q2⟩ := q1
  cases r1
  obtain ⟨its, r, pl, hz⟩ := I1.list hq
  have big : (1002 : Nat) < scanBound := by unfold scanBound; decide
  have hsz : its.toArray.size = xs.length := by rw [List.size_toArray, ← r.length, List.length_map]
  refine newI (I1.ok.hd hc) pl.isList (xs := xs) (by simpa using intsAre_of r) (by omega) fun h2 tk m keep => PyProof.Rows.args_nil ?_
  rw [hsz] at m
  obtain ⟨mm, hmm, R⟩ := m
  refine sortedI (s := { s1 with heap := h2, toks := tk }) R (I1.ok.hd hc) fun s' p out c ns kp hg ho hp hout hare hle hnd hmem hlen => ?_
  have I2 : Inv X pins σ H1 { s1 with heap := h2, toks := tk } := I1.kept fun b o e => keep b o (Heap.lt_size e) e
  generalize ({ s1 with heap := h2, toks := tk } : Shared) = z at I2 kp hg ho hp
  have hlen2 : (ns.map V.int).length ≤ sizeLine := by rw [List.length_map, hlen]; rw [List.length_map] at hz; omega
  have hn : H1 p = none := I2.hok.fresh hp
  have J : Inv X pins σ (upd H1 p (.lst (ns.map V.int))) { z with heap := s'.heap, gens := s'.gens, drawn := s'.drawn, toks := s'.toks } :=
    I2.call (ch := []) (Un.laid kp hp hn) (I2.hok.laid kp hp ⟨hlen2, out.toList, c, vals_of_ints hare, hout⟩) (by rw [hg]; exact I2.bare) (fun _ z => nomatch z)
  have e : s' = { z with heap := s'.heap, gens := s'.gens, drawn := s'.drawn, toks := s'.toks } := by
    cases s'
    cases z
    cases ho
    rfl
  rw [e]
  exact ⟨.ref p, _, J, rfl, q2 ns p hle hnd (fun k => by rw [hmem k, List.take_length, List.contains_iff_mem]) hn⟩
end
end Sm
namespace Sm
open PySem PySem.Spec PyProof.Rows L2 SX
local macro_rules | `(tactic| walk_at "b") => `(tactic| dsimp only [tNil, tCons, tC, tVar])
local macro_rules | `(tactic| walk_at "n") => `(tactic| dsimp only [tNil, tCons, tC])
local macro_rules | `(tactic| walk_at "len") => `(tactic| (intro hlen; repeat (first | (obtain ⟨e, _⟩ := hlen; subst e; rfl) | (obtain ⟨_, hlen⟩ := hlen))))
local macro_rules | `(tactic| walk_at "ex") => `(tactic| first
  | assumption | exact Ex.refl _ | exact Rst.refl _ | exact upd_same
  | (refine Ex.new ?_ ?_ <;> walk_at "ex") | (refine Ex.back ?_ (by assumption) <;> walk_at "ex") | (refine Rst.new ?_ ?_ rfl <;> walk_at "ex")
  | (refine clo_new ?_ ?_ rfl <;> walk_at "ex"))
local macro_rules | `(tactic| walk_at "side") => `(tactic| first
  | with_reducible assumption | omega | (dsimp only; omega) | exact mulW64 (by omega) (by omega) | exact divW64 (by omega) (by omega) | decide | (rw [sz]; omega) | (refine ⟨?_, ?_⟩ <;> walk_at "side") | (rw [sz, txt_len]; omega) | walk_at "ex" | (rw [sz]; simp only [List.length_cons, List.length_nil]; omega) | decide +kernel)
local macro_rules | `(tactic| walk_at "go1") => `(tactic| first
  | refine ⟨_, rfl, ?_⟩
  | refine ⟨_, _, rfl, rfl, ?_⟩
  | refine ⟨_, _, rfl, ?_⟩
  | refine ⟨_, _, _, rfl, ?_⟩
  | refine ⟨rfl, ?_⟩
  | refine gTupN2 sqT_at ?_ | refine gTupN3 sqT_at ?_
  | refine ⟨tyV_list upd_same, ?_⟩ | refine ⟨tyV_list (by assumption), ?_⟩
  | refine ⟨_, _, rfl, Or.inl ‹SqL _ _ _ _›, ?_⟩
  | refine isi1 (isi_bl_bool ?_) | refine isi1 (isi_int_int ?_) | refine isi1 (isi_int_bool ?_) | refine isi1 (isi_str_str ?_) | refine isi1 (isi_lst ‹(_ : Option HO) = some (HO.lst _)› ?_)
  | refine ⟨_, _, _, _, rfl, rfl, ‹SqL _ _ _ _›, ‹atI _ _ = some _›, ?_⟩
  | refine ⟨_, _, _, rfl, rfl, (by walk_at "side"), ‹atI _ _ = some _›, ?_⟩)
local macro_rules | `(tactic| walk_at "go2") => `(tactic| first | walk_at "go1" | refine And.intro (by walk_at "side") ?_ | refine ⟨_, Trim.back (by walk_at "ex") ‹Clo _›, ?_⟩)
local macro_rules | `(tactic| walk_at "go") => `(tactic| repeat walk_at "go2")
local macro_rules | `(tactic| walk_at "if") => `(tactic| first | refine iteEI ?_ ?_ | refine iteNI ?_ ?_ | refine iteES ?_ ?_ | refine iteNS' ?_ ?_ | refine iteD ?_ ?_ | refine iteDN ?_ ?_ | refine ite2 ?_ ?_)
local macro_rules | `(tactic| walk_at "sq") => `(tactic| first | assumption | exact sqL_at | exact sqT_at | (refine sqL_new ?_ ?_ <;> walk_at "sq") | walk_at "ex")
local macro_rules | `(tactic| walk_at "draw") => `(tactic| refine ⟨_, _, _, _, rfl, (by walk_at "sq"), ‹_ ≤ 63›, (by omega), (by omega), (by omega), (by omega), ?_⟩)
local macro_rules | `(tactic| walk_at "tr") => `(tactic| first | exact tr_same | exact tr_some (by assumption) | (refine tr_upd ?_; walk_at "tr"))
local macro_rules | `(tactic| walk_at "ne") => `(tactic| first | assumption | (refine ne_fresh ?_ (by assumption); walk_at "tr") | (refine Ne.symm (ne_fresh ?_ (by assumption)); walk_at "tr"))
local macro_rules | `(tactic| walk_at "look") => `(tactic| first | exact upd_same | assumption | (refine Eq.trans (upd_ne ?_) ?_; (walk_at "ne"); (walk_at "look")))
structure Kx (K : PySem.W.Frag) : Prop where
  c_Shelf : Cls K (He.ga K "Shelf")
  e_NoPlace : ExcC K (He.ga K "NoPlace")
  e_NoRoom : ExcC K (He.ga K "NoRoom")
  e_NoThing : ExcC K (He.ga K "NoThing")
  m_NoLetters_NoThing : PySem.W.exmOne K (.ref (He.ga K "NoLetters")) (.ref (He.ga K "NoThing")) = some false
  m_NoPlace_NoThing : PySem.W.exmOne K (.ref (He.ga K "NoPlace")) (.ref (He.ga K "NoThing")) = some false
  m_NoRoom_NoThing : PySem.W.exmOne K (.ref (He.ga K "NoRoom")) (.ref (He.ga K "NoThing")) = some false
  m_NoThing_NoThing : PySem.W.exmOne K (.ref (He.ga K "NoThing")) (.ref (He.ga K "NoThing")) = some true
  i_NoPlace_NoPlace : PySem.W.kitOne K (.ref (He.ga K "NoPlace")) (.ref (He.ga K "NoPlace")) = some true
  i_NoRoom_NoPlace : PySem.W.kitOne K (.ref (He.ga K "NoRoom")) (.ref (He.ga K "NoPlace")) = some false
  i_NoThing_NoPlace : PySem.W.kitOne K (.ref (He.ga K "NoThing")) (.ref (He.ga K "NoPlace")) = some false
  m_Shelf_ask_put : Meth K (He.ga K "Shelf") "ask_put" (He.ma K (He.ga K "Shelf") "ask_put")
  m_Shelf_longest : Meth K (He.ga K "Shelf") "longest" (He.ma K (He.ga K "Shelf") "longest")
  m_Shelf_marks : Meth K (He.ga K "Shelf") "marks" (He.ma K (He.ga K "Shelf") "marks")
  m_Shelf_marks_round : Meth K (He.ga K "Shelf") "marks_round" (He.ma K (He.ga K "Shelf") "marks_round")
  m_Shelf_put : Meth K (He.ga K "Shelf") "put" (He.ma K (He.ga K "Shelf") "put")
  m_Shelf_put_row : Meth K (He.ga K "Shelf") "put_row" (He.ma K (He.ga K "Shelf") "put_row")
  m_Shelf_renew : Meth K (He.ga K "Shelf") "renew" (He.ma K (He.ga K "Shelf") "renew")
  m_Shelf_take : Meth K (He.ga K "Shelf") "take" (He.ma K (He.ga K "Shelf") "take")
  m_Shelf_things : Meth K (He.ga K "Shelf") "things" (He.ma K (He.ga K "Shelf") "things")
  mk_Shelf : Mk K (He.ga K "Shelf") (He.ma K (He.ga K "Shelf") "__init__")
  a_Shelf_letters : NoAttr K (He.ga K "Shelf") "letters"
  a_Shelf_row_marks : NoAttr K (He.ga K "Shelf") "row_marks"
  a_Shelf_row_things : NoAttr K (He.ga K "Shelf") "row_things"
/-- texts, each once, sorted: told by which they are -/
theorem strs_uniq : ∀ {xs ys : List Str}, xs.Pairwise (fun a b : Str => a.cps.toList ≤ b.cps.toList) → xs.Nodup → ys.Pairwise (fun a b : Str => a.cps.toList ≤ b.cps.toList) → ys.Nodup → (∀ k, k ∈ xs ↔ k ∈ ys) → xs = ys
  | [], [], _, _, _, _, _ => rfl
  | [], y :: ys, _, _, _, _, h => nomatch (h y).mpr List.mem_cons_self
  | x :: xs, [], _, _, _, _, h => nomatch (h x).mp List.mem_cons_self
  | x :: xs, y :: ys, h1, n1, h2, n2, h => by
    obtain ⟨a1, b1⟩ := List.pairwise_cons.mp h1
    obtain ⟨a2, b2⟩ := List.pairwise_cons.mp h2
    obtain ⟨c1, d1⟩ := List.nodup_cons.mp n1
    obtain ⟨c2, d2⟩ := List.nodup_cons.mp n2
    have e : x = y := by
      rcases List.mem_cons.mp ((h x).mp List.mem_cons_self) with z | z
      · exact z
      · rcases List.mem_cons.mp ((h y).mpr List.mem_cons_self) with w | w
        · exact w.symm
        · exact str_ext (List.le_antisymm (a1 y w) (a2 x z))
    subst e
    rw [strs_uniq b1 d1 b2 d2 fun k => ?_]
    constructor
    · intro z
      rcases List.mem_cons.mp ((h k).mp (List.mem_cons_of_mem _ z)) with w | w
      · exact absurd (w ▸ z) c1
      · exact w
    · intro z
      rcases List.mem_cons.mp ((h k).mpr (List.mem_cons_of_mem _ z)) with w | w
      · exact absurd (w ▸ z) c2
      · exact w
/-- of renewed marks one has all letters -/
theorem rens_long {L m k : Nat} (hL : 2 ≤ L) (x : Long L m k) (hm : 1 ≤ m) : ∃ y ∈ rens L m k, y.length = k := by
  refine Classical.byContradiction fun hn => ?_
  have hall : ∀ i, i < m → (markOf L (renN L m k i) k).length < k := fun i hi => by
    have h1 := markOf_len L (renN L m k i) k
    refine Nat.lt_of_le_of_ne h1 fun e => hn ⟨_, List.mem_map.mpr ⟨i, List.mem_range.mpr hi, rfl⟩, e⟩
  have hk : 0 < k := by
    have := hall 0 (by omega)
    omega
  obtain ⟨j, rfl⟩ : ∃ j, k = j + 1 := ⟨k - 1, by omega⟩
  have hmod : ∀ i, i < m → renN L m (j + 1) i % L = 0 := fun i hi => by
    refine Classical.byContradiction fun z => ?_
    have := hall i hi
    rw [mark_digs (by omega) z, digs_len] at this
    omega
  have hge : ∀ i, i < m → L * (i + 1) ≤ renN L m (j + 1) i := fun i => by
    induction i with
    | zero =>
      intro hi
      have h0 := (renN_lt x hi).1
      have hd := Nat.div_add_mod (renN L m (j + 1) 0) L
      rw [hmod 0 hi] at hd
      have : 1 ≤ renN L m (j + 1) 0 / L := Nat.one_le_iff_ne_zero.mpr fun z => by rw [z] at hd; omega
      have := Nat.mul_le_mul_left L this
      omega
    | succ i ih =>
      intro hi
      have h0 := ih (by omega)
      have hlt : renN L m (j + 1) i < renN L m (j + 1) (i + 1) := by
        unfold renN
        have h := x.gt
        have : (i + 1) * L ^ (j + 1) / (m + 1) + 1 ≤ (i + 1 + 1) * L ^ (j + 1) / (m + 1) := by
          rw [← Nat.add_div_right _ (show 0 < m + 1 by omega)]
          refine Nat.div_le_div_right ?_
          rw [Nat.add_mul (i + 1) 1, Nat.one_mul]
          omega
        omega
      have hd := Nat.div_add_mod (renN L m (j + 1) (i + 1)) L
      rw [hmod (i + 1) hi] at hd
      have h2 : i + 1 < renN L m (j + 1) (i + 1) / L := by
        refine Nat.lt_of_mul_lt_mul_left (a := L) ?_
        omega
      have := Nat.mul_le_mul_left L h2
      have e : L * (i + 1).succ = L * (i + 1 + 1) := rfl
      omega
  have h1 := hge (m - 1) (by omega)
  have h2 := (renN_lt x (show m - 1 < m by omega)).2
  have h3 := x.le j (by omega)
  have h4 := Nat.mul_le_mul_left L h3
  rw [show m - 1 + 1 = m by omega] at h1
  rw [Nat.pow_succ, Nat.mul_comm] at h2
  omega
/-! ### shelves -/
def shF (L : Int) (lt lm : Addr) : List (Str × V) := [("letters", .int L), ("row_things", .ref lt), ("row_marks", .ref lm)]
structure IsShelf (K : PySem.W.Frag) (H : Hp) (p lt lm : Addr) (L : Int) (ts ms : List Str) : Prop where
  at_ : ∃ dx, H p = some (.ins (He.ga K "Shelf") dx (shF L lt lm))
  lt : H lt = some (.lst (ts.map V.str))
  lm : H lm = some (.lst (ms.map V.str))
section
variable {K : PySem.W.Frag} {H : Hp} {p lt lm : Addr} {L : Int} {ts ms : List Str}
theorem IsShelf.ex {H' : Hp} (h : IsShelf K H p lt lm L ts ms) (e : Ex H H') : IsShelf K H' p lt lm L ts ms := by
  obtain ⟨⟨dx, h1⟩, h2, h3⟩ := h
  exact ⟨⟨dx, e _ _ h1⟩, e _ _ h2, e _ _ h3⟩
theorem ins_ne_lst {a b C dx : Addr} {fs : List (Str × V)} {xs : List V} (h1 : H a = some (.ins C dx fs)) (h2 : H b = some (.lst xs)) : a ≠ b := fun e => by
  rw [e, h2] at h1
  cases h1
theorem IsShelf.upd {q : Addr} {o : HO} (h : IsShelf K H p lt lm L ts ms) (h1 : p ≠ q) (h2 : lt ≠ q) (h3 : lm ≠ q) : IsShelf K (upd H q o) p lt lm L ts ms := by
  obtain ⟨⟨dx, e1⟩, e2, e3⟩ := h
  exact ⟨⟨dx, by rw [upd_ne h1]; exact e1⟩, by rw [upd_ne h2]; exact e2, by rw [upd_ne h3]; exact e3⟩
/-- a list elsewhere is changed -/
theorem IsShelf.other {q : Addr} {xs : List V} {o : HO} (h : IsShelf K H p lt lm L ts ms) (hq : H q = some (.lst xs)) (h2 : lt ≠ q) (h3 : lm ≠ q) : IsShelf K (L2.upd H q o) p lt lm L ts ms := by
  obtain ⟨dx, e1⟩ := h.at_
  exact h.upd (ins_ne_lst e1 hq) h2 h3
theorem IsShelf.set_t {ts' : List Str} (h : IsShelf K H p lt lm L ts ms) (ne : lt ≠ lm) : IsShelf K (L2.upd H lt (.lst (ts'.map V.str))) p lt lm L ts' ms := by
  obtain ⟨⟨dx, e1⟩, e2, e3⟩ := h
  exact ⟨⟨dx, by rw [upd_ne (ins_ne_lst e1 e2)]; exact e1⟩, upd_same, by rw [upd_ne ne.symm]; exact e3⟩
theorem IsShelf.set_m {ms' : List Str} (h : IsShelf K H p lt lm L ts ms) (ne : lt ≠ lm) : IsShelf K (L2.upd H lm (.lst (ms'.map V.str))) p lt lm L ts ms' := by
  obtain ⟨⟨dx, e1⟩, e2, e3⟩ := h
  exact ⟨⟨dx, by rw [upd_ne (ins_ne_lst e1 e3)]; exact e1⟩, by rw [upd_ne ne]; exact e2, upd_same⟩
theorem shF_no {m : Str} (h1 : (m == "letters") = false) (h2 : (m == "row_things") = false) (h3 : (m == "row_marks") = false) : (shF L lt lm).lookup m = none := by
  unfold shF
  rw [List.lookup_cons, h1, List.lookup_cons, h2, List.lookup_cons, h3]
  rfl
theorem sh_meth {m : Str} {Z : Prop} (h : IsShelf K H p lt lm L ts ms) (h1 : (m == "letters") = false) (h2 : (m == "row_things") = false) (h3 : (m == "row_marks") = false) (q : Z) : ∃ a dx fs, V.ref p = .ref a ∧ H a = some (.ins (He.ga K "Shelf") dx fs) ∧ fs.lookup m = none ∧ Z := by
  obtain ⟨dx, e⟩ := h.at_
  exact ⟨_, _, _, rfl, e, shF_no h1 h2 h3, q⟩
end
/-- y put in at i -/
def insL {α : Type} (xs : List α) (i : Nat) (y : α) : List α := xs.take i ++ [y] ++ xs.drop i
theorem insL_map {α β : Type} (f : α → β) (xs : List α) (i : Nat) (y : α) : (xs.map f).take i ++ [f y] ++ (xs.map f).drop i = (insL xs i y).map f := by
  unfold insL
  rw [List.map_append, List.map_append, List.map_take, List.map_drop]
  rfl
theorem insL_map' {α β : Type} (f : α → β) (xs : List α) (i : Nat) (y : α) : insL (xs.map f) i (f y) = (insL xs i y).map f := insL_map f xs i y
theorem insL_len {α : Type} {xs : List α} {i : Nat} {y : α} (h : i ≤ xs.length) : (insL xs i y).length = xs.length + 1 := by
  unfold insL
  rw [List.length_append, List.length_append, List.length_take, List.length_drop, List.length_singleton]
  omega
/-! ### ask_letters -/
/-- how many letters and hands there may be -/
def SizeOk (L h : Int) : Prop := 2 ≤ L ∧ L ≤ 26 ∧ 1 ≤ h ∧ h < L
instance {L h : Int} : Decidable (SizeOk L h) := by unfold SizeOk; infer_instance
def sp_ask_letters (K : PySem.W.Frag) : Sp := fun vs H Q E => ∃ (L h : Int), vs = [.int L, .int h] ∧ Clo H ∧ (SizeOk L h → Q .non H) ∧ (¬ SizeOk L h → E (.ref (He.ga K "NoLetters")) none H)
def t_ask_letters (K : PySem.W.Frag) (E : XK) : TS :=
  (tIfS (tOr (tTest (tOp rLtI (tVar 0) (tC (.int 2)))) (tOr (tTest (tOp rGtI (tVar 0) (tCB rLenS1 (tCons (tC (.str "abcdefghijklmnopqrstuvwxyz")) tNil)))) (tOr (tTest (tOp rLtI (tVar 1) (tC (.int 1)))) (tTest (tOp rGeI (tVar 1) (tVar 0))))))
    (tRaiseO K "NoLetters" (fun c d _ H => E c d H))
    tNext)
theorem len_ask_letters {K : PySem.W.Frag} (vs : List V) (H : Hp) (Q : VK) (E : XK) : sp_ask_letters K vs H Q E → vs.length = (["letters", "hands"] : List Str).length := by
  walk_at "len"

theorem pure_ask_letters {K : PySem.W.Frag} (T : Kx K) (vs : List V) (H : Hp) (Q : VK) (E : XK) (h : sp_ask_letters K vs H Q E) : t_ask_letters K E { nx := fun _ H' => Q .non H', rt := Q } (start ["letters", "hands"] vs) H := by
  obtain ⟨L, h, rfl, hC, q1, q2⟩ := h
  have hl := let_len
  walk_at "go"
  refine iteD (fun c => q2 fun z => by obtain ⟨_, _, _, _⟩ := z; omega) fun c1 => ?_
  walk_at "go"
  refine iteD (fun c => q2 fun z => by obtain ⟨_, _, _, _⟩ := z; omega) fun c2 => ?_
  walk_at "go"
  refine iteD (fun c => q2 fun z => by obtain ⟨_, _, _, _⟩ := z; omega) fun c3 => ?_
  walk_at "go"
  refine iteD (fun c => q2 fun z => by obtain ⟨_, _, _, _⟩ := z; omega) fun c4 => ?_
  exact q1 ⟨by omega, by omega, by omega, by omega⟩
/-! ### whole_of -/
def sp_whole_of (K : PySem.W.Frag) : Sp := fun vs H Q _ => ∃ (L k : Nat) (ds : List Nat), vs = [.int L, .str (txt ds), .int k] ∧ L ≤ 26 ∧ (∀ d ∈ ds, d < 26) ∧ ds.length ≤ 1000000 ∧ k ≤ 100000 ∧ Q (.int (whole L ds k)) H
def t_whole_of (K : PySem.W.Frag) (E : XK) : TS :=
  (tSeq (tAsg (tC (.int 0)) (gName 3))
    (tSeq (tFor (iRng1 (tCons (tVar 2) tNil)) (gName 4)
    (tSeq (tAsg (tOp rMulW (tVar 3) (tVar 0)) (gName 3))
    (tIfS (tTest (tOp rLtI (tVar 4) (tCB rLenS1 (tCons (tVar 1) tNil))))
    (tAsg (tOp rAddI (tVar 3) (tBMS K "str" rIndexS (tC (.str "abcdefghijklmnopqrstuvwxyz")) (tCons (tOp rIxS (tVar 1) (tVar 4)) tNil))) (gName 3))
    tNext)))
    (tRet (tVar 3))))
theorem len_whole_of {K : PySem.W.Frag} (vs : List V) (H : Hp) (Q : VK) (E : XK) : sp_whole_of K vs H Q E → vs.length = (["letters", "mark", "long"] : List Str).length := by
  walk_at "len"

theorem pure_whole_of {K : PySem.W.Frag} (T : Kx K) (vs : List V) (H : Hp) (Q : VK) (E : XK) (h : sp_whole_of K vs H Q E) : t_whole_of K E { nx := fun _ H' => Q .non H', rt := Q } (start ["letters", "mark", "long", "whole", "k"] vs) H := by
  obtain ⟨L, k, ds, rfl, hL, hds, hl, hk, q⟩ := h
  walk_at "go"
  refine for_fix walk_range1 (fun i σ' => ∃ x4, σ' = [some (.int L), some (.str (txt ds)), some (.int k), some (.int (whole L ds i)), x4]) trivial ⟨_, rfl⟩ ?_ ?_
  · rintro i σ' hi ⟨x4, rfl⟩
    have hi' : i < k := by simpa using hi
    have hw := whole_mulW (k := i) hL hds (by omega)
    have hlen := txt_len ds
    have hg := getD_lt (L := 26) (by decide) hds i
    walk_at "go"
    refine iteD (fun c => ?_) fun c => ?_
    · have hx := txt_at (ds := ds) (j := i) (by omega)
      have hix := idx_let (ds.getD i 0) hg
      walk_at "go"
      refine ⟨_, _, _, rfl, rfl, hix, ?_⟩
      walk_at "go"
      exact ⟨_, rfl⟩
    · have e : ds.getD i 0 = 0 := by
        rw [List.getD_eq_getElem?_getD, List.getElem?_eq_none (by omega)]; rfl
      have e2 : whole L ds (i + 1) = whole L ds i * L := by
        show whole L ds i * L + ds.getD i 0 = _
        rw [e, Nat.add_zero]
      walk_at "go"
      rw [e2]
      exact ⟨_, rfl⟩
  · rintro σ' ⟨x4, rfl⟩
    rw [Int.toNat_natCast]
    walk_at "go"
    exact q
/-! ### mark_of -/
def sp_mark_of (K : PySem.W.Frag) : Sp := fun vs H Q _ => ∃ L n k : Nat, vs = [.int L, .int n, .int k] ∧ 1 ≤ L ∧ L ≤ 26 ∧ k ≤ 100000 ∧ Clo H ∧ Q (.str (txt (markOf L n k))) H
def t_mark_of (K : PySem.W.Frag) (E : XK) : TS :=
  (tTrim (tSeq (tAsg (tLst tNil) (gName 3))
    (tSeq (tFor (iRng1 (tCons (tVar 2) tNil)) (gName 4)
    (tSeq (tTrim (tAsg (tCB rDivmod (tCons (tVar 1) (tCons (tVar 0) tNil))) (gTup K 2 (gCons (gName 1) (gCons (gName 5) gNil)))))
    (tDrop (tBM K "list" rAppend (tVar 3) (tCons (tOp rIxS (tC (.str "abcdefghijklmnopqrstuvwxyz")) (tVar 5)) tNil)))))
    (tSeq (tDrop (tBM0 K "list" rReverse (tVar 3)))
    (tRet (tBM K "str" rRstrip (tBM K "str" (rJoin K) (tC (.str "")) (tCons (tVar 3) tNil)) (tCons (tC (.str "a")) tNil)))))))
theorem len_mark_of {K : PySem.W.Frag} (vs : List V) (H : Hp) (Q : VK) (E : XK) : sp_mark_of K vs H Q E → vs.length = (["letters", "number", "long"] : List Str).length := by
  walk_at "len"

theorem pure_mark_of {K : PySem.W.Frag} (T : Kx K) (vs : List V) (H : Hp) (Q : VK) (E : XK) (h : sp_mark_of K vs H Q E) : t_mark_of K E { nx := fun _ H' => Q .non H', rt := Q } (start ["letters", "number", "long", "signs", "k", "rest"] vs) H := by
  obtain ⟨L, n, k, rfl, hL, hL2, hk, hC, q⟩ := h
  walk_at "go"
  intro p hp
  walk_at "go"
  refine for_fn walk_range1 (fun i σ' H' => ∃ x4 x5, H' = upd H p (.lst (((low L n i).map fun d => txt [d]).map V.str)) ∧ σ' = [some (.int L), some (.int ((n / L ^ i : Nat) : Int)), some (.int k), some (.ref p), x4, x5])
    ⟨_, _, rfl, by rw [Nat.pow_zero, Nat.div_one]; rfl⟩ (fun _ _ _ _ _ => trivial) ?_ ?_
  · rintro i σ' _ hi ⟨x4, x5, rfl, rfl⟩
    have hi' : i < k := by simpa using hi
    walk_at "go"
    intro p1 hp1
    refine gTupN2 sqT_at ?_
    have hc : Clo (upd H p (.lst (((low L n i).map fun d => txt [d]).map V.str))) := clo_new hC hp rfl
    have hd : ((n / L ^ i : Nat) : Int) % (L : Int) = ((n / L ^ i % L : Nat) : Int) := rfl
    have hd2 : ((n / L ^ i : Nat) : Int) / (L : Int) = ((n / L ^ (i + 1) : Nat) : Int) := by
      rw [Nat.pow_succ, ← Nat.div_div_eq_div_mul]; rfl
    have hr : n / L ^ i % L < 26 := Nat.lt_of_lt_of_le (Nat.mod_lt _ (by omega)) hL2
    rw [hd, hd2]
    refine ⟨_, Trim.back (by walk_at "ex") hc, ?_⟩
    have hx := let_at (j := ((n / L ^ i % L : Nat) : Int)) (by omega) (by omega)
    walk_at "go"
    walk_at "b"
    refine app_new ?_ ?_
    · rw [List.length_map, List.length_map, low_len, sz]; omega
    refine ⟨_, _, ?_, rfl⟩
    rw [Int.toNat_natCast]
    show upd H p (.lst _) = upd H p (.lst (((low L n i ++ [n / L ^ i % L]).map fun d => txt [d]).map V.str))
    rw [List.map_append, List.map_append]
    rfl
  · rintro σ' _ ⟨x4, x5, rfl, rfl⟩
    walk_at "go"
    refine rev_new ?_
    rw [Int.toNat_natCast, ← List.map_reverse, ← List.map_reverse]
    walk_at "go"
    walk_at "b"
    refine join_txts sqL_at ?_ ?_
    · rw [List.length_reverse, low_len]; omega
    walk_at "go"
    refine ⟨by rw [sz, txt_len, List.length_reverse, low_len]; omega, ?_⟩
    rw [rstrip_txt]
    exact ⟨_, Trim.back (by walk_at "ex") hC, q⟩
/-! ### ends_of -/
def sp_ends_of (K : PySem.W.Frag) : Sp := fun vs H Q _ => ∃ (L h d : Nat), vs = [.int L, .int h, .int d] ∧ 2 ≤ L ∧ L ≤ 26 ∧ 1 ≤ h ∧ Clo H ∧ Q (.str (txt (ends L h d))) H
def t_ends_of (K : PySem.W.Frag) (E : XK) : TS :=
  (tTrim (tRet (tTrimE (tBM K "str" (rJoin K) (tC (.str "")) (tCons (tLc (iRng2 (tCons (tC (.int 1)) (tCons (tVar 0) tNil))) (gName 3) (tTest (tOp rEq (tOp rModI (tOp rSubI (tVar 3) (tC (.int 1))) (tVar 1)) (tVar 2))) (tOp rIxS (tC (.str "abcdefghijklmnopqrstuvwxyz")) (tVar 3)) [3]) tNil)))))
theorem len_ends_of {K : PySem.W.Frag} (vs : List V) (H : Hp) (Q : VK) (E : XK) : sp_ends_of K vs H Q E → vs.length = (["letters", "hands", "hand"] : List Str).length := by
  walk_at "len"

theorem pure_ends_of {K : PySem.W.Frag} (T : Kx K) (vs : List V) (H : Hp) (Q : VK) (E : XK) (h : sp_ends_of K vs H Q E) : t_ends_of K E { nx := fun _ H' => Q .non H', rt := Q } (start ["letters", "hands", "hand", "k"] vs) H := by
  obtain ⟨L, h, d, rfl, hL, hL2, hh, hC, q⟩ := h
  walk_at "go"
  intro D hD
  refine lc_fn walk_range (fun i => i % h == d) (fun i => .str (txt [i + 1])) (by omega) (fun _ => trivial) ?_ ?_
  · intro i acc hi hacc N h1 h2
    have hm : (1 + (i : Int) - 1) % (h : Int) = ((i % h : Nat) : Int) := by rw [show 1 + (i : Int) - 1 = (i : Int) by omega]; rfl
    walk_at "go"
    walk_at "if"
    · intro c
      have hx := let_at (j := 1 + (i : Int)) (by omega) (by omega)
      walk_at "go"
      refine lc_end hacc (by omega) ?_
      have e : (97 + (1 + (i : Int)).toNat) = 97 + (i + 1) := by omega
      rw [e]
      exact h1 (beq_iff_eq.mpr (by omega))
    · intro c
      exact h2 (beq_eq_false_iff_ne.mpr (by omega))
  · have e : (((List.range ((L : Int) - 1).toNat).filter fun i => i % h == d).map fun i => V.str (txt [i + 1])) = ((ends L h d).map fun d => txt [d]).map V.str := by
      unfold ends
      rw [List.map_map, List.map_map, show ((L : Int) - 1).toNat = L - 1 by omega]; rfl
    rw [e]
    refine ⟨_, _, _, rfl, rfl, .inl sqL_at, ?_, ?_⟩
    · have h1 := ends_le L h d
      have h2 : ((((ends L h d).map fun d => txt [d])).map (·.length)).sum = (ends L h d).length := by
        generalize ends L h d = l
        induction l with
        | nil => rfl
        | cons a r ih =>
          rw [List.map_cons, List.map_cons, List.sum_cons, ih, List.length_cons, txt_len]
          show 1 + _ = _
          omega
      rw [h2]
      show _ + _ * 0 ≤ _
      omega
    · rw [join_txt]
      walk_at "go"
      exact q
/-! ### numbers_between -/
/-- a text or None, not too long -/
structure Ends3 (L : Nat) (lo hi : Option (List Nat)) : Prop where
  e : Ends2 L lo hi
  lol : ∀ a, lo = some a → a.length ≤ 90000
  hil : ∀ b, hi = some b → b.length ≤ 90000
/-- low and high stand right -/
def Right (lo hi : Option (List Nat)) : Prop := ∀ a b, lo = some a → hi = some b → a < b
def sp_numbers_between (K : PySem.W.Frag) : Sp := fun vs H Q E => ∃ (L k : Nat) (lo hi : Option (List Nat)), vs = [.int L, optV lo, optV hi, .int k] ∧ 2 ≤ L ∧ L ≤ 26 ∧ k ≤ 90000 ∧ Ends3 L lo hi ∧ Clo H ∧
  (Right lo hi → ∀ p, H p = none → Q (.ref p) (upd H p (.tup [.int (lowN L lo k : Nat), .int ((pastN L hi k : Nat) - 1 : Int)]))) ∧ (¬ Right lo hi → E (.ref (He.ga K "NoRoom")) none H)
def t_numbers_between (K : PySem.W.Frag) (E : XK) : TS :=
  (tTrim (tMeet (tIfS (tAnd (tTest (tOp rNotN (tVar 1) (tC .non))) (tAnd (tTest (tOp rNotN (tVar 2) (tC .non))) (tNot (tTest (tOp rLtS (tVar 1) (tVar 2))))))
    (tRaiseO K "NoRoom" (fun c d _ H => E c d H))
    tNext)
    (tSeq (tAsg (tC (.int 1)) (gName 4))
    (tMeet (tIfS (tTest (tOp rNotN (tVar 1) (tC .non)))
    (tAsg (tOp rAddI (tCall (sp_whole_of K) [] E (tCons (tVar 0) (tCons (tVar 1) (tCons (tVar 3) tNil)))) (tC (.int 1))) (gName 4))
    tNext)
    (tSeq (tAsg (tC (.int 1)) (gName 5))
    (tSeq (tFor (iRng1 (tCons (tVar 3) tNil)) (gName 6)
    (tAsg (tOp rMulW (tVar 5) (tVar 0)) (gName 5)))
    (tSeq (tAsg (tOp rSubI (tVar 5) (tC (.int 1))) (gName 5))
    (tMeet (tIfS (tTest (tOp rNotN (tVar 2) (tC .non)))
    (tSeq (tAsg (tCall (sp_whole_of K) [] E (tCons (tVar 0) (tCons (tVar 2) (tCons (tVar 3) tNil)))) (gName 5))
    (tIfS (tTest (tOp rLeI (tCB rLenS1 (tCons (tVar 2) tNil)) (tVar 3)))
    (tAsg (tOp rSubI (tVar 5) (tC (.int 1))) (gName 5))
    tNext))
    tNext)
    (tRet (tTup (tCons (tVar 4) (tCons (tVar 5) tNil))))))))))))
theorem len_numbers_between {K : PySem.W.Frag} (vs : List V) (H : Hp) (Q : VK) (E : XK) : sp_numbers_between K vs H Q E → vs.length = (["letters", "low", "high", "long"] : List Str).length := by
  walk_at "len"

theorem pure_numbers_between {K : PySem.W.Frag} (T : Kx K) (vs : List V) (H : Hp) (Q : VK) (E : XK) (h : sp_numbers_between K vs H Q E) : t_numbers_between K E { nx := fun _ H' => Q .non H', rt := Q } (start ["letters", "low", "high", "long", "least", "most", "k"] vs) H := by
  obtain ⟨L, k, lo, hi, rfl, hL, hL2, hk, he, hC, q1, q2⟩ := h
  by_cases hr : Right lo hi
  · have q := q1 hr
    clear q1 q2
    refine meet_fix (fun σ' => σ' = [some (.int L), some (optV lo), some (optV hi), some (.int k), none, none, none]) ?_ ?_
    · walk_at "go"
      cases lo with
      | none =>
        refine iteF ?_
        exact ⟨rfl, rfl⟩
      | some a =>
        refine iteT ?_
        walk_at "go"
        cases hi with
        | none =>
          refine iteF ?_
          exact ⟨rfl, rfl⟩
        | some b =>
          refine iteT ?_
          walk_at "go"
          have hab := hr a b rfl rfl
          rw [txt_lt, decide_eq_true hab]
          exact ⟨rfl, rfl⟩
    rintro _ rfl
    walk_at "go"
    refine meet_fix (fun σ' => σ' = [some (.int L), some (optV lo), some (optV hi), some (.int k), some (.int (lowN L lo k : Nat)), none, none]) ?_ ?_
    · walk_at "go"
      cases lo with
      | none =>
        refine iteF ?_
        exact ⟨rfl, rfl⟩
      | some a =>
        refine iteT ?_
        have hm := (he.e.lo a rfl).1
        have hla := he.lol a rfl
        have hlt : ∀ d ∈ a, d < 26 := fun d hd => Nat.lt_of_lt_of_le (hm.lt d hd) hL2
        walk_at "go"
        rfl
    rintro _ rfl
    walk_at "go"
    refine for_fix walk_range1 (fun i σ' => ∃ x6, σ' = [some (.int L), some (optV lo), some (optV hi), some (.int k), some (.int (lowN L lo k : Nat)), some (.int ((L ^ i : Nat) : Int)), x6]) trivial ⟨_, rfl⟩ ?_ ?_
    · rintro i σ' hi ⟨x6, rfl⟩
      have hi' : i < k := by simpa using hi
      have hw := pow_mulW (k := i) hL2 (by omega)
      walk_at "go"
      refine ⟨some (.int i), ?_⟩
      rw [Nat.pow_succ]
      rfl
    rintro σ' ⟨x6, rfl⟩
    rw [Int.toNat_natCast]
    walk_at "go"
    refine meet_fix (fun σ' => σ' = [some (.int L), some (optV lo), some (optV hi), some (.int k), some (.int (lowN L lo k : Nat)), some (.int ((pastN L hi k : Nat) - 1 : Int)), x6]) ?_ ?_
    · walk_at "go"
      cases hi with
      | none =>
        refine iteF ?_
        exact ⟨rfl, rfl⟩
      | some b =>
        refine iteT ?_
        have hm := (he.e.hi b rfl).1
        have hlb := he.hil b rfl
        have hlt : ∀ d ∈ b, d < 26 := fun d hd => Nat.lt_of_lt_of_le (hm.lt d hd) hL2
        have hlen := txt_len b
        walk_at "go"
        have hp : pastN L (some b) k = if b.length ≤ k then whole L b k else whole L b k + 1 := rfl
        refine iteD (fun c => ?_) fun c => ?_
        · rw [if_pos (by omega)] at hp
          walk_at "go"
          rw [hp]
          rfl
        · rw [if_neg (by omega)] at hp
          have e : ((pastN L (some b) k : Nat) - 1 : Int) = (whole L b k : Nat) := by omega
          rw [e]
          exact ⟨rfl, rfl⟩
    rintro _ rfl
    walk_at "go"
    intro p hp
    exact ⟨_, Trim.last (Rst.refl H) (Ex.refl H) hp hC rfl, q p hp⟩
  · have q := q2 hr
    refine ⟨fun _ _ => False, ?_, fun _ _ z => False.elim z⟩
    walk_at "go"
    cases lo with
    | none => exact absurd (fun a b z _ => nomatch z) hr
    | some a =>
      cases hi with
      | none => exact absurd (fun a b _ z => nomatch z) hr
      | some b =>
        have hab : ¬ a < b := fun z => hr fun a' b' h1 h2 => by cases h1; cases h2; exact z
        refine iteT ?_
        walk_at "go"
        rw [txt_lt, decide_eq_false hab]
        exact q
/-! ### figures_of -/
def sp_figures_of (K : PySem.W.Frag) : Sp := fun vs H Q _ => ∃ (L h d : Nat), vs = [.int L, .int h, .int d] ∧ 2 ≤ L ∧ L ≤ 26 ∧ 1 ≤ h ∧ Clo H ∧ ∀ p, H p = none → Q (.ref p) (upd H p (.lst ((ends L h d).map natV)))
def t_figures_of (K : PySem.W.Frag) (E : XK) : TS :=
  (tTrim (tRet (tLc (iStr (tCall (sp_ends_of K) [] E (tCons (tVar 0) (tCons (tVar 1) (tCons (tVar 2) tNil))))) (gName 3) tYes (tBMS K "str" rIndexS (tC (.str "abcdefghijklmnopqrstuvwxyz")) (tCons (tVar 3) tNil)) [3])))
theorem len_figures_of {K : PySem.W.Frag} (vs : List V) (H : Hp) (Q : VK) (E : XK) : sp_figures_of K vs H Q E → vs.length = (["letters", "hands", "hand"] : List Str).length := by
  walk_at "len"

theorem pure_figures_of {K : PySem.W.Frag} (T : Kx K) (vs : List V) (H : Hp) (Q : VK) (E : XK) (h : sp_figures_of K vs H Q E) : t_figures_of K E { nx := fun _ H' => Q .non H', rt := Q } (start ["letters", "hands", "hand", "sign"] vs) H := by
  obtain ⟨L, h, d, rfl, hL, hL2, hh, hC, q⟩ := h
  walk_at "go"
  intro p hp
  have hl := ends_le L h d
  have hsz : (txt (ends L h d)).cps.size = (ends L h d).length := txt_len _
  refine lc_fn walk_strF (fun _ => true) (fun i => natV ((ends L h d).getD i 0)) (by omega) (fun _ => trivial) ?_ ?_
  · intro i acc hi ha N hN _
    have hi' : i < (ends L h d).length := by omega
    have e : (txt (ends L h d)).cps.toList.getD i 0 = 97 + (ends L h d).getD i 0 := by
      rw [txt_tl, List.getD_eq_getElem?_getD, List.getElem?_map, List.getElem?_eq_getElem hi', List.getD_eq_getElem?_getD, List.getElem?_eq_getElem hi']; rfl
    have hf : (ends L h d).getD i 0 < 26 := getD_lt (by decide) (fun f hf => Nat.lt_of_lt_of_le (ends_mem.mp hf).2.1 hL2) i
    have hix := idx_let _ hf
    rw [e]
    walk_at "go"
    refine ⟨_, _, _, rfl, rfl, hix, ?_⟩
    exact lc_end ha (by omega) (hN rfl)
  · rw [hsz, filt_all, range_mapF (ends L h d) 0 natV]
    exact ⟨_, Trim.last (Rst.refl H) (Ex.refl H) hp hC rfl, q p hp⟩
/-! ### many_below -/
def sp_many_below (K : PySem.W.Frag) : Sp := fun vs H Q _ => ∃ (L n : Nat) (p : Addr) (F : List Nat), vs = [.int L, .ref p, .int n] ∧ 2 ≤ L ∧ L ≤ 26 ∧ H p = some (.lst (F.map natV)) ∧ F.length ≤ 1000 ∧ n ≤ 2 ^ 500000 ∧ Clo H ∧ Q (.int (below L F n)) H
def t_many_below (K : PySem.W.Frag) (E : XK) : TS :=
  (tTrim (tSeq (tTrim (tAsg (tCB rDivmod (tCons (tVar 2) (tCons (tVar 0) tNil))) (gTup K 2 (gCons (gName 3) (gCons (gName 4) gNil)))))
    (tRet (tTrimE (tOp rAddI (tOp rMulW (tVar 3) (tCB (rLenQ K) (tCons (tVar 1) tNil))) (tCB (rLenQ K) (tCons (tLc (iList K (tVar 1)) (gName 5) (tTest (tOp rLtI (tVar 5) (tVar 4))) (tVar 5) [5]) tNil)))))))
theorem len_many_below {K : PySem.W.Frag} (vs : List V) (H : Hp) (Q : VK) (E : XK) : sp_many_below K vs H Q E → vs.length = (["letters", "figures", "number"] : List Str).length := by
  walk_at "len"

theorem pure_many_below {K : PySem.W.Frag} (T : Kx K) (vs : List V) (H : Hp) (Q : VK) (E : XK) (h : sp_many_below K vs H Q E) : t_many_below K E { nx := fun _ H' => Q .non H', rt := Q } (start ["letters", "figures", "number", "rounds", "rest", "one"] vs) H := by
  obtain ⟨L, n, p, F, rfl, hL, hL2, hp, hF, hn, hC, q⟩ := h
  have hS : SqL K H p (F.map natV) := .inl (.inl hp)
  have hS2 : ∀ (r : Addr) (o : HO), H r = none → SqL K (upd H r o) p (F.map natV) := fun r o hr => sqL_new hS hr
  have hlen : (F.map natV).length = F.length := List.length_map _
  walk_at "go"
  intro p1 hp1
  walk_at "go"
  refine ⟨big_mulW (Nat.le_trans (Nat.div_le_self n L) hn) (by rw [hlen]; omega), ?_⟩
  walk_at "go"
  refine ⟨⟨_, hS⟩, ?_⟩
  intro D hD
  refine lc_fn (walk_listF (xs := F.map natV)) (fun i => decide (F.getD i 0 < n % L)) (fun i => natV (F.getD i 0)) (by rw [hlen]; omega) (fun acc => hS2 _ _ hD) ?_ ?_
  · intro i acc hi ha N h1 h2
    have hi' : i < F.length := by rw [hlen] at hi; exact hi
    have e : (F.map natV).getD i .non = .int ((F.getD i 0 : Nat) : Int) := by
      rw [List.getD_eq_getElem?_getD, List.getElem?_map, List.getElem?_eq_getElem hi', List.getD_eq_getElem?_getD, List.getElem?_eq_getElem hi']; rfl
    rw [e]
    walk_at "go"
    refine iteD (fun c => ?_) fun c => ?_
    · walk_at "go"
      exact lc_end ha (by omega) (h1 (decide_eq_true (by omega)))
    · exact h2 (decide_eq_false (by omega))
  · rw [hlen, range_filter_map F 0 (fun f => decide (f < n % L)) natV]
    walk_at "go"
    refine ⟨_, _, rfl, .inl sqL_at, ?_⟩
    rw [List.length_map]
    refine ⟨_, _, rfl, rfl, ?_⟩
    exact ⟨_, Trim.back (by walk_at "ex") hC, _, Trim.refl hC, q⟩
/-! ### room_at -/
def roomN (L : Nat) (F : List Nat) (lo hi : Option (List Nat)) (k : Nat) : Nat := below L F (pastN L hi k) - below L F (lowN L lo k)
def sp_room_at (K : PySem.W.Frag) : Sp := fun vs H Q E => ∃ (L h d k : Nat) (lo hi : Option (List Nat)), vs = [.int L, .int h, .int d, optV lo, optV hi, .int k] ∧ 2 ≤ L ∧ L ≤ 26 ∧ d < h ∧ h < L ∧ k ≤ 90000 ∧ Ends3 L lo hi ∧ Clo H ∧
  (Right lo hi → Q (.int (roomN L (ends L h d) lo hi k : Nat)) H) ∧ (¬ Right lo hi → E (.ref (He.ga K "NoRoom")) none H)
def t_room_at (K : PySem.W.Frag) (E : XK) : TS :=
  (tTrim (tSeq (tTrim (tAsg (tCall (sp_numbers_between K) [] E (tCons (tVar 0) (tCons (tVar 3) (tCons (tVar 4) (tCons (tVar 5) tNil))))) (gTup K 2 (gCons (gName 6) (gCons (gName 7) gNil)))))
    (tSeq (tIfS (tTest (tOp rLtI (tVar 7) (tVar 6)))
    (tRet (tC (.int 0)))
    tNext)
    (tSeq (tAsg (tCall (sp_figures_of K) [] E (tCons (tVar 0) (tCons (tVar 1) (tCons (tVar 2) tNil)))) (gName 8))
    (tRet (tOp rSubI (tCall (sp_many_below K) [] E (tCons (tVar 0) (tCons (tVar 8) (tCons (tOp rAddI (tVar 7) (tC (.int 1))) tNil)))) (tCall (sp_many_below K) [] E (tCons (tVar 0) (tCons (tVar 8) (tCons (tVar 6) tNil))))))))))
theorem len_room_at {K : PySem.W.Frag} (vs : List V) (H : Hp) (Q : VK) (E : XK) : sp_room_at K vs H Q E → vs.length = (["letters", "hands", "hand", "low", "high", "long"] : List Str).length := by
  walk_at "len"

theorem pure_room_at {K : PySem.W.Frag} (T : Kx K) (vs : List V) (H : Hp) (Q : VK) (E : XK) (h : sp_room_at K vs H Q E) : t_room_at K E { nx := fun _ H' => Q .non H', rt := Q } (start ["letters", "hands", "hand", "low", "high", "long", "least", "most", "figures"] vs) H := by
  obtain ⟨L, h, d, k, lo, hi, rfl, hL, hL2, hd, hh, hk, he, hC, q1, q2⟩ := h
  walk_at "go"
  refine ⟨L, k, lo, hi, rfl, hL, hL2, hk, he, hC, fun hr p hp => ?_, fun hr => q2 hr⟩
  have q := q1 hr
  clear q1 q2
  have hF := figs_ends hd hh
  have h1 := past_le (k := k) (by omega) he.e
  have h2 := low_le (k := k) (by omega) he.e
  have h3 := low_pos L lo k
  have h4 := pow26 (k := k) (by omega) hL2
  unfold roomN at q
  have hm := below_mono hF (by omega) (m := lowN L lo k) (n := pastN L hi k)
  have hm2 := below_mono hF (by omega) (m := pastN L hi k) (n := lowN L lo k)
  generalize lowN L lo k = lw at *
  generalize pastN L hi k = ps at *
  refine gTupN2 sqT_at ?_
  refine ⟨_, Trim.back (by walk_at "ex") hC, ?_⟩
  walk_at "go"
  refine iteD (fun c => ?_) fun c => ?_
  · walk_at "go"
    rw [show below L (ends L h d) ps - below L (ends L h d) lw = 0 by have := hm2 (by omega); omega] at q
    exact q
  · walk_at "go"
    intro p1 hp1
    have hle := ends_le L h d
    have hC1 := clo_new (o := .lst ((ends L h d).map natV)) hC hp1 rfl
    have hp1v : (upd H p1 (HO.lst ((ends L h d).map natV))) p1 = some (HO.lst ((ends L h d).map natV)) := upd_same
    walk_at "go"
    refine ⟨L, ps, p1, ends L h d, ?_, hL, hL2, hp1v, by omega, by omega, hC1, ?_⟩
    · show [V.int L, V.ref p1, V.int ((ps : Int) - 1 + 1)] = _
      rw [show (ps : Int) - 1 + 1 = ps by omega]
    walk_at "go"
    refine ⟨L, lw, p1, ends L h d, rfl, hL, hL2, hp1v, by omega, by omega, hC1, ?_⟩
    refine ⟨_, _, rfl, rfl, ?_⟩
    have := hm (by omega)
    rw [show ((below L (ends L h d) ps - below L (ends L h d) lw : Nat) : Int) = (below L (ends L h d) ps : Int) - (below L (ends L h d) lw : Int) by omega] at q
    exact ⟨_, Trim.back (by walk_at "ex") hC, q⟩
/-! ### nth_mark -/
def sp_nth_mark (K : PySem.W.Frag) : Sp := fun vs H Q E => ∃ (L h d k m : Nat) (lo hi : Option (List Nat)), vs = [.int L, .int h, .int d, optV lo, optV hi, .int k, .int m] ∧ 2 ≤ L ∧ L ≤ 26 ∧ d < h ∧ h < L ∧ k ≤ 90000 ∧ m ≤ 2 ^ 500000 ∧ Ends3 L lo hi ∧ Clo H ∧
  (Right lo hi → Q (.str (txt (markOf L (nth L (ends L h d) (below L (ends L h d) (lowN L lo k) + m)) k))) H) ∧ (¬ Right lo hi → E (.ref (He.ga K "NoRoom")) none H)
def t_nth_mark (K : PySem.W.Frag) (E : XK) : TS :=
  (tTrim (tSeq (tAsg (tTrimE (tOp (rIxT K) (tCall (sp_numbers_between K) [] E (tCons (tVar 0) (tCons (tVar 3) (tCons (tVar 4) (tCons (tVar 5) tNil))))) (tC (.int 0)))) (gName 7))
    (tSeq (tAsg (tCall (sp_figures_of K) [] E (tCons (tVar 0) (tCons (tVar 1) (tCons (tVar 2) tNil)))) (gName 8))
    (tSeq (tTrim (tAsg (tCB rDivmod (tCons (tOp rAddI (tCall (sp_many_below K) [] E (tCons (tVar 0) (tCons (tVar 8) (tCons (tVar 7) tNil)))) (tVar 6)) (tCons (tCB (rLenQ K) (tCons (tVar 8) tNil)) tNil))) (gTup K 2 (gCons (gName 9) (gCons (gName 10) gNil)))))
    (tRet (tCall (sp_mark_of K) [] E (tCons (tVar 0) (tCons (tOp rAddI (tOp rMulW (tVar 9) (tVar 0)) (tOp (rIxL K) (tVar 8) (tVar 10))) (tCons (tVar 5) tNil)))))))))
theorem len_nth_mark {K : PySem.W.Frag} (vs : List V) (H : Hp) (Q : VK) (E : XK) : sp_nth_mark K vs H Q E → vs.length = (["letters", "hands", "hand", "low", "high", "long", "number"] : List Str).length := by
  walk_at "len"

theorem pure_nth_mark {K : PySem.W.Frag} (T : Kx K) (vs : List V) (H : Hp) (Q : VK) (E : XK) (h : sp_nth_mark K vs H Q E) : t_nth_mark K E { nx := fun _ H' => Q .non H', rt := Q } (start ["letters", "hands", "hand", "low", "high", "long", "number", "least", "figures", "rounds", "rest"] vs) H := by
  obtain ⟨L, h, d, k, m, lo, hi, rfl, hL, hL2, hd, hh, hk, hm, he, hC, q1, q2⟩ := h
  walk_at "go"
  refine ⟨L, k, lo, hi, rfl, hL, hL2, hk, he, hC, fun hr p hp => ?_, fun hr => q2 hr⟩
  have q := q1 hr
  clear q1 q2
  have hF := figs_ends hd hh
  have h2 := low_le (k := k) (by omega) he.e
  have h4 := pow26 (k := k) (by omega) hL2
  have hle := ends_le L h d
  have hp0 : 0 < (ends L h d).length := List.length_pos_iff.mpr hF.ne
  generalize lowN L lo k = lw at *
  unfold nth at q
  walk_at "go"
  refine ⟨_, _, _, _, rfl, rfl, sqT_at, rfl, ?_⟩
  refine ⟨_, Trim.back (by walk_at "ex") hC, ?_⟩
  walk_at "go"
  intro p1 hp1
  generalize ends L h d = F at *
  have hC1 := clo_new (o := .lst (F.map natV)) hC hp1 rfl
  have hp1v : (upd H p1 (HO.lst (F.map natV))) p1 = some (HO.lst (F.map natV)) := upd_same
  have hlen : (F.map natV).length = F.length := List.length_map _
  walk_at "go"
  refine ⟨L, lw, p1, F, rfl, hL, hL2, hp1v, by omega, by omega, hC1, ?_⟩
  walk_at "go"
  refine ⟨_, _, rfl, .inl sqL_at, ?_⟩
  rw [hlen]
  walk_at "go"
  intro p2 hp2
  refine gTupN2 sqT_at ?_
  refine ⟨_, Trim.back (by walk_at "ex") hC1, ?_⟩
  have hr2 : (below L F lw + m) % F.length < F.length := Nat.mod_lt _ hp0
  have hx : atI (F.map natV) (((below L F lw : Int) + (m : Int)) % (F.length : Int)) = some (natV (F.getD ((below L F lw + m) % F.length) 0)) := by
    rw [show ((below L F lw : Int) + (m : Int)) % (F.length : Int) = (((below L F lw + m) % F.length : Nat) : Int) from rfl]
    refine atI_nat ?_
    rw [List.getElem?_map, List.getElem?_eq_getElem hr2, List.getD_eq_getElem?_getD, List.getElem?_eq_getElem hr2]; rfl
  have hbl := below_le hF (by omega) lw
  have hw : CMulW (((below L F lw : Int) + (m : Int)) / (F.length : Int)) (L : Int) := big_mulW2 (by omega) hm (by rw [Int.natAbs_natCast]; omega)
  walk_at "go"
  refine ⟨_, _, _, _, rfl, rfl, sqL_at, hx, ?_⟩
  walk_at "go"
  exact q
/-! ### least_long -/
/-- the least length with so much room -/
structure LeastK (L : Nat) (F : List Nat) (lo hi : Option (List Nat)) (m k : Nat) : Prop where
  one : 1 ≤ k
  room : m ≤ roomN L F lo hi k
  least : ∀ j, 1 ≤ j → j < k → roomN L F lo hi j < m
def sp_least_long (K : PySem.W.Frag) : Sp := fun vs H Q E => ∃ (L h d m : Nat) (lo hi : Option (List Nat)), vs = [.int L, .int h, .int d, optV lo, optV hi, .int m] ∧ 2 ≤ L ∧ L ≤ 26 ∧ d < h ∧ h < L ∧ Ends3 L lo hi ∧ Clo H ∧
  (Right lo hi → ∃ N, 1 ≤ N ∧ N ≤ 90000 ∧ m ≤ roomN L (ends L h d) lo hi N) ∧ (Right lo hi → ∀ k, LeastK L (ends L h d) lo hi m k → Q (.int k) H) ∧ (¬ Right lo hi → E (.ref (He.ga K "NoRoom")) none H)
def t_least_long (K : PySem.W.Frag) (E : XK) : TS :=
  (tSeq (tAsg (tC (.int 1)) (gName 6))
    (tSeq (tWhile (tTest (tOp rLtI (tCall (sp_room_at K) [] E (tCons (tVar 0) (tCons (tVar 1) (tCons (tVar 2) (tCons (tVar 3) (tCons (tVar 4) (tCons (tVar 6) tNil))))))) (tVar 5))) (tAsg (tOp rAddI (tVar 6) (tC (.int 1))) (gName 6)))
    (tRet (tVar 6))))
theorem len_least_long {K : PySem.W.Frag} (vs : List V) (H : Hp) (Q : VK) (E : XK) : sp_least_long K vs H Q E → vs.length = (["letters", "hands", "hand", "low", "high", "many"] : List Str).length := by
  walk_at "len"

theorem pure_least_long {K : PySem.W.Frag} (T : Kx K) (vs : List V) (H : Hp) (Q : VK) (E : XK) (h : sp_least_long K vs H Q E) : t_least_long K E { nx := fun _ H' => Q .non H', rt := Q } (start ["letters", "hands", "hand", "low", "high", "many", "long"] vs) H := by
  obtain ⟨L, h, d, m, lo, hi, rfl, hL, hL2, hd, hh, he, hC, hN, q1, q2⟩ := h
  by_cases hr : Right lo hi
  · obtain ⟨N, hN1, hN2, hN3⟩ := hN hr
    have q := q1 hr
    clear q1 q2 hN
    walk_at "go"
    refine ⟨fun μ σ' H' => ∃ k : Nat, 1 ≤ k ∧ k ≤ N ∧ (∀ j, 1 ≤ j → j < k → roomN L (ends L h d) lo hi j < m) ∧ μ = N - k ∧ H' = H ∧ σ' = [some (.int L), some (.int h), some (.int d), some (optV lo), some (optV hi), some (.int m), some (.int k)],
      ⟨_, 1, Nat.le_refl _, hN1, fun j h1 h2 => by omega, rfl, rfl, rfl⟩, ?_⟩
    rintro μ σ' _ ⟨k, hk1, hkN, hkl, rfl, rfl, rfl⟩
    walk_at "go"
    refine ⟨L, h, d, k, lo, hi, rfl, hL, hL2, hd, hh, by omega, he, hC, fun _ => ?_, fun z => absurd hr z⟩
    walk_at "go"
    refine iteD (fun c => ?_) fun c => ?_
    · have hkN2 : k < N := by
        rcases Nat.lt_or_eq_of_le hkN with z | z
        · exact z
        · rw [z] at c; omega
      refine ⟨_, fun _ _ z => z, ?_⟩
      walk_at "go"
      refine ⟨N - (k + 1), by omega, k + 1, by omega, by omega, fun j h1 h2 => ?_, rfl, rfl, rfl⟩
      rcases Nat.lt_succ_iff_lt_or_eq.mp h2 with z | z
      · exact hkl j h1 z
      · rw [z]; omega
    · walk_at "go"
      exact q k ⟨hk1, by omega, hkl⟩
  · have q := q2 hr
    walk_at "go"
    refine ⟨fun _ σ' H' => H' = H ∧ σ' = [some (.int L), some (.int h), some (.int d), some (optV lo), some (optV hi), some (.int m), some (.int 1)], ⟨0, rfl, rfl⟩, ?_⟩
    rintro μ σ' _ ⟨rfl, rfl⟩
    walk_at "go"
    exact ⟨L, h, d, 1, lo, hi, rfl, hL, hL2, hd, hh, by omega, he, hC, fun z => absurd z hr, fun _ => q⟩
/-! ### mark_between -/
/-- which of so many -/
def pickN (lo hi : Option (List Nat)) (m : Nat) : Nat := match lo, hi with
  | some _, none => 0
  | none, some _ => m - 1
  | _, _ => (m - 1) / 2
/-- the mark between -/
def betwMk (L : Nat) (F : List Nat) (lo hi : Option (List Nat)) (k : Nat) : List Nat := markOf L (nth L F (below L F (lowN L lo k) + pickN lo hi (roomN L F lo hi k))) k
/-- what is to be known of it -/
structure BetwMk (L : Nat) (F : List Nat) (lo hi : Option (List Nat)) (k : Nat) (M : List Nat) : Prop where
  len : M.length = k
  mk0 : Mk0 L M
  ne : M ≠ []
  last : M.getD (k - 1) 0 ∈ F
  betw : Betw lo hi M
  lo_le : lowN L lo k ≤ whole L M k
  hi_lt : whole L M k < pastN L hi k
  num : below L F (whole L M k) = below L F (lowN L lo k) + pickN lo hi (roomN L F lo hi k)
theorem betwMk_ok {L h d k : Nat} {lo hi : Option (List Nat)} (hL : 2 ≤ L) (hd : d < h) (hh : h < L) (he : Ends2 L lo hi) (hk : LeastK L (ends L h d) lo hi 1 k) : BetwMk L (ends L h d) lo hi k (betwMk L (ends L h d) lo hi k) := by
  have hF := figs_ends hd hh
  obtain ⟨j, rfl⟩ : ∃ j, k = j + 1 := ⟨k - 1, by have := hk.one; omega⟩
  have hroom := hk.room
  have hpick : pickN lo hi (roomN L (ends L h d) lo hi (j + 1)) < roomN L (ends L h d) lo hi (j + 1) := by
    unfold pickN
    split <;> omega
  unfold roomN at hroom hpick
  obtain ⟨n, hn⟩ : ∃ n, n = nth L (ends L h d) (below L (ends L h d) (lowN L lo (j + 1)) + pickN lo hi (roomN L (ends L h d) lo hi (j + 1))) := ⟨_, rfl⟩
  have hbn := below_nth hF (show 0 < L by omega) (below L (ends L h d) (lowN L lo (j + 1)) + pickN lo hi (roomN L (ends L h d) lo hi (j + 1)))
  have hnm := nth_mod hF (below L (ends L h d) (lowN L lo (j + 1)) + pickN lo hi (roomN L (ends L h d) lo hi (j + 1)))
  rw [← hn] at hbn hnm
  have h0 : n % L ≠ 0 := fun z => ends_0 L h d (z ▸ hnm)
  have hM : betwMk L (ends L h d) lo hi (j + 1) = digs L n (j + 1) := by
    unfold betwMk
    rw [← hn, mark_digs (by omega) h0]
  have hbs := below_succ hF (show 0 < L by omega) n
  rw [if_pos hnm] at hbs
  have hlow : lowN L lo (j + 1) ≤ n := by
    refine Nat.not_lt.mp fun z => ?_
    have := below_mono hF (show 0 < L by omega) (show n + 1 ≤ lowN L lo (j + 1) by omega)
    omega
  have hhi : n < pastN L hi (j + 1) := by
    refine Nat.not_le.mp fun z => ?_
    have := below_mono hF (show 0 < L by omega) z
    unfold roomN at hbn
    omega
  have hpast := past_le (k := j + 1) (by omega) he
  have hw : whole L (digs L n (j + 1)) (j + 1) = n := by rw [whole_digs, Nat.mod_eq_of_lt (by omega)]
  rw [hM]
  have hne : digs L n (j + 1) ≠ [] := by rw [digs_succ]; simp
  have hmk := mk0_digs (L := L) (n := n) (k := j) (by omega) h0
  refine ⟨digs_len _ _ _, hmk, hne, ?_, ?_, by rw [hw]; exact hlow, by rw [hw]; exact hhi, by rw [hw]; exact hbn⟩
  · rw [Nat.add_sub_cancel, digs_last]; exact hnm
  · exact (betw_iff (by omega) he hmk (Nat.le_of_eq (digs_len _ _ _)) hne).mpr ⟨by rw [hw]; exact hlow, by rw [hw]; exact hhi⟩
def sp_mark_between (K : PySem.W.Frag) : Sp := fun vs H Q E => ∃ (L h d : Nat) (lo hi : Option (List Nat)), vs = [.int L, .int h, .int d, optV lo, optV hi] ∧ 2 ≤ L ∧ L ≤ 26 ∧ d < h ∧ h < L ∧ Ends3 L lo hi ∧ Clo H ∧
  (Right lo hi → ∃ N, 1 ≤ N ∧ N ≤ 90000 ∧ 1 ≤ roomN L (ends L h d) lo hi N) ∧ (Right lo hi → ∀ k, LeastK L (ends L h d) lo hi 1 k → Q (.str (txt (betwMk L (ends L h d) lo hi k))) H) ∧ (¬ Right lo hi → E (.ref (He.ga K "NoRoom")) none H)
def t_mark_between (K : PySem.W.Frag) (E : XK) : TS :=
  (tSeq (tAsg (tCall (sp_least_long K) [] E (tCons (tVar 0) (tCons (tVar 1) (tCons (tVar 2) (tCons (tVar 3) (tCons (tVar 4) (tCons (tC (.int 1)) tNil))))))) (gName 5))
    (tSeq (tAsg (tCall (sp_room_at K) [] E (tCons (tVar 0) (tCons (tVar 1) (tCons (tVar 2) (tCons (tVar 3) (tCons (tVar 4) (tCons (tVar 5) tNil))))))) (gName 6))
    (tSeq (tAsg (tOp rDivW (tOp rSubI (tVar 6) (tC (.int 1))) (tC (.int 2))) (gName 7))
    (tMeet (tIfS (tAnd (tTest (tOp rIsN (tVar 4) (tC .non))) (tTest (tOp rNotN (tVar 3) (tC .non))))
    (tAsg (tC (.int 0)) (gName 7))
    tNext)
    (tMeet (tIfS (tAnd (tTest (tOp rIsN (tVar 3) (tC .non))) (tTest (tOp rNotN (tVar 4) (tC .non))))
    (tAsg (tOp rSubI (tVar 6) (tC (.int 1))) (gName 7))
    tNext)
    (tRet (tCall (sp_nth_mark K) [] E (tCons (tVar 0) (tCons (tVar 1) (tCons (tVar 2) (tCons (tVar 3) (tCons (tVar 4) (tCons (tVar 5) (tCons (tVar 7) tNil))))))))))))))
theorem len_mark_between {K : PySem.W.Frag} (vs : List V) (H : Hp) (Q : VK) (E : XK) : sp_mark_between K vs H Q E → vs.length = (["letters", "hands", "hand", "low", "high"] : List Str).length := by
  walk_at "len"

theorem LeastK.le {L : Nat} {F : List Nat} {lo hi : Option (List Nat)} {m k N : Nat} (h : LeastK L F lo hi m k) (h1 : 1 ≤ N) (h2 : m ≤ roomN L F lo hi N) : k ≤ N := by
  refine Nat.not_lt.mp fun z => ?_
  have := h.least N h1 z
  omega
theorem roomN_le {L k : Nat} {F : List Nat} {lo hi : Option (List Nat)} (hL : 2 ≤ L) (hF : Figs L F) (he : Ends2 L lo hi) : roomN L F lo hi k ≤ L ^ k := by
  have h1 := below_le hF (by omega) (pastN L hi k)
  have h2 := past_le (k := k) (by omega) he
  unfold roomN
  omega
theorem pure_mark_between {K : PySem.W.Frag} (T : Kx K) (vs : List V) (H : Hp) (Q : VK) (E : XK) (h : sp_mark_between K vs H Q E) : t_mark_between K E { nx := fun _ H' => Q .non H', rt := Q } (start ["letters", "hands", "hand", "low", "high", "long", "many", "number"] vs) H := by
  obtain ⟨L, h, d, lo, hi, rfl, hL, hL2, hd, hh, he, hC, hN, q1, q2⟩ := h
  walk_at "go"
  refine ⟨L, h, d, 1, lo, hi, rfl, hL, hL2, hd, hh, he, hC, hN, fun hr k hk => ?_, fun z => q2 z⟩
  obtain ⟨N, hN1, hN2, hN3⟩ := hN hr
  have hkN := hk.le hN1 hN3
  have q := q1 hr k hk
  clear q1 q2 hN
  have hF := figs_ends hd hh
  have hrl := roomN_le (k := k) hL hF he.e
  have h4 := pow26 (k := k) (by omega) hL2
  have hroom := hk.room
  unfold betwMk at q
  walk_at "go"
  refine ⟨L, h, d, k, lo, hi, rfl, hL, hL2, hd, hh, by omega, he, hC, fun _ => ?_, fun z => absurd hr z⟩
  generalize roomN L (ends L h d) lo hi k = R at *
  walk_at "go"
  refine meet_fix (fun σ' => σ' = [some (.int L), some (.int h), some (.int d), some (optV lo), some (optV hi), some (.int k), some (.int R), some (.int (if lo.isSome && hi.isNone then 0 else (R - 1) / 2 : Nat))]) ?_ ?_
  · walk_at "go"
    cases hi with
    | some b =>
      refine iteF ?_
      refine ⟨rfl, ?_⟩
      rw [show (lo.isSome && (some b : Option (List Nat)).isNone) = false by cases lo <;> rfl, if_neg (by decide), show (((R - 1) / 2 : Nat) : Int) = ((R : Int) - 1) / 2 by omega]
      rfl
    | none =>
      refine iteT ?_
      walk_at "go"
      cases lo with
      | none =>
        refine iteF ?_
        refine ⟨rfl, ?_⟩
        rw [show ((none : Option (List Nat)).isSome && (none : Option (List Nat)).isNone) = false from rfl, if_neg (by decide), show (((R - 1) / 2 : Nat) : Int) = ((R : Int) - 1) / 2 by omega]
        rfl
      | some a =>
        refine iteT ?_
        exact ⟨rfl, rfl⟩
  rintro _ rfl
  refine meet_fix (fun σ' => σ' = [some (.int L), some (.int h), some (.int d), some (optV lo), some (optV hi), some (.int k), some (.int R), some (.int (pickN lo hi R : Nat))]) ?_ ?_
  · walk_at "go"
    cases lo with
    | some a =>
      refine iteF ?_
      cases hi with
      | some b => exact ⟨rfl, rfl⟩
      | none => exact ⟨rfl, rfl⟩
    | none =>
      refine iteT ?_
      walk_at "go"
      cases hi with
      | none =>
        refine iteF ?_
        exact ⟨rfl, rfl⟩
      | some b =>
        refine iteT ?_
        walk_at "go"
        rw [show ((pickN none (some b) R : Nat) : Int) = (R : Int) - 1 by show ((R - 1 : Nat) : Int) = _; omega]
        rfl
  rintro _ rfl
  have hp : pickN lo hi R ≤ R := by
    unfold pickN
    split <;> omega
  walk_at "go"
  exact ⟨L, h, d, k, pickN lo hi R, lo, hi, rfl, hL, hL2, hd, hh, by omega, by omega, he, hC, fun _ => q, fun z => absurd hr z⟩
/-! ### run_between -/
/-- the i-th number of a run of m in a room R -/
def runN (R m i : Nat) : Nat := (i + 1) * (R + 1) / (m + 1) - 1
def runMk (L : Nat) (F : List Nat) (lo hi : Option (List Nat)) (k m : Nat) : List (List Nat) := (List.range m).map fun i => markOf L (nth L F (below L F (lowN L lo k) + runN (roomN L F lo hi k) m i)) k
theorem runN_le {R m i : Nat} (hm : m ≤ R) (hi : i < m) : 1 ≤ (i + 1) * (R + 1) / (m + 1) ∧ runN R m i < R := by
  have h1 : m + 1 ≤ (i + 1) * (R + 1) := by
    have := Nat.mul_le_mul (show 1 ≤ i + 1 by omega) (show m + 1 ≤ R + 1 by omega)
    omega
  have h2 : 1 ≤ (i + 1) * (R + 1) / (m + 1) := Nat.div_pos h1 (by omega)
  refine ⟨h2, ?_⟩
  unfold runN
  have h3 : (i + 1) * (R + 1) / (m + 1) < R + 1 := by
    refine (Nat.div_lt_iff_lt_mul (by omega)).mpr ?_
    rw [Nat.mul_comm (R + 1)]
    exact Nat.mul_lt_mul_of_pos_right (by omega) (by omega)
  omega
theorem run_V (L : Nat) (F : List Nat) (lo hi : Option (List Nat)) (k m : Nat) : ((List.range m).map fun i => V.str (txt (markOf L (nth L F (below L F (lowN L lo k) + runN (roomN L F lo hi k) m i)) k))) = ((runMk L F lo hi k m).map txt).map V.str := by
  unfold runMk
  rw [List.map_map, List.map_map]
  rfl
def sp_run_between (K : PySem.W.Frag) : Sp := fun vs H Q E => ∃ (L h d m : Nat) (lo hi : Option (List Nat)), vs = [.int L, .int h, .int d, optV lo, optV hi, .int m] ∧ 2 ≤ L ∧ L ≤ 26 ∧ d < h ∧ h < L ∧ 1 ≤ m ∧ m ≤ 10000 ∧ Ends3 L lo hi ∧ Clo H ∧
  (Right lo hi → ∃ N, 1 ≤ N ∧ N ≤ 90000 ∧ m ≤ roomN L (ends L h d) lo hi N) ∧ (Right lo hi → ∀ k p, LeastK L (ends L h d) lo hi m k → H p = none → Q (.ref p) (upd H p (.lst (((runMk L (ends L h d) lo hi k m).map txt).map V.str)))) ∧ (¬ Right lo hi → E (.ref (He.ga K "NoRoom")) none H)
def t_run_between (K : PySem.W.Frag) (E : XK) : TS :=
  (tTrim (tSeq (tAsg (tCall (sp_least_long K) [] E (tCons (tVar 0) (tCons (tVar 1) (tCons (tVar 2) (tCons (tVar 3) (tCons (tVar 4) (tCons (tVar 5) tNil))))))) (gName 6))
    (tSeq (tAsg (tCall (sp_room_at K) [] E (tCons (tVar 0) (tCons (tVar 1) (tCons (tVar 2) (tCons (tVar 3) (tCons (tVar 4) (tCons (tVar 6) tNil))))))) (gName 7))
    (tSeq (tAsg (tLst tNil) (gName 8))
    (tSeq (tFor (iRng1 (tCons (tVar 5) tNil)) (gName 9)
    (tSeq (tAsg (tOp rSubI (tOp rDivW (tOp rMulW (tOp rAddI (tVar 9) (tC (.int 1))) (tOp rAddI (tVar 7) (tC (.int 1)))) (tOp rAddI (tVar 5) (tC (.int 1)))) (tC (.int 1))) (gName 10))
    (tDrop (tBM K "list" rAppend (tVar 8) (tCons (tCall (sp_nth_mark K) [] E (tCons (tVar 0) (tCons (tVar 1) (tCons (tVar 2) (tCons (tVar 3) (tCons (tVar 4) (tCons (tVar 6) (tCons (tVar 10) tNil)))))))) tNil)))))
    (tRet (tVar 8)))))))
theorem len_run_between {K : PySem.W.Frag} (vs : List V) (H : Hp) (Q : VK) (E : XK) : sp_run_between K vs H Q E → vs.length = (["letters", "hands", "hand", "low", "high", "many"] : List Str).length := by
  walk_at "len"

theorem pure_run_between {K : PySem.W.Frag} (T : Kx K) (vs : List V) (H : Hp) (Q : VK) (E : XK) (h : sp_run_between K vs H Q E) : t_run_between K E { nx := fun _ H' => Q .non H', rt := Q } (start ["letters", "hands", "hand", "low", "high", "many", "long", "room", "marks", "k", "number"] vs) H := by
  obtain ⟨L, h, d, m, lo, hi, rfl, hL, hL2, hd, hh, hm1, hm2, he, hC, hN, q1, q2⟩ := h
  walk_at "go"
  refine ⟨L, h, d, m, lo, hi, rfl, hL, hL2, hd, hh, he, hC, hN, fun hr k hk => ?_, fun z => q2 z⟩
  obtain ⟨N, hN1, hN2, hN3⟩ := hN hr
  have hkN := hk.le hN1 hN3
  have q := fun p => q1 hr k p hk
  clear q1 q2 hN
  have hF := figs_ends hd hh
  have hrl := roomN_le (k := k) hL hF he.e
  have h4 := pow26 (k := k) (by omega) hL2
  have hroom := hk.room
  walk_at "go"
  refine ⟨L, h, d, k, lo, hi, rfl, hL, hL2, hd, hh, by omega, he, hC, fun _ => ?_, fun z => absurd hr z⟩
  walk_at "go"
  intro p hp
  have hCp : ∀ xs, Clo (upd H p (.lst xs)) := fun xs => clo_new hC hp rfl
  walk_at "go"
  refine for_fn walk_range1 (fun i σ' H' => ∃ x9 x10, H' = upd H p (.lst ((List.range i).map fun i => V.str (txt (markOf L (nth L (ends L h d) (below L (ends L h d) (lowN L lo k) + runN (roomN L (ends L h d) lo hi k) m i)) k)))) ∧ σ' = [some (.int L), some (.int h), some (.int d), some (optV lo), some (optV hi), some (.int m), some (.int k), some (.int (roomN L (ends L h d) lo hi k)), some (.ref p), x9, x10])
    ⟨_, _, rfl, rfl⟩ (fun _ _ _ _ _ => trivial) ?_ ?_
  · rintro i σ' _ hi' ⟨x9, x10, rfl, rfl⟩
    have him : i < m := by simpa using hi'
    obtain ⟨hr1, hr2⟩ := runN_le hroom him
    have hw : CMulW ((i : Int) + 1) (((roomN L (ends L h d) lo hi k : Nat) : Int) + 1) := mulW 64 500001 (by omega) (by
      have h1 : (2 : Nat) ^ 500000 + 1 < 2 ^ 500001 := by
        rw [Nat.pow_succ]
        have : (2 : Nat) ^ 10 ≤ 2 ^ 500000 := Nat.pow_le_pow_right (by decide) (by decide)
        omega
      omega)
    have en : ((i : Int) + 1) * (((roomN L (ends L h d) lo hi k : Nat) : Int) + 1) / ((m : Int) + 1) - 1 = ((runN (roomN L (ends L h d) lo hi k) m i : Nat) : Int) := by
      unfold runN
      rw [show ((i : Int) + 1) * (((roomN L (ends L h d) lo hi k : Nat) : Int) + 1) / ((m : Int) + 1) = (((i + 1) * (roomN L (ends L h d) lo hi k + 1) / (m + 1) : Nat) : Int) from rfl]
      omega
    walk_at "go"
    dsimp only
    rw [en]
    walk_at "go"
    refine ⟨L, h, d, k, runN (roomN L (ends L h d) lo hi k) m i, lo, hi, rfl, hL, hL2, hd, hh, by omega, by omega, he, hCp _, fun _ => ?_, fun z => absurd hr z⟩
    walk_at "b"
    refine app_new ?_ ?_
    · rw [List.length_map, List.length_range, sz]; omega
    · refine ⟨_, _, ?_, rfl⟩
      rw [List.range_succ, List.map_append]; rfl
  · rintro σ' _ ⟨x9, x10, rfl, rfl⟩
    rw [Int.toNat_natCast, run_V]
    refine ⟨_, rfl, _, Trim.last (Rst.refl H) (Ex.refl H) hp hC rfl, q p hp⟩
/-! ### renewed_long -/
def sp_renewed_long (K : PySem.W.Frag) : Sp := fun vs H Q _ => ∃ L m : Nat, vs = [.int L, .int m] ∧ 2 ≤ L ∧ L ≤ 26 ∧ m ≤ 90000 ∧ ∀ k, Long L m k → Q (.int k) H
def t_renewed_long (K : PySem.W.Frag) (E : XK) : TS :=
  (tSeq (tAsg (tC (.int 0)) (gName 2))
    (tSeq (tAsg (tC (.int 1)) (gName 3))
    (tSeq (tWhile (tTest (tOp rLtI (tOp rSubI (tVar 3) (tC (.int 1))) (tVar 1))) (tSeq (tAsg (tOp rAddI (tVar 2) (tC (.int 1))) (gName 2))
    (tAsg (tOp rMulW (tVar 3) (tVar 0)) (gName 3))))
    (tRet (tVar 2)))))
theorem len_renewed_long {K : PySem.W.Frag} (vs : List V) (H : Hp) (Q : VK) (E : XK) : sp_renewed_long K vs H Q E → vs.length = (["letters", "many"] : List Str).length := by
  walk_at "len"

theorem pure_renewed_long {K : PySem.W.Frag} (T : Kx K) (vs : List V) (H : Hp) (Q : VK) (E : XK) (h : sp_renewed_long K vs H Q E) : t_renewed_long K E { nx := fun _ H' => Q .non H', rt := Q } (start ["letters", "many", "long", "count"] vs) H := by
  obtain ⟨L, m, rfl, hL, hL2, hm, q⟩ := h
  walk_at "go"
  refine ⟨fun μ σ' H' => ∃ k : Nat, (∀ j, j < k → L ^ j ≤ m) ∧ μ = m + 1 - k ∧ H' = H ∧ σ' = [some (.int L), some (.int m), some (.int k), some (.int ((L ^ k : Nat) : Int))], ⟨_, 0, fun j h => by omega, rfl, rfl, rfl⟩, ?_⟩
  rintro μ σ' _ ⟨k, hk, rfl, rfl, rfl⟩
  walk_at "go"
  refine iteD (fun c => ?_) fun c => ?_
  · have hk2 : ∀ j, j < k + 1 → L ^ j ≤ m := fun j hj => by
      rcases Nat.lt_succ_iff_lt_or_eq.mp hj with h | rfl
      · exact hk j h
      · omega
    have hle : k ≤ m := by
      have h2 : k < 2 ^ k := Nat.lt_two_pow_self
      have h3 := Nat.pow_le_pow_left hL k
      omega
    have hw := pow_mulW (k := k) hL2 (by omega)
    refine ⟨_, fun _ _ z => z, ?_⟩
    walk_at "go"
    refine ⟨m + 1 - (k + 1), by omega, k + 1, hk2, rfl, rfl, ?_⟩
    rw [Nat.pow_succ]
    rfl
  · walk_at "go"
    exact q k ⟨by omega, hk⟩
/-! ### renewed -/
def sp_renewed (K : PySem.W.Frag) : Sp := fun vs H Q _ => ∃ L m : Nat, vs = [.int L, .int m] ∧ 2 ≤ L ∧ L ≤ 26 ∧ m ≤ 90000 ∧ Clo H ∧ ∀ k p, Long L m k → H p = none → Q (.ref p) (upd H p (.lst (((rens L m k).map txt).map V.str)))
def t_renewed (K : PySem.W.Frag) (E : XK) : TS :=
  (tTrim (tSeq (tAsg (tCall (sp_renewed_long K) [] E (tCons (tVar 0) (tCons (tVar 1) tNil))) (gName 2))
    (tSeq (tAsg (tC (.int 1)) (gName 3))
    (tSeq (tFor (iRng1 (tCons (tVar 2) tNil)) (gName 4)
    (tAsg (tOp rMulW (tVar 3) (tVar 0)) (gName 3)))
    (tRet (tLc (iRng1 (tCons (tVar 1) tNil)) (gName 4) tYes (tCall (sp_mark_of K) [] E0 (tCons (tVar 0) (tCons (tOp rDivW (tOp rMulW (tOp rAddI (tVar 4) (tC (.int 1))) (tVar 3)) (tOp rAddI (tVar 1) (tC (.int 1)))) (tCons (tVar 2) tNil)))) [4]))))))
theorem len_renewed {K : PySem.W.Frag} (vs : List V) (H : Hp) (Q : VK) (E : XK) : sp_renewed K vs H Q E → vs.length = (["letters", "many"] : List Str).length := by
  walk_at "len"

theorem pure_renewed {K : PySem.W.Frag} (T : Kx K) (vs : List V) (H : Hp) (Q : VK) (E : XK) (h : sp_renewed K vs H Q E) : t_renewed K E { nx := fun _ H' => Q .non H', rt := Q } (start ["letters", "many", "long", "count", "k"] vs) H := by
  obtain ⟨L, m, rfl, hL, hL2, hm, hC, q⟩ := h
  walk_at "go"
  intro k hk
  have hkm := hk.le_m hL
  walk_at "go"
  refine for_fix walk_range1 (fun i σ' => ∃ x4, σ' = [some (.int L), some (.int m), some (.int k), some (.int ((L ^ i : Nat) : Int)), x4]) trivial ⟨_, rfl⟩ ?_ ?_
  · rintro i σ' hi ⟨x4, rfl⟩
    have hi' : i < k := by simpa using hi
    have hw := pow_mulW (k := i) hL2 (by omega)
    walk_at "go"
    refine ⟨some (.int i), ?_⟩
    rw [Nat.pow_succ]
    rfl
  · rintro σ' ⟨x4, rfl⟩
    rw [Int.toNat_natCast]
    walk_at "go"
    intro p hp
    refine lc_fn walk_range1 (fun _ => true) (fun i => .str (txt (markOf L (renN L m k i) k))) (by rw [Int.toNat_natCast]; omega) (fun _ => trivial) ?_ ?_
    · intro i acc hi ha N hN _
      have hi' : i < m := by simpa using hi
      have hb := pow26 (k := k) (by omega) hL2
      have hw : CMulW ((i : Int) + 1) ((L ^ k : Nat) : Int) := mulW 64 500001 (by omega) (Nat.lt_of_le_of_lt hb (Nat.pow_lt_pow_right (by decide) (by decide)))
      walk_at "go"
      exact lc_end ha (by omega) (hN rfl)
    · rw [Int.toNat_natCast, filt_all, rens_V]
      exact ⟨_, Trim.last (Rst.refl H) (Ex.refl H) hp hC rfl, q k p hk hp⟩
/-! ### is_thing -/
abbrev SGN : Str := "abcdefghijklmnopqrstuvwxyz0123456789"
/-- a text is a thing -/
def isTh (t : Str) : Bool := decide (1 ≤ t.length) && (decide (t.length ≤ 12) && t.cps.toList.all fun c => decide (c ∈ SGN.cps.toList))
def sp_is_thing (K : PySem.W.Frag) : Sp := fun vs H Q _ => ∃ t : Str, vs = [.str t] ∧ t.length ≤ 1000000 ∧ Q (.bl (isTh t)) H
def t_is_thing (K : PySem.W.Frag) (E : XK) : TS :=
  (tSeq (tIfS (tOr (tTest (tOp rEq (tCB rLenS1 (tCons (tVar 0) tNil)) (tC (.int 0)))) (tTest (tOp rGtI (tCB rLenS1 (tCons (tVar 0) tNil)) (tC (.int 12)))))
    (tRet (tC (.bl false)))
    tNext)
    (tSeq (tFor (iStr (tVar 0)) (gName 1)
    (tIfS (tTest (tOp rNotInC (tVar 1) (tC (.str "abcdefghijklmnopqrstuvwxyz0123456789"))))
    (tRet (tC (.bl false)))
    tNext))
    (tRet (tC (.bl true)))))
theorem len_is_thing {K : PySem.W.Frag} (vs : List V) (H : Hp) (Q : VK) (E : XK) : sp_is_thing K vs H Q E → vs.length = (["text"] : List Str).length := by
  walk_at "len"

theorem pure_is_thing {K : PySem.W.Frag} (T : Kx K) (vs : List V) (H : Hp) (Q : VK) (E : XK) (h : sp_is_thing K vs H Q E) : t_is_thing K E { nx := fun _ H' => Q .non H', rt := Q } (start ["text", "sign"] vs) H := by
  obtain ⟨t, rfl, ht, q⟩ := h
  unfold isTh at q
  walk_at "go"
  refine iteEI (fun c => ?_) fun c1 => ?_
  · rw [decide_eq_false (by omega)] at q
    exact q
  rw [decide_eq_true (show 1 ≤ t.length by omega)] at q
  walk_at "go"
  refine iteD (fun c => ?_) fun c2 => ?_
  · rw [decide_eq_false (by omega)] at q
    exact q
  rw [decide_eq_true (show t.length ≤ 12 by omega)] at q
  walk_at "go"
  refine for_fix walk_strF (fun j σ' => (∀ m, m < j → t.cps.toList.getD m 0 ∈ SGN.cps.toList) ∧ ∃ x1, σ' = [some (.str t), x1]) trivial ⟨fun m hm => absurd hm (Nat.not_lt_zero _), _, rfl⟩ ?_ ?_
  · rintro j σ' hj ⟨hall, x1, rfl⟩
    have hj2 : j < t.cps.toList.length := by rw [Array.length_toList]; exact hj
    walk_at "go"
    refine iteDN (fun c => ?_) fun c => ?_
    · have : (t.cps.toList.all fun c => decide (c ∈ SGN.cps.toList)) = false := by
        rw [Bool.eq_false_iff]
        intro z
        have z2 := of_decide_eq_true (List.all_eq_true.mp z _ (List.getElem_mem hj2))
        rw [List.getD_eq_getElem?_getD, List.getElem?_eq_getElem hj2] at c
        exact c z2
      rw [this] at q
      exact q
    · refine ⟨rfl, fun m hm => ?_, _, rfl⟩
      rcases Nat.lt_succ_iff_lt_or_eq.mp hm with z | z
      · exact hall m z
      · rw [z]; exact c
  · rintro σ' ⟨hall, x1, rfl⟩
    have : (t.cps.toList.all fun c => decide (c ∈ SGN.cps.toList)) = true := List.all_eq_true.mpr fun c hc => by
      obtain ⟨m, hm, rfl⟩ := List.mem_iff_getElem.mp hc
      have := hall m (by rw [Array.length_toList] at hm; exact hm)
      rw [List.getD_eq_getElem?_getD, List.getElem?_eq_getElem hm] at this
      exact decide_eq_true this
    rw [this] at q
    walk_at "go"
    exact q
/-! ### Shelf___init__ -/
def sp_Shelf___init__ (K : PySem.W.Frag) : Sp := fun vs H Q E => ∃ (p dx : Addr) (L : Int), vs = [.ref p, .int L] ∧ H p = some (.ins (He.ga K "Shelf") dx []) ∧ Clo H ∧
  (¬ (2 ≤ L ∧ L ≤ 26) → E (.ref (He.ga K "NoLetters")) none H) ∧
  (2 ≤ L → L ≤ 26 → ∀ lt lm H', lt ≠ lm → H lt = none → H lm = none → (∀ a o, a ≠ p → H a = some o → H' a = some o) → Clo H' → IsShelf K H' p lt lm L [] [] → Q .non H')
def t_Shelf___init__ (K : PySem.W.Frag) (E : XK) : TS :=
  (tTrim (tSeq (tDrop (tCall (sp_ask_letters K) [] E (tCons (tVar 1) (tCons (tC (.int 1)) tNil))))
    (tSeq (sFld K (tVar 0) (tVar 1) "letters")
    (tSeq (sFld K (tVar 0) (tLst tNil) "row_things")
    (sFld K (tVar 0) (tLst tNil) "row_marks")))))
theorem len_Shelf___init__ {K : PySem.W.Frag} (vs : List V) (H : Hp) (Q : VK) (E : XK) : sp_Shelf___init__ K vs H Q E → vs.length = (["self", "letters"] : List Str).length := by
  walk_at "len"

theorem pure_Shelf___init__ {K : PySem.W.Frag} (T : Kx K) (vs : List V) (H : Hp) (Q : VK) (E : XK) (h : sp_Shelf___init__ K vs H Q E) : t_Shelf___init__ K E { nx := fun _ H' => Q .non H', rt := Q } (start ["self", "letters"] vs) H := by
  obtain ⟨p, dx, L, rfl, hp, hC, q1, q2⟩ := h
  walk_at "go"
  refine ⟨fun z => ?_, fun z => q1 fun y => z ⟨y.1, y.2, by omega, by omega⟩⟩
  have q := q2 z.1 z.2.1
  clear q1 q2
  have hdx : H dx = some (.own p) := hC _ _ hp
  have hdp : dx ≠ p := fun e => by rw [e, hp] at hdx; cases hdx
  walk_at "go"
  refine ⟨p, _, dx, _, rfl, hp, T.c_Shelf, T.a_Shelf_letters, by decide, ?_⟩
  obtain ⟨H1, e1⟩ : ∃ H1, H1 = upd H p (.ins (He.ga K "Shelf") dx (putF ("letters" : Str) (.int L) [])) := ⟨_, rfl⟩
  rw [← e1]
  have hp1 : H1 p = some (.ins (He.ga K "Shelf") dx (putF ("letters" : Str) (.int L) [])) := by rw [e1]; exact upd_same
  have hn1 : ∀ a, a ≠ p → H1 a = H a := fun a ha => by rw [e1]; exact upd_ne ha
  walk_at "go"
  intro lt hlt
  have hlp : lt ≠ p := fun e => by rw [e, hp1] at hlt; cases hlt
  refine ⟨_, rfl, ?_⟩
  refine ⟨p, _, dx, _, rfl, (by rw [upd_ne hlp.symm]; exact hp1), T.c_Shelf, T.a_Shelf_row_things, (by have := length_putF ("letters" : Str) (.int L) []; rw [List.length_nil] at this; omega), ?_⟩
  obtain ⟨H2, e2⟩ : ∃ H2, H2 = upd (upd H1 lt (.lst [])) p (.ins (He.ga K "Shelf") dx (putF ("row_things" : Str) (.ref lt) (putF ("letters" : Str) (.int L) []))) := ⟨_, rfl⟩
  rw [← e2]
  have hp2 : H2 p = some (.ins (He.ga K "Shelf") dx (putF ("row_things" : Str) (.ref lt) (putF ("letters" : Str) (.int L) []))) := by rw [e2]; exact upd_same
  have hn2 : ∀ a, a ≠ p → a ≠ lt → H2 a = H a := fun a ha hb => by rw [e2, upd_ne ha, upd_ne hb]; exact hn1 a ha
  have hl2 : H2 lt = some (.lst []) := by rw [e2, upd_ne hlp]; exact upd_same
  walk_at "go"
  intro lm hlm
  have hmp : lm ≠ p := fun e => by rw [e, hp2] at hlm; cases hlm
  have hml : lm ≠ lt := fun e => by rw [e, hl2] at hlm; cases hlm
  refine ⟨_, rfl, ?_⟩
  refine ⟨p, _, dx, _, rfl, (by rw [upd_ne hmp.symm]; exact hp2), T.c_Shelf, T.a_Shelf_row_marks, (by have := length_putF ("letters" : Str) (.int L) []; have := length_putF ("row_things" : Str) (.ref lt) (putF ("letters" : Str) (.int L) []); rw [List.length_nil] at *; omega), ?_⟩
  obtain ⟨H3, e3⟩ : ∃ H3, H3 = upd (upd H2 lm (.lst [])) p (.ins (He.ga K "Shelf") dx (putF ("row_marks" : Str) (.ref lm) (putF ("row_things" : Str) (.ref lt) (putF ("letters" : Str) (.int L) [])))) := ⟨_, rfl⟩
  rw [← e3]
  have hp3 : H3 p = some (.ins (He.ga K "Shelf") dx (shF L lt lm)) := by rw [e3]; exact upd_same
  have hn3 : ∀ a, a ≠ p → a ≠ lt → a ≠ lm → H3 a = H a := fun a ha hb hc => by rw [e3, upd_ne ha, upd_ne hc]; exact hn2 a ha hb
  have hl3 : H3 lt = some (.lst []) := by rw [e3, upd_ne hlp, upd_ne hml.symm]; exact hl2
  have hm3 : H3 lm = some (.lst []) := by rw [e3, upd_ne hmp]; exact upd_same
  have hlt0 : H lt = none := by rw [← hn1 lt hlp]; exact hlt
  have hlm0 : H lm = none := by rw [← hn2 lm hmp hml]; exact hlm
  have hkeep : ∀ a o, a ≠ p → H a = some o → H3 a = some o := fun a o ha e => by
    rw [hn3 a ha (ne_of_none e hlt0) (ne_of_none e hlm0)]; exact e
  have hC3 : Clo H3 := fun a o e => by
    by_cases ha : a = p
    · rw [ha, hp3] at e
      cases e
      rw [ha]
      exact hkeep dx _ hdp hdx
    · by_cases hb : a = lt
      · rw [hb, hl3] at e; cases e; trivial
      · by_cases hc : a = lm
        · rw [hc, hm3] at e; cases e; trivial
        · rw [hn3 a ha hb hc] at e
          have z := hC a o e
          clear e
          induction o with
          | dT _ => exact z
          | ins C dx' fs =>
            have z' : H dx' = some (.own a) := z
            exact hkeep dx' _ (fun y => by rw [y, hp] at z'; cases z') z'
          | frz ob v ih => exact ih z
          | _ => trivial
  refine ⟨_, ⟨fun a o e => e, fun a xs e => ?_, fun a o u e => ?_, fun a ps e => ⟨#[], ?_⟩, hC3⟩, q lt lm H3 hml.symm hlt0 hlm0 hkeep hC3 ⟨⟨dx, hp3⟩, hl3, hm3⟩⟩
  · exact hkeep a _ (fun y => by rw [y, hp] at e; cases e) e
  · exact hkeep a _ (fun y => by rw [y, hp] at e; cases e) e
  · rw [hkeep a _ (fun y => by rw [y, hp] at e; cases e) e, Array.append_empty]
/-! ### Shelf_ask_put -/
/-- things that may come to n others -/
def ThOk (n : Nat) (some : List Str) : Prop := some ≠ [] ∧ n + some.length ≤ 300 ∧ ∀ t ∈ some, isTh t = true
def sp_Shelf_ask_put (K : PySem.W.Frag) : Sp := fun vs H Q E => ∃ (p lt lm ps : Addr) (L : Nat) (i : Int) (ts ms some : List Str), vs = [.ref p, .int i, .ref ps] ∧ IsShelf K H p lt lm L ts ms ∧ H ps = Option.some (.lst (some.map V.str)) ∧ ts.length ≤ 1000000 ∧ some.length ≤ 1000000 ∧ (∀ t ∈ some, t.length ≤ 1000000) ∧ Clo H ∧
  (¬ ThOk ts.length some → E (.ref (He.ga K "NoThing")) none H) ∧ (ThOk ts.length some → ¬ (0 ≤ i ∧ i ≤ ts.length) → E (.ref (He.ga K "NoPlace")) none H) ∧ (ThOk ts.length some → 0 ≤ i → i ≤ ts.length → Q .non H)
def t_Shelf_ask_put (K : PySem.W.Frag) (E : XK) : TS :=
  (tSeq (tIfS (tOr (tTest (tOp rEq (tCB (rLenQ K) (tCons (tVar 2) tNil)) (tC (.int 0)))) (tTest (tOp rGtI (tOp rAddI (tCB (rLenQ K) (tCons (tFld K (tVar 0) "row_things") tNil)) (tCB (rLenQ K) (tCons (tVar 2) tNil))) (tC (.int 300)))))
    (tRaiseO K "NoThing" (fun c d _ H => E c d H))
    tNext)
    (tSeq (tFor (iList K (tVar 2)) (gName 3)
    (tIfS (tNot (tB (tCall (sp_is_thing K) [] E (tCons (tVar 3) tNil))))
    (tRaiseO K "NoThing" (fun c d _ H => E c d H))
    tNext))
    (tIfS (tOr (tTest (tOp rLtI (tVar 1) (tC (.int 0)))) (tTest (tOp rGtI (tVar 1) (tCB (rLenQ K) (tCons (tFld K (tVar 0) "row_things") tNil)))))
    (tRaiseO K "NoPlace" (fun c d _ H => E c d H))
    tNext)))
theorem len_Shelf_ask_put {K : PySem.W.Frag} (vs : List V) (H : Hp) (Q : VK) (E : XK) : sp_Shelf_ask_put K vs H Q E → vs.length = (["self", "place", "some"] : List Str).length := by
  walk_at "len"

theorem pure_Shelf_ask_put {K : PySem.W.Frag} (T : Kx K) (vs : List V) (H : Hp) (Q : VK) (E : XK) (h : sp_Shelf_ask_put K vs H Q E) : t_Shelf_ask_put K E { nx := fun _ H' => Q .non H', rt := Q } (start ["self", "place", "some", "thing"] vs) H := by
  obtain ⟨p, lt, lm, ps, L, i, ts, ms, som, rfl, hsh, hps, hl1, hl2, htl, hC, q1, q2, q3⟩ := h
  have hSp : SqL K H ps (som.map V.str) := .inl (.inl hps)
  have hSt : SqL K H lt (ts.map V.str) := .inl (.inl hsh.lt)
  have e1 : (som.map V.str).length = som.length := List.length_map _
  have e2 : (ts.map V.str).length = ts.length := List.length_map _
  walk_at "go"
  refine iteEI (fun c => q1 fun z => z.1 (List.length_eq_zero_iff.mp (by omega))) fun c1 => ?_
  walk_at "go"
  refine ⟨_, _, _, shF _ lt lm, .ref lt, rfl, hsh.at_.choose_spec, T.c_Shelf, T.a_Shelf_row_things, rfl, ?_⟩
  refine ⟨_, _, rfl, Or.inl hSt, ?_⟩
  walk_at "go"
  refine iteD (fun c => q1 fun z => by have := z.2.1; omega) fun c2 => ?_
  walk_at "go"
  refine ⟨⟨_, hSp⟩, ?_⟩
  refine for_fix walk_listF (fun j σ' => (∀ m, m < j → isTh (som.getD m "") = true) ∧ ∃ x3, σ' = [some (.ref p), some (.int i), some (.ref ps), x3]) hSp ⟨fun m hm => absurd hm (Nat.not_lt_zero _), _, rfl⟩ ?_ ?_
  · rintro j σ' hj ⟨hall, x3, rfl⟩
    have hj2 : j < som.length := by omega
    have e3 : (som.map V.str).getD j .non = .str (som.getD j "") := by
      rw [List.getD_eq_getElem?_getD, List.getElem?_map, List.getElem?_eq_getElem hj2, List.getD_eq_getElem?_getD, List.getElem?_eq_getElem hj2]; rfl
    have hm : som.getD j "" ∈ som := by
      rw [List.getD_eq_getElem?_getD, List.getElem?_eq_getElem hj2]
      exact List.getElem_mem hj2
    have htj := htl _ hm
    rw [e3]
    walk_at "go"
    refine ite2 (fun c => ?_) fun c => ?_
    · exact q1 fun z => by
        rw [z.2.2 _ hm] at c
        cases c
    · refine ⟨rfl, fun m hm => ?_, _, rfl⟩
      rcases Nat.lt_succ_iff_lt_or_eq.mp hm with z | z
      · exact hall m z
      · rw [z]; simpa using c
  · rintro σ' ⟨hall, x3, rfl⟩
    have hok : ThOk ts.length som := by
      refine ⟨fun z => c1 (by rw [e1, z]; rfl), by omega, fun t ht => ?_⟩
      obtain ⟨m, hm, rfl⟩ := List.mem_iff_getElem.mp ht
      have := hall m (by omega)
      rw [List.getD_eq_getElem?_getD, List.getElem?_eq_getElem hm] at this
      exact this
    walk_at "go"
    refine iteD (fun c => q2 hok fun z => by omega) fun c3 => ?_
    walk_at "go"
    refine ⟨_, _, _, shF _ lt lm, .ref lt, rfl, hsh.at_.choose_spec, T.c_Shelf, T.a_Shelf_row_things, rfl, ?_⟩
    refine ⟨_, _, rfl, Or.inl hSt, ?_⟩
    walk_at "go"
    refine iteD (fun c => q2 hok fun z => by omega) fun c4 => ?_
    exact q3 hok (by omega) (by omega)
/-! ### Shelf_marks_round -/
def sp_Shelf_marks_round (K : PySem.W.Frag) : Sp := fun vs H Q E => ∃ (p lt lm : Addr) (L n : Nat) (ts : List Str) (M : List (List Nat)), vs = [.ref p, .int n] ∧ IsShelf K H p lt lm L ts (M.map txt) ∧ n ≤ M.length ∧ M.length ≤ 1000000 ∧ Clo H ∧
  ∀ a, H a = none → Q (.ref a) (upd H a (.tup [optV (lowAt M n), optV M[n]?]))
def t_Shelf_marks_round (K : PySem.W.Frag) (E : XK) : TS :=
  (tTrim (tSeq (tAsg (tC .non) (gName 2))
    (tSeq (tAsg (tC .non) (gName 3))
    (tMeet (tIfS (tTest (tOp rGtI (tVar 1) (tC (.int 0))))
    (tAsg (tOp (rIxL K) (tFld K (tVar 0) "row_marks") (tOp rSubI (tVar 1) (tC (.int 1)))) (gName 2))
    tNext)
    (tMeet (tIfS (tTest (tOp rLtI (tVar 1) (tCB (rLenQ K) (tCons (tFld K (tVar 0) "row_marks") tNil))))
    (tAsg (tOp (rIxL K) (tFld K (tVar 0) "row_marks") (tVar 1)) (gName 3))
    tNext)
    (tRet (tTup (tCons (tVar 2) (tCons (tVar 3) tNil)))))))))
theorem len_Shelf_marks_round {K : PySem.W.Frag} (vs : List V) (H : Hp) (Q : VK) (E : XK) : sp_Shelf_marks_round K vs H Q E → vs.length = (["self", "place"] : List Str).length := by
  walk_at "len"

theorem pure_Shelf_marks_round {K : PySem.W.Frag} (T : Kx K) (vs : List V) (H : Hp) (Q : VK) (E : XK) (h : sp_Shelf_marks_round K vs H Q E) : t_Shelf_marks_round K E { nx := fun _ H' => Q .non H', rt := Q } (start ["self", "place", "low", "high"] vs) H := by
  obtain ⟨p, lt, lm, L, n, ts, M, rfl, hsh, hn, hl, hC, q⟩ := h
  have hSm : SqL K H lm ((M.map txt).map V.str) := .inl (.inl hsh.lm)
  have e1 : ((M.map txt).map V.str).length = M.length := by rw [List.length_map, List.length_map]
  walk_at "go"
  refine meet_fix (fun σ' => σ' = [some (.ref p), some (.int n), some (optV (lowAt M n)), some .non]) ?_ ?_
  · walk_at "go"
    refine iteD (fun c => ?_) fun c => ?_
    · walk_at "go"
      refine ⟨_, _, _, shF _ lt lm, .ref lm, rfl, hsh.at_.choose_spec, T.c_Shelf, T.a_Shelf_row_marks, rfl, ?_⟩
      have hx : atI ((M.map txt).map V.str) ((n : Int) - 1) = some (optV (lowAt M n)) := by
        rw [show (n : Int) - 1 = ((n - 1 : Nat) : Int) by omega]
        refine atI_nat ?_
        unfold lowAt
        rw [if_neg (by omega), List.getElem?_map, List.getElem?_map, List.getElem?_eq_getElem (by omega)]; rfl
      walk_at "go"
      rfl
    · have : n = 0 := by omega
      subst this
      exact ⟨rfl, rfl⟩
  rintro _ rfl
  refine meet_fix (fun σ' => σ' = [some (.ref p), some (.int n), some (optV (lowAt M n)), some (optV M[n]?)]) ?_ ?_
  · walk_at "go"
    refine ⟨_, _, _, shF _ lt lm, .ref lm, rfl, hsh.at_.choose_spec, T.c_Shelf, T.a_Shelf_row_marks, rfl, ?_⟩
    refine ⟨_, _, rfl, Or.inl hSm, ?_⟩
    walk_at "go"
    refine iteD (fun c => ?_) fun c => ?_
    · walk_at "go"
      refine ⟨_, _, _, shF _ lt lm, .ref lm, rfl, hsh.at_.choose_spec, T.c_Shelf, T.a_Shelf_row_marks, rfl, ?_⟩
      have hx : atI ((M.map txt).map V.str) (n : Int) = some (optV M[n]?) := by
        refine atI_nat ?_
        rw [List.getElem?_map, List.getElem?_map, List.getElem?_eq_getElem (by omega)]; rfl
      walk_at "go"
      rfl
    · rw [List.getElem?_eq_none (by omega)]
      exact ⟨rfl, rfl⟩
  rintro _ rfl
  walk_at "go"
  intro a ha
  exact ⟨_, Trim.last (Rst.refl H) (Ex.refl H) ha hC rfl, q a ha⟩
/-! ### Shelf_put -/
/-- what stands on a shelf: marks, rising, not too long -/
structure GoodMs (L B : Nat) (M : List (List Nat)) : Prop where
  all : ∀ m ∈ M, Mk0 L m ∧ m ≠ [] ∧ m.length ≤ B
  up : M.Pairwise (· < ·)
theorem GoodMs.mono {L B C : Nat} {M : List (List Nat)} (h : GoodMs L B M) (hBC : B ≤ C) : GoodMs L C M := ⟨fun m hm => ⟨(h.all m hm).1, (h.all m hm).2.1, Nat.le_trans (h.all m hm).2.2 hBC⟩, h.up⟩
theorem GoodMs.nil (L B : Nat) : GoodMs L B [] := ⟨fun _ h => (nomatch h), .nil⟩
theorem lowAt_mem {α : Type} {M : List α} {i : Nat} {a : α} (h : lowAt M i = some a) : a ∈ M := by
  unfold lowAt at h
  split at h
  · cases h
  · exact List.mem_of_getElem? h
theorem GoodMs.ends3 {L B i : Nat} {M : List (List Nat)} (h : GoodMs L B M) (hB : B ≤ 80000) : Ends3 L (lowAt M i) M[i]? :=
  ⟨⟨fun a e => ⟨(h.all a (lowAt_mem e)).1, (h.all a (lowAt_mem e)).2.1⟩, fun b e => ⟨(h.all b (List.mem_of_getElem? e)).1, (h.all b (List.mem_of_getElem? e)).2.1⟩⟩,
    fun a e => by have := (h.all a (lowAt_mem e)).2.2; omega, fun b e => by have := (h.all b (List.mem_of_getElem? e)).2.2; omega⟩
theorem GoodMs.right {L B i : Nat} {M : List (List Nat)} (h : GoodMs L B M) : Right (lowAt M i) M[i]? := fun a b ha hb => by
  unfold lowAt at ha
  split at ha
  · cases ha
  · obtain ⟨h1, e1⟩ := List.getElem?_eq_some_iff.mp ha
    obtain ⟨h2, e2⟩ := List.getElem?_eq_some_iff.mp hb
    rw [← e1, ← e2]
    exact List.pairwise_iff_getElem.mp h.up _ _ h1 h2 (by omega)
theorem GoodMs.room {L B i : Nat} {M : List (List Nat)} (hL : 2 ≤ L) (h : GoodMs L B M) (hB : B ≤ 80000) : 1 ≤ roomN L (ends L 1 0) (lowAt M i) M[i]? (B + 1) := by
  have := room_ex (k := B) hL (show 0 < 1 by omega) (show 1 < L by omega) (h.ends3 (i := i) hB).e h.right (fun a e => (h.all a (lowAt_mem e)).2.2) (fun b e => (h.all b (List.mem_of_getElem? e)).2.2)
  unfold roomN
  omega
/-- the mark between fits in -/
theorem GoodMs.put {L B i k : Nat} {M : List (List Nat)} (hL : 2 ≤ L) (h : GoodMs L B M) (hB : B ≤ 80000) (hi : i ≤ M.length) (hk : LeastK L (ends L 1 0) (lowAt M i) M[i]? 1 k) : GoodMs L (B + 1) (insL M i (betwMk L (ends L 1 0) (lowAt M i) M[i]? k)) := by
  have x := betwMk_ok hL (show 0 < 1 by omega) (show 1 < L by omega) (h.ends3 (i := i) hB).e hk
  have hkB := hk.le (by omega) (h.room hL hB)
  generalize betwMk L (ends L 1 0) (lowAt M i) M[i]? k = m at x
  obtain ⟨hb1, hb2⟩ := x.betw
  refine ⟨fun y hy => ?_, ?_⟩
  · unfold insL at hy
    rcases List.mem_append.mp hy with hy | hy
    · rcases List.mem_append.mp hy with hy | hy
      · obtain ⟨a, b, c⟩ := h.all y (List.mem_of_mem_take hy)
        exact ⟨a, b, by omega⟩
      · rw [List.mem_singleton.mp hy]
        exact ⟨x.mk0, x.ne, by rw [x.len]; exact hkB⟩
    · obtain ⟨a, b, c⟩ := h.all y (List.mem_of_mem_drop hy)
      exact ⟨a, b, by omega⟩
  · have hdrop : ∀ y ∈ M.drop i, m < y := fun y hy => by
      obtain ⟨j, hj, rfl⟩ := List.mem_iff_getElem.mp hy
      rw [List.getElem_drop]
      have hj2 : j < M.length - i := by simpa using hj
      have hmi := hb2 M[i] (List.getElem?_eq_getElem (by omega))
      rcases Nat.eq_zero_or_pos j with z | z
      · subst z; exact hmi
      · exact List.lt_trans hmi (List.pairwise_iff_getElem.mp h.up _ _ (by omega) (by omega) (by omega))
    have htake : ∀ y ∈ M.take i, y < m := fun y hy => by
      obtain ⟨j, hj, rfl⟩ := List.mem_iff_getElem.mp hy
      rw [List.getElem_take]
      have hj2 : j < i := by
        have : j < min i M.length := by simpa using hj
        omega
      have hmi := hb1 (M[i - 1]'(by omega)) (by unfold lowAt; rw [if_neg (by omega)]; exact List.getElem?_eq_getElem (by omega))
      by_cases z : j = i - 1
      · subst z; exact hmi
      · exact List.lt_trans (List.pairwise_iff_getElem.mp h.up _ _ (by omega) (by omega) (by omega)) hmi
    unfold insL
    rw [List.append_assoc]
    refine List.pairwise_append.mpr ⟨h.up.sublist (List.take_sublist _ _), ?_, fun a ha b hb => ?_⟩
    · exact List.pairwise_cons.mpr ⟨hdrop, h.up.sublist (List.drop_sublist _ _)⟩
    · rcases List.mem_cons.mp hb with rfl | hb
      · exact htake a ha
      · exact List.lt_trans (htake a ha) (hdrop b hb)
def sp_Shelf_put (K : PySem.W.Frag) : Sp := fun vs H Q E => ∃ (p lt lm : Addr) (L B : Nat) (i : Int) (t : Str) (ts : List Str) (M : List (List Nat)), vs = [.ref p, .int i, .str t] ∧ IsShelf K H p lt lm L ts (M.map txt) ∧ lt ≠ lm ∧ Clo H ∧ 2 ≤ L ∧ L ≤ 26 ∧ GoodMs L B M ∧ B ≤ 80000 ∧ ts.length = M.length ∧ ts.length ≤ 300 ∧ t.length ≤ 1000000 ∧ -(2 ^ 62) ≤ i ∧ i < 2 ^ 62 ∧
  (¬ ThOk ts.length [t] → ∀ H', Ex H H' → Clo H' → E (.ref (He.ga K "NoThing")) none H') ∧
  (ThOk ts.length [t] → ¬ (0 ≤ i ∧ i ≤ ts.length) → ∀ H', Ex H H' → Clo H' → E (.ref (He.ga K "NoPlace")) none H') ∧
  (ThOk ts.length [t] → 0 ≤ i → i ≤ ts.length → ∀ k, LeastK L (ends L 1 0) (lowAt M i.toNat) M[i.toNat]? 1 k →
    Q (.str (txt (betwMk L (ends L 1 0) (lowAt M i.toNat) M[i.toNat]? k))) (upd (upd H lt (.lst ((insL ts i.toNat t).map V.str))) lm (.lst (((insL M i.toNat (betwMk L (ends L 1 0) (lowAt M i.toNat) M[i.toNat]? k)).map txt).map V.str))))
def t_Shelf_put (K : PySem.W.Frag) (E : XK) : TS :=
  (tTrim (tSeq (tDrop (tTrimE (tMeth (He.ga K "Shelf") "ask_put" (sp_Shelf_ask_put K) [] E (tVar 0) (tCons (tVar 1) (tCons (tLst (tCons (tVar 2) tNil)) tNil)))))
    (tSeq (tTrim (tAsg (tMeth (He.ga K "Shelf") "marks_round" (sp_Shelf_marks_round K) [] E (tVar 0) (tCons (tVar 1) tNil)) (gTup K 2 (gCons (gName 3) (gCons (gName 4) gNil)))))
    (tSeq (tAsg (tCall (sp_mark_between K) [] E (tCons (tFld K (tVar 0) "letters") (tCons (tC (.int 1)) (tCons (tC (.int 0)) (tCons (tVar 3) (tCons (tVar 4) tNil)))))) (gName 5))
    (tSeq (tDrop (tBM K "list" rInsert (tFld K (tVar 0) "row_things") (tCons (tVar 1) (tCons (tVar 2) tNil))))
    (tSeq (tDrop (tBM K "list" rInsert (tFld K (tVar 0) "row_marks") (tCons (tVar 1) (tCons (tVar 5) tNil))))
    (tRet (tVar 5))))))))
theorem len_Shelf_put {K : PySem.W.Frag} (vs : List V) (H : Hp) (Q : VK) (E : XK) : sp_Shelf_put K vs H Q E → vs.length = (["self", "place", "thing"] : List Str).length := by
  walk_at "len"

theorem pure_Shelf_put {K : PySem.W.Frag} (T : Kx K) (vs : List V) (H : Hp) (Q : VK) (E : XK) (h : sp_Shelf_put K vs H Q E) : t_Shelf_put K E { nx := fun _ H' => Q .non H', rt := Q } (start ["self", "place", "thing", "low", "high", "mark"] vs) H := by
  obtain ⟨p, lt, lm, L, B, i, t, ts, M, rfl, hsh, hne, hC, hL, hL2, hM, hB, hlen, hl3, htl, hi1, hi2, q1, q2, q3⟩ := h
  walk_at "go"
  refine sh_meth hsh (by decide +kernel) (by decide +kernel) (by decide +kernel) ?_
  walk_at "go"
  intro pl hpl
  have hex := Ex.new (o := .lst [V.str t]) (Ex.refl H) hpl
  have hC1 := clo_new (o := .lst [V.str t]) hC hpl rfl
  refine ⟨p, lt, lm, pl, L, i, ts, _, [t], rfl, hsh.ex hex, upd_same, by omega, by show 1 ≤ _; omega, fun y hy => by rw [List.mem_singleton.mp hy]; exact htl, hC1, fun z => q1 z _ hex hC1, fun z1 z2 => q2 z1 z2 _ hex hC1, fun z1 z2 z3 => ?_⟩
  have q := q3 z1 z2 z3
  clear q1 q2 q3
  obtain ⟨n, rfl⟩ := Int.eq_ofNat_of_zero_le z2
  rw [Int.toNat_natCast] at q
  have hn : n ≤ ts.length := by omega
  refine ⟨_, Trim.back hex hC, ?_⟩
  walk_at "go"
  refine sh_meth hsh (by decide +kernel) (by decide +kernel) (by decide +kernel) ?_
  walk_at "go"
  refine ⟨p, lt, lm, L, n, ts, M, rfl, hsh, by omega, by omega, hC, fun a ha => ?_⟩
  refine gTupN2 sqT_at ?_
  refine ⟨_, Trim.back (by walk_at "ex") hC, ?_⟩
  walk_at "go"
  refine ⟨_, _, _, shF _ lt lm, .int L, rfl, hsh.at_.choose_spec, T.c_Shelf, T.a_Shelf_letters, rfl, ?_⟩
  walk_at "go"
  refine ⟨L, 1, 0, lowAt M n, M[n]?, rfl, hL, hL2, by omega, by omega, hM.ends3 hB, hC, fun _ => ⟨B + 1, by omega, by omega, hM.room hL hB⟩, fun _ k hk => ?_, fun z => absurd hM.right z⟩
  have q := q k hk
  walk_at "go"
  refine ⟨_, _, _, shF _ lt lm, .ref lt, rfl, hsh.at_.choose_spec, T.c_Shelf, T.a_Shelf_row_things, rfl, ?_⟩
  refine ⟨tyV_list hsh.lt, ?_⟩
  walk_at "b"
  refine ⟨_, rfl, _, rfl, ?_⟩
  refine ⟨lt, _, n, .str t, rfl, rfl, hsh.lt, by rw [List.length_map, sz]; omega, by omega, by omega, ?_⟩
  rw [Int.toNat_natCast, insL_map]
  have hsh2 := hsh.set_t (ts' := insL ts n t) hne
  walk_at "go"
  refine ⟨_, _, _, shF _ lt lm, .ref lm, rfl, hsh2.at_.choose_spec, T.c_Shelf, T.a_Shelf_row_marks, rfl, ?_⟩
  refine ⟨tyV_list hsh2.lm, ?_⟩
  walk_at "b"
  refine ⟨_, rfl, _, rfl, ?_⟩
  refine ⟨lm, _, n, _, rfl, rfl, hsh2.lm, by rw [List.length_map, List.length_map, sz]; omega, by omega, by omega, ?_⟩
  rw [Int.toNat_natCast, insL_map, insL_map']
  refine ⟨_, rfl, ?_⟩
  have k1 : Kp H _ := Kp.set (o := .lst ((insL ts n t).map V.str)) hC hsh.lt rfl
  exact ⟨_, k1.trans (Kp.set k1.clo hsh2.lm rfl), q⟩
/-! ### Shelf_put_row -/
/-- the t-th of those between, at the length k -/
structure InMk (L : Nat) (F : List Nat) (lo hi : Option (List Nat)) (k t : Nat) (M : List Nat) : Prop where
  len : M.length = k
  mk0 : Mk0 L M
  ne : M ≠ []
  last : M.getD (k - 1) 0 ∈ F
  betw : Betw lo hi M
  lo_le : lowN L lo k ≤ whole L M k
  hi_lt : whole L M k < pastN L hi k
  num : below L F (whole L M k) = below L F (lowN L lo k) + t
theorem inMk_ok {L h d k t : Nat} {lo hi : Option (List Nat)} (hL : 2 ≤ L) (hd : d < h) (hh : h < L) (he : Ends2 L lo hi) (hk1 : 1 ≤ k) (ht : t < roomN L (ends L h d) lo hi k) : InMk L (ends L h d) lo hi k t (markOf L (nth L (ends L h d) (below L (ends L h d) (lowN L lo k) + t)) k) := by
  have hF := figs_ends hd hh
  obtain ⟨j, rfl⟩ : ∃ j, k = j + 1 := ⟨k - 1, by omega⟩
  unfold roomN at ht
  obtain ⟨n, hn⟩ : ∃ n, n = nth L (ends L h d) (below L (ends L h d) (lowN L lo (j + 1)) + t) := ⟨_, rfl⟩
  have hbn := below_nth hF (show 0 < L by omega) (below L (ends L h d) (lowN L lo (j + 1)) + t)
  have hnm := nth_mod hF (below L (ends L h d) (lowN L lo (j + 1)) + t)
  rw [← hn] at hbn hnm ⊢
  have h0 : n % L ≠ 0 := fun z => ends_0 L h d (z ▸ hnm)
  rw [mark_digs (by omega) h0]
  have hbs := below_succ hF (show 0 < L by omega) n
  rw [if_pos hnm] at hbs
  have hlow : lowN L lo (j + 1) ≤ n := by
    refine Nat.not_lt.mp fun z => ?_
    have := below_mono hF (show 0 < L by omega) (show n + 1 ≤ lowN L lo (j + 1) by omega)
    omega
  have hhi : n < pastN L hi (j + 1) := by
    refine Nat.not_le.mp fun z => ?_
    have := below_mono hF (show 0 < L by omega) z
    omega
  have hpast := past_le (k := j + 1) (by omega) he
  have hw : whole L (digs L n (j + 1)) (j + 1) = n := by rw [whole_digs, Nat.mod_eq_of_lt (by omega)]
  have hne : digs L n (j + 1) ≠ [] := by rw [digs_succ]; simp
  have hmk := mk0_digs (L := L) (n := n) (k := j) (by omega) h0
  refine ⟨digs_len _ _ _, hmk, hne, ?_, ?_, by rw [hw]; exact hlow, by rw [hw]; exact hhi, by rw [hw]; exact hbn⟩
  · rw [Nat.add_sub_cancel, digs_last]; exact hnm
  · exact (betw_iff (by omega) he hmk (Nat.le_of_eq (digs_len _ _ _)) hne).mpr ⟨by rw [hw]; exact hlow, by rw [hw]; exact hhi⟩
theorem low_le_past {L k : Nat} {lo hi : Option (List Nat)} (hL : 2 ≤ L) (e : Ends2 L lo hi) (hr : Right lo hi) : lowN L lo k ≤ pastN L hi k := by
  unfold lowN pastN
  cases lo with
  | none =>
    cases hi with
    | none => exact Nat.pow_pos (by omega)
    | some b =>
      show 1 ≤ if b.length ≤ k then _ else _
      split
      · exact whole_pos (by omega) (e.hi b rfl).1 (e.hi b rfl).2 (by assumption)
      · omega
  | some a =>
    cases hi with
    | none => exact whole_lt (by omega) (e.lo a rfl).1.lt _
    | some b =>
      have hab := hr a b rfl rfl
      show whole L a k + 1 ≤ if b.length ≤ k then _ else _
      split
      · exact (ltG_whole (by omega) (e.lo a rfl).1.lt (e.hi b rfl).1 (by assumption)).mp hab
      · have h1 := e.lo a rfl
        refine Nat.succ_le_succ (Nat.not_lt.mp fun z => ?_)
        -- a cut to k comes behind b cut to k: so b comes ahead of a
        have q := trunc_lt (k := k) (by omega) (e.hi b rfl).1.lt h1.1.lt z
        exact List.lt_asymm hab q
theorem runN_lt {R m i : Nat} (hm : m ≤ R) (hi : i + 1 < m) : runN R m i < runN R m (i + 1) := by
  obtain ⟨h1, _⟩ := runN_le (R := R) hm (show i < m by omega)
  unfold runN
  have h2 : (i + 1) * (R + 1) / (m + 1) + 1 ≤ (i + 1 + 1) * (R + 1) / (m + 1) := by
    rw [← Nat.add_div_right _ (show 0 < m + 1 by omega)]
    refine Nat.div_le_div_right ?_
    rw [Nat.add_mul (i + 1) 1, Nat.one_mul]
    omega
  omega

/-- items of a run put in at i -/
def insR {α : Type} (xs : List α) (i : Nat) (ys : List α) : List α := xs.take i ++ ys ++ xs.drop i
theorem insR_map {α β : Type} (f : α → β) (xs ys : List α) (i : Nat) : (xs.map f).take i ++ ys.map f ++ (xs.map f).drop i = (insR xs i ys).map f := by
  unfold insR
  rw [List.map_append, List.map_append, List.map_take, List.map_drop]
theorem insR_len {α : Type} {xs ys : List α} {i : Nat} (h : i ≤ xs.length) : (insR xs i ys).length = xs.length + ys.length := by
  unfold insR
  rw [List.length_append, List.length_append, List.length_take, List.length_drop]
  omega
theorem insR_mem {α : Type} {l ys : List α} {n : Nat} {z : α} (h : z ∈ insR l n ys) : z ∈ l ∨ z ∈ ys := by
  unfold insR at h
  rcases List.mem_append.mp h with h | h
  · rcases List.mem_append.mp h with h | h
    · exact .inl (List.mem_of_mem_take h)
    · exact .inr h
  · exact .inl (List.mem_of_mem_drop h)
theorem cut_take {xs : List V} {n : Nat} (h : n ≤ xs.length) : cutV xs none (some (n : Int)) = xs.take n := by
  unfold cutV
  rw [show HT.sIx xs.length 0 none = 0 from rfl, HT.sIx_nat, Nat.min_eq_left h, List.drop_zero, Nat.sub_zero]
theorem cut_drop {xs : List V} {n : Nat} (h : n ≤ xs.length) : cutV xs (some (n : Int)) none = xs.drop n := by
  unfold cutV
  rw [show HT.sIx xs.length xs.length none = xs.length from rfl, HT.sIx_nat, Nat.min_eq_left h, List.take_of_length_le (by rw [List.length_drop]; omega)]
/-- the run fits in -/
theorem GoodMs.row {L B i m k C : Nat} {M : List (List Nat)} (hL : 2 ≤ L) (h : GoodMs L B M) (hB : B ≤ 80000) (hi : i ≤ M.length) (hm : 1 ≤ m) (hk : LeastK L (ends L 1 0) (lowAt M i) M[i]? m k) (hC : k ≤ C) (hBC : B ≤ C) : GoodMs L C (insR M i (runMk L (ends L 1 0) (lowAt M i) M[i]? k m)) := by
  have hF := figs_ends (show 0 < 1 by omega) (show 1 < L by omega)
  have he := (h.ends3 (i := i) hB).e
  have hroom := hk.room
  have x : ∀ j, j < m → InMk L (ends L 1 0) (lowAt M i) M[i]? k (runN (roomN L (ends L 1 0) (lowAt M i) M[i]? k) m j) (markOf L (nth L (ends L 1 0) (below L (ends L 1 0) (lowN L (lowAt M i) k) + runN (roomN L (ends L 1 0) (lowAt M i) M[i]? k) m j)) k) := fun j hj => inMk_ok hL (by omega) (by omega) he hk.one (runN_le hroom hj).2
  have hmem : ∀ y ∈ runMk L (ends L 1 0) (lowAt M i) M[i]? k m, Mk0 L y ∧ y ≠ [] ∧ y.length = k ∧ Betw (lowAt M i) M[i]? y := fun y hy => by
    unfold runMk at hy
    obtain ⟨j, hj, rfl⟩ := List.mem_map.mp hy
    have z := x j (List.mem_range.mp hj)
    exact ⟨z.mk0, z.ne, z.len, z.betw⟩
  have hrm : ∀ a b, a < b → b < m → runN (roomN L (ends L 1 0) (lowAt M i) M[i]? k) m a < runN (roomN L (ends L 1 0) (lowAt M i) M[i]? k) m b := fun a b hab hb => by
    obtain ⟨d, rfl⟩ : ∃ d, b = a + 1 + d := ⟨b - (a + 1), by omega⟩
    induction d with
    | zero => exact runN_lt hroom hb
    | succ d ih => exact Nat.lt_trans (ih (by omega) (by omega)) (runN_lt hroom hb)
  have hpw : (runMk L (ends L 1 0) (lowAt M i) M[i]? k m).Pairwise (· < ·) := by
    unfold runMk
    refine List.pairwise_map.mpr ?_
    refine List.Pairwise.imp_of_mem (R := (· < ·)) (fun {a b} ha hb hab => ?_) List.pairwise_lt_range
    have za := x a (List.mem_range.mp ha)
    have zb := x b (List.mem_range.mp hb)
    refine (lt_whole (show 0 < L by omega) za.mk0 zb.mk0 (Nat.le_of_eq za.len) (Nat.le_of_eq zb.len)).mpr (Nat.not_le.mp fun z => ?_)
    have := below_mono hF (show 0 < L by omega) z
    have e1 := za.num
    have e2 := zb.num
    have := hrm a b hab (List.mem_range.mp hb)
    omega
  refine ⟨fun y hy => ?_, ?_⟩
  · rcases insR_mem hy with hy | hy
    · obtain ⟨a, b, c⟩ := h.all y hy
      exact ⟨a, b, by omega⟩
    · obtain ⟨a, b, c, _⟩ := hmem y hy
      exact ⟨a, b, by omega⟩
  · have hdrop : ∀ z ∈ runMk L (ends L 1 0) (lowAt M i) M[i]? k m, ∀ y ∈ M.drop i, z < y := fun z hz y hy => by
      obtain ⟨j, hj, rfl⟩ := List.mem_iff_getElem.mp hy
      rw [List.getElem_drop]
      have hj2 : j < M.length - i := by simpa using hj
      have hmi := (hmem z hz).2.2.2.2 M[i] (List.getElem?_eq_getElem (by omega))
      rcases Nat.eq_zero_or_pos j with e | e
      · subst e; exact hmi
      · exact List.lt_trans hmi (List.pairwise_iff_getElem.mp h.up _ _ (by omega) (by omega) (by omega))
    have htake : ∀ y ∈ M.take i, ∀ z ∈ runMk L (ends L 1 0) (lowAt M i) M[i]? k m, y < z := fun y hy z hz => by
      obtain ⟨j, hj, rfl⟩ := List.mem_iff_getElem.mp hy
      rw [List.getElem_take]
      have hj2 : j < i := by
        have : j < min i M.length := by simpa using hj
        omega
      have hmi := (hmem z hz).2.2.2.1 (M[i - 1]'(by omega)) (by unfold lowAt; rw [if_neg (by omega)]; exact List.getElem?_eq_getElem (by omega))
      by_cases e : j = i - 1
      · subst e; exact hmi
      · exact List.lt_trans (List.pairwise_iff_getElem.mp h.up _ _ (by omega) (by omega) (by omega)) hmi
    unfold insR
    rw [List.append_assoc]
    refine List.pairwise_append.mpr ⟨h.up.sublist (List.take_sublist _ _), List.pairwise_append.mpr ⟨hpw, h.up.sublist (List.drop_sublist _ _), hdrop⟩, fun a ha b hb => ?_⟩
    rcases List.mem_append.mp hb with hb | hb
    · exact htake a ha b hb
    · obtain ⟨j1, h1, rfl⟩ := List.mem_iff_getElem.mp ha
      obtain ⟨j2, h2, rfl⟩ := List.mem_iff_getElem.mp hb
      rw [List.getElem_take, List.getElem_drop]
      have z1 : j1 < min i M.length := by simpa using h1
      have z2 : j2 < M.length - i := by simpa using h2
      exact List.pairwise_iff_getElem.mp h.up _ _ (by omega) (by omega) (by omega)
theorem runMk_len (L : Nat) (F : List Nat) (lo hi : Option (List Nat)) (k m : Nat) : (runMk L F lo hi k m).length = m := by unfold runMk; rw [List.length_map, List.length_range]
/-- room for a row, well beyond all marks -/
theorem GoodMs.rooms {L B i m j : Nat} {M : List (List Nat)} (hL : 2 ≤ L) (h : GoodMs L B M) (hB : B ≤ 80000) (hm : m ≤ 2 ^ j) : m ≤ roomN L (ends L 1 0) (lowAt M i) M[i]? (B + (j + 1)) := by
  have := room_exN (k := B) (j := j) hL (show 0 < 1 by omega) (show 1 < L by omega) (h.ends3 (i := i) hB).e h.right (fun a e => (h.all a (lowAt_mem e)).2.2) (fun b e => (h.all b (List.mem_of_getElem? e)).2.2)
  unfold roomN
  omega
theorem insR_map2 (M R : List (List Nat)) (n : Nat) : ((M.map txt).map V.str).take n ++ (R.map txt).map V.str ++ ((M.map txt).map V.str).drop n = ((insR M n R).map txt).map V.str := by
  rw [insR_map, show insR (M.map txt) n (R.map txt) = (insR M n R).map txt from insR_map _ _ _ _]
abbrev mkVr (M : List (List Nat)) : List V := (M.map txt).map V.str
def sp_Shelf_put_row (K : PySem.W.Frag) : Sp := fun vs H Q E => ∃ (p lt lm ps : Addr) (L B : Nat) (i : Int) (ts som : List Str) (M : List (List Nat)), vs = [.ref p, .int i, .ref ps] ∧ IsShelf K H p lt lm L ts (M.map txt) ∧ lt ≠ lm ∧ H ps = some (.lst (som.map V.str)) ∧ Clo H ∧ 2 ≤ L ∧ L ≤ 26 ∧ GoodMs L B M ∧ B ≤ 80000 ∧ ts.length = M.length ∧ ts.length ≤ 300 ∧ som.length ≤ 1000000 ∧ (∀ t ∈ som, t.length ≤ 1000000) ∧
  (¬ ThOk ts.length som → E (.ref (He.ga K "NoThing")) none H) ∧
  (ThOk ts.length som → ¬ (0 ≤ i ∧ i ≤ ts.length) → E (.ref (He.ga K "NoPlace")) none H) ∧
  (ThOk ts.length som → 0 ≤ i → i ≤ ts.length → ∀ k nt nm r H', LeastK L (ends L 1 0) (lowAt M i.toNat) M[i.toNat]? som.length k → H nt = none → H nm = none → H r = none → nt ≠ nm → nt ≠ r → nm ≠ r → (∀ a o, a ≠ p → H a = some o → H' a = some o) →
    IsShelf K H' p nt nm L (insR ts i.toNat som) ((insR M i.toNat (runMk L (ends L 1 0) (lowAt M i.toNat) M[i.toNat]? k som.length)).map txt) → H' r = some (.lst (((runMk L (ends L 1 0) (lowAt M i.toNat) M[i.toNat]? k som.length).map txt).map V.str)) → Clo H' → Kp H H' → Q (.ref r) H')
def t_Shelf_put_row (K : PySem.W.Frag) (E : XK) : TS :=
  (tTrim (tSeq (tDrop (tMeth (He.ga K "Shelf") "ask_put" (sp_Shelf_ask_put K) [] E (tVar 0) (tCons (tVar 1) (tCons (tVar 2) tNil))))
    (tSeq (tTrim (tAsg (tMeth (He.ga K "Shelf") "marks_round" (sp_Shelf_marks_round K) [] E (tVar 0) (tCons (tVar 1) tNil)) (gTup K 2 (gCons (gName 3) (gCons (gName 4) gNil)))))
    (tSeq (tAsg (tCall (sp_run_between K) [] E (tCons (tFld K (tVar 0) "letters") (tCons (tC (.int 1)) (tCons (tC (.int 0)) (tCons (tVar 3) (tCons (tVar 4) (tCons (tCB (rLenQ K) (tCons (tVar 2) tNil)) tNil))))))) (gName 5))
    (tSeq (sFld K (tVar 0) (tTrimE (tOp rCat (tOp rCat (tSl (rSlL K) (tFld K (tVar 0) "row_things") tNoPart (tPart (tVar 1))) (tCB (rListQ K) (tCons (tVar 2) tNil))) (tSl (rSlL K) (tFld K (tVar 0) "row_things") (tPart (tVar 1)) tNoPart))) "row_things")
    (tSeq (sFld K (tVar 0) (tTrimE (tOp rCat (tOp rCat (tSl (rSlL K) (tFld K (tVar 0) "row_marks") tNoPart (tPart (tVar 1))) (tVar 5)) (tSl (rSlL K) (tFld K (tVar 0) "row_marks") (tPart (tVar 1)) tNoPart))) "row_marks")
    (tRet (tCB (rListQ K) (tCons (tVar 5) tNil)))))))))
theorem len_Shelf_put_row {K : PySem.W.Frag} (vs : List V) (H : Hp) (Q : VK) (E : XK) : sp_Shelf_put_row K vs H Q E → vs.length = (["self", "place", "some"] : List Str).length := by
  walk_at "len"

theorem pure_Shelf_put_row {K : PySem.W.Frag} (T : Kx K) (vs : List V) (H : Hp) (Q : VK) (E : XK) (h : sp_Shelf_put_row K vs H Q E) : t_Shelf_put_row K E { nx := fun _ H' => Q .non H', rt := Q } (start ["self", "place", "some", "low", "high", "fresh"] vs) H := by
  obtain ⟨p, lt, lm, ps, L, B, i, ts, som, M, rfl, hsh, hne, hps, hC, hL, hL2, hM, hB, hlen, hl3, hsl, hstl, q1, q2, q3⟩ := h
  have hSp : SqL K H ps (som.map V.str) := .inl (.inl hps)
  have e1 : (som.map V.str).length = som.length := List.length_map _
  have e2 : (ts.map V.str).length = ts.length := List.length_map _
  have e3 : ((M.map txt).map V.str).length = M.length := by rw [List.length_map, List.length_map]
  obtain ⟨dx, hp⟩ := hsh.at_
  have hdx : H dx = some (.own p) := hC _ _ hp
  have hdp : dx ≠ p := fun e => by rw [e, hp] at hdx; cases hdx
  walk_at "go"
  refine sh_meth hsh (by decide +kernel) (by decide +kernel) (by decide +kernel) ?_
  walk_at "go"
  refine ⟨p, lt, lm, ps, L, i, ts, _, som, rfl, hsh, hps, by omega, hsl, hstl, hC, q1, q2, fun z1 z2 z3 => ?_⟩
  have q := q3 z1 z2 z3
  clear q1 q2 q3
  obtain ⟨n, rfl⟩ := Int.eq_ofNat_of_zero_le z2
  rw [Int.toNat_natCast] at q
  have hn : n ≤ ts.length := by omega
  have hm1 : 1 ≤ som.length := List.length_pos_iff.mpr z1.1
  have hm2 : ts.length + som.length ≤ 300 := z1.2.1
  walk_at "go"
  refine sh_meth hsh (by decide +kernel) (by decide +kernel) (by decide +kernel) ?_
  walk_at "go"
  refine ⟨p, lt, lm, L, n, ts, M, rfl, hsh, by omega, by omega, hC, fun a ha => ?_⟩
  refine gTupN2 sqT_at ?_
  refine ⟨_, Trim.back (by walk_at "ex") hC, ?_⟩
  walk_at "go"
  refine ⟨_, _, _, shF _ lt lm, .int L, rfl, hsh.at_.choose_spec, T.c_Shelf, T.a_Shelf_letters, rfl, ?_⟩
  walk_at "go"
  rw [e1]
  refine ⟨L, 1, 0, som.length, lowAt M n, M[n]?, rfl, hL, hL2, by omega, by omega, hm1, by omega, hM.ends3 hB, hC, fun _ => ⟨B + (9 + 1), by omega, by omega, hM.rooms hL hB (by omega)⟩, fun _ k f hk hf => ?_, fun z => absurd hM.right z⟩
  have q := fun nt nm r H' => q k nt nm r H' hk
  have hRl := runMk_len L (ends L 1 0) (lowAt M n) M[n]? k som.length
  generalize runMk L (ends L 1 0) (lowAt M n) M[n]? k som.length = R at q hRl ⊢
  have hRV : (R.map txt).map V.str = mkVr R := rfl
  rw [hRV] at q ⊢
  have ex1 := Ex.new (o := .lst (mkVr R)) (Ex.refl H) hf
  have hC1 := clo_new (o := .lst (mkVr R)) hC hf rfl
  have hf1 : (upd H f (.lst (mkVr R))) f = some (.lst (mkVr R)) := upd_same
  have hk1 : Kp H (upd H f (.lst (mkVr R))) := Kp.ex ex1 hC1
  have hn1 : ∀ a, upd H f (.lst (mkVr R)) a = none → H a = none := fun a h => ex1.back h
  generalize upd H f (.lst (mkVr R)) = H1 at *
  have hp1 := ex1 _ _ hp
  have hlt1 := ex1 _ _ hsh.lt
  have hlm1 := ex1 _ _ hsh.lm
  have hps1 := ex1 _ _ hps
  -- the things
  walk_at "go"
  refine ⟨_, _, _, shF _ lt lm, .ref lt, rfl, hp1, T.c_Shelf, T.a_Shelf_row_things, rfl, ?_⟩
  walk_at "n"
  refine ⟨_, rfl, _, rfl, ?_⟩
  refine ⟨lt, _, rfl, .inl (.inl hlt1), fun a1 h1 => ?_⟩
  rw [cut_take (by omega)]
  have gx1 := Ex.new (o := .lst ((ts.map V.str).take n)) (Ex.refl H1) h1
  have g1 : (upd H1 a1 (.lst ((ts.map V.str).take n))) a1 = some (.lst ((ts.map V.str).take n)) := upd_same
  generalize upd H1 a1 (.lst ((ts.map V.str).take n)) = gG1 at gx1 g1 ⊢
  walk_at "go"
  refine ⟨_, _, rfl, Or.inl (.inl (.inl (gx1 _ _ hps1))), fun a2 h2 => ?_⟩
  have gx2 := Ex.new (o := .lst (som.map V.str)) gx1 (gx1.back h2)
  have g2 : (upd gG1 a2 (.lst (som.map V.str))) a2 = some (.lst (som.map V.str)) := upd_same
  have g1 : (upd gG1 a2 (.lst (som.map V.str))) a1 = some (.lst ((ts.map V.str).take n)) := by rw [upd_ne (ne_of_none g1 h2)]; exact g1
  generalize upd gG1 a2 (.lst (som.map V.str)) = gG2 at gx2 g2 g1 ⊢
  refine ⟨a1, a2, _, _, rfl, rfl, g1, g2, by rw [List.length_take, sz]; omega, fun a3 h3 => ?_⟩
  have gx3 := Ex.new (o := .lst ((ts.map V.str).take n ++ som.map V.str)) gx2 (gx2.back h3)
  have g3 : (upd gG2 a3 (.lst ((ts.map V.str).take n ++ som.map V.str))) a3 = some (.lst ((ts.map V.str).take n ++ som.map V.str)) := upd_same
  generalize upd gG2 a3 (.lst ((ts.map V.str).take n ++ som.map V.str)) = gG3 at gx3 g3 ⊢
  walk_at "go"
  refine ⟨_, _, _, shF _ lt lm, .ref lt, rfl, (gx3 _ _ hp1), T.c_Shelf, T.a_Shelf_row_things, rfl, ?_⟩
  walk_at "n"
  refine ⟨_, rfl, _, rfl, ?_⟩
  refine ⟨lt, _, rfl, .inl (.inl (gx3 _ _ hlt1)), fun a4 h4 => ?_⟩
  rw [cut_drop (by omega)]
  have gx4 := Ex.new (o := .lst ((ts.map V.str).drop n)) gx3 (gx3.back h4)
  have g4 : (upd gG3 a4 (.lst ((ts.map V.str).drop n))) a4 = some (.lst ((ts.map V.str).drop n)) := upd_same
  have g3 : (upd gG3 a4 (.lst ((ts.map V.str).drop n))) a3 = some (.lst ((ts.map V.str).take n ++ som.map V.str)) := by rw [upd_ne (ne_of_none g3 h4)]; exact g3
  generalize upd gG3 a4 (.lst ((ts.map V.str).drop n)) = gG4 at gx4 g4 g3 ⊢
  refine ⟨a3, a4, _, _, rfl, rfl, g3, g4, by rw [List.length_append, List.length_take, List.length_drop, sz]; omega, fun nt hnt => ?_⟩
  have hnt0 := gx4.back hnt
  refine ⟨_, Trim.keep (Ex.new gx4 hnt0) hnt0 upd_same hC1 (okO_plain rfl), ?_⟩
  rw [insR_map]
  clear gx1 gx2 gx3 gx4 g1 g2 g3 g4 hnt h1 h3 h4
  obtain ⟨o1, ho1⟩ : ∃ o1, o1 = insR ts n som := ⟨_, rfl⟩
  have e5 : (mkVr R).length = som.length := by rw [List.length_map, List.length_map]; exact hRl
  rw [← ho1] at q ⊢
  have hntp : nt ≠ p := fun e => by rw [e, hp1] at hnt0; cases hnt0
  have hnt00 := hn1 nt hnt0
  walk_at "go"
  refine ⟨p, _, dx, _, rfl, (by rw [upd_ne hntp.symm]; exact hp1), T.c_Shelf, T.a_Shelf_row_things, (by show 3 < 1000; omega), ?_⟩
  obtain ⟨H2, e6⟩ : ∃ H2, H2 = upd (upd H1 nt (.lst (o1.map V.str))) p (.ins (He.ga K "Shelf") dx (putF ("row_things" : Str) (.ref nt) (shF L lt lm))) := ⟨_, rfl⟩
  rw [← e6]
  have hp2 : H2 p = some (.ins (He.ga K "Shelf") dx (shF L nt lm)) := by rw [e6]; exact upd_same
  have hnt2 : H2 nt = some (.lst (o1.map V.str)) := by rw [e6, upd_ne hntp]; exact upd_same
  have hk2 : ∀ a o, a ≠ p → H1 a = some o → H2 a = some o := fun a o ha e => by rw [e6, upd_ne ha, upd_ne (ne_of_none e hnt0)]; exact e
  have hn2 : ∀ a, a ≠ p → a ≠ nt → H2 a = H1 a := fun a ha hb => by rw [e6, upd_ne ha, upd_ne hb]
  have hC2 : Clo H2 := clo_fld hC1 hp1 hdp (ex1 _ _ hdx) hp2 hk2 fun a o ha e => by
    by_cases hb : a = nt
    · rw [hb, hnt2] at e; cases e; exact .inr rfl
    · rw [hn2 a ha hb] at e; exact .inl e
  have hkp2 : Kp H1 H2 := kp_fld hC2 hp1 hk2
  have hlmp : lm ≠ p := (ins_ne_lst hp hsh.lm).symm
  have hlm2 := hk2 _ _ hlmp hlm1
  have hfp : f ≠ p := (ins_ne_lst hp1 hf1).symm
  have hf2 := hk2 _ _ hfp hf1
  clear e6
  -- the marks
  walk_at "go"
  refine ⟨_, _, _, shF _ nt lm, .ref lm, rfl, hp2, T.c_Shelf, T.a_Shelf_row_marks, rfl, ?_⟩
  walk_at "n"
  refine ⟨_, rfl, _, rfl, ?_⟩
  refine ⟨lm, _, rfl, .inl (.inl hlm2), fun a1 h1 => ?_⟩
  rw [cut_take (by omega)]
  have kx1 := Ex.new (o := .lst (((M.map txt).map V.str).take n)) (Ex.refl H2) h1
  have k1 : (upd H2 a1 (.lst (((M.map txt).map V.str).take n))) a1 = some (.lst (((M.map txt).map V.str).take n)) := upd_same
  generalize upd H2 a1 (.lst (((M.map txt).map V.str).take n)) = kG1 at kx1 k1 ⊢
  have kx2 := kx1
  have k2 := kx1 _ _ hf2
  walk_at "go"
  refine ⟨a1, f, _, _, rfl, rfl, k1, k2, by rw [List.length_take, sz]; omega, fun a3 h3 => ?_⟩
  have kx3 := Ex.new (o := .lst (((M.map txt).map V.str).take n ++ mkVr R)) kx2 (kx2.back h3)
  have k3 : (upd kG1 a3 (.lst (((M.map txt).map V.str).take n ++ mkVr R))) a3 = some (.lst (((M.map txt).map V.str).take n ++ mkVr R)) := upd_same
  generalize upd kG1 a3 (.lst (((M.map txt).map V.str).take n ++ mkVr R)) = kG3 at kx3 k3 ⊢
  walk_at "go"
  refine ⟨_, _, _, shF _ nt lm, .ref lm, rfl, (kx3 _ _ hp2), T.c_Shelf, T.a_Shelf_row_marks, rfl, ?_⟩
  walk_at "n"
  refine ⟨_, rfl, _, rfl, ?_⟩
  refine ⟨lm, _, rfl, .inl (.inl (kx3 _ _ hlm2)), fun a4 h4 => ?_⟩
  rw [cut_drop (by omega)]
  have kx4 := Ex.new (o := .lst (((M.map txt).map V.str).drop n)) kx3 (kx3.back h4)
  have k4 : (upd kG3 a4 (.lst (((M.map txt).map V.str).drop n))) a4 = some (.lst (((M.map txt).map V.str).drop n)) := upd_same
  have k3 : (upd kG3 a4 (.lst (((M.map txt).map V.str).drop n))) a3 = some (.lst (((M.map txt).map V.str).take n ++ mkVr R)) := by rw [upd_ne (ne_of_none k3 h4)]; exact k3
  generalize upd kG3 a4 (.lst (((M.map txt).map V.str).drop n)) = kG4 at kx4 k4 k3 ⊢
  refine ⟨a3, a4, _, _, rfl, rfl, k3, k4, by rw [List.length_append, List.length_take, List.length_drop, sz]; omega, fun nm hnm => ?_⟩
  have hnm0 := kx4.back hnm
  refine ⟨_, Trim.keep (Ex.new kx4 hnm0) hnm0 upd_same hC2 (okO_plain rfl), ?_⟩
  rw [insR_map2]
  clear kx1 kx2 kx3 kx4 k1 k2 k3 k4 hnm h1 h3 h4
  obtain ⟨o2, ho2⟩ : ∃ o2, o2 = (insR M n R).map txt := ⟨_, rfl⟩
  rw [← ho2] at q ⊢
  have hnmp : nm ≠ p := fun e => by rw [e, hp2] at hnm0; cases hnm0
  have hnn : nt ≠ nm := ne_of_none hnt2 hnm0
  have hnm00 : H nm = none := hn1 nm (by rw [← hn2 nm hnmp hnn.symm]; exact hnm0)
  walk_at "go"
  refine ⟨p, _, dx, _, rfl, (by rw [upd_ne hnmp.symm]; exact hp2), T.c_Shelf, T.a_Shelf_row_marks, (by show 3 < 1000; omega), ?_⟩
  obtain ⟨H3, e7⟩ : ∃ H3, H3 = upd (upd H2 nm (.lst (o2.map V.str))) p (.ins (He.ga K "Shelf") dx (putF ("row_marks" : Str) (.ref nm) (shF L nt lm))) := ⟨_, rfl⟩
  rw [← e7]
  have hp3 : H3 p = some (.ins (He.ga K "Shelf") dx (shF L nt nm)) := by rw [e7]; exact upd_same
  have hnm3 : H3 nm = some (.lst (o2.map V.str)) := by rw [e7, upd_ne hnmp]; exact upd_same
  have hk3 : ∀ a o, a ≠ p → H2 a = some o → H3 a = some o := fun a o ha e => by rw [e7, upd_ne ha, upd_ne (ne_of_none e hnm0)]; exact e
  have hn3 : ∀ a, a ≠ p → a ≠ nm → H3 a = H2 a := fun a ha hb => by rw [e7, upd_ne ha, upd_ne hb]
  have hC3 : Clo H3 := clo_fld hC2 hp2 hdp (hk2 _ _ hdp (ex1 _ _ hdx)) hp3 hk3 fun a o ha e => by
    by_cases hb : a = nm
    · rw [hb, hnm3] at e; cases e; exact .inr rfl
    · rw [hn3 a ha hb] at e; exact .inl e
  have hkp3 : Kp H2 H3 := kp_fld hC3 hp2 hk3
  have hnt3 := hk3 _ _ hntp hnt2
  have hf3 := hk3 _ _ hfp hf2
  clear e7
  walk_at "go"
  refine ⟨_, _, rfl, Or.inl (.inl (.inl hf3)), fun r hr => ?_⟩
  have ex4 := Ex.new (o := .lst (mkVr R)) (Ex.refl H3) hr
  have hC4 := clo_new (o := .lst (mkVr R)) hC3 hr rfl
  have hrp : r ≠ p := fun e => by rw [e, hp3] at hr; cases hr
  have hrm : nm ≠ r := ne_of_none hnm3 hr
  have hrt : nt ≠ r := ne_of_none hnt3 hr
  have hr0 : H r = none := hn1 r (by rw [← hn2 r hrp hrt.symm, ← hn3 r hrp hrm.symm]; exact hr)
  have hkall : Kp H (upd H3 r (.lst (mkVr R))) := (hk1.trans hkp2).trans (hkp3.trans (Kp.ex ex4 hC4))
  exact ⟨_, hkall, q nt nm r _ hnt00 hnm00 hr0 hnn hrt hrm (fun a o ha e => ex4 _ _ (hk3 a o ha (hk2 a o ha (ex1 a o e)))) ⟨⟨dx, ex4 _ _ hp3⟩, ex4 _ _ hnt3, ex4 _ _ hnm3⟩ upd_same hC4 hkall⟩
/-! ### Shelf_take -/
theorem seqIndex_nat {n m : Nat} (h : n < m) : seqIndex? (n : Int) m = some n := by
  unfold seqIndex?
  dsimp only
  rw [if_neg (show ¬ (n : Int) < 0 by omega), decide_eq_true (show (0 : Int) ≤ n by omega), decide_eq_true (show (n : Int) < (m : Int) by omega)]
  rfl
def sp_Shelf_take (K : PySem.W.Frag) : Sp := fun vs H Q E => ∃ (p lt lm : Addr) (L : Int) (i : Int) (ts ms : List Str), vs = [.ref p, .int i] ∧ IsShelf K H p lt lm L ts ms ∧ lt ≠ lm ∧ ts.length = ms.length ∧ ts.length ≤ 1000000 ∧
  (¬ (0 ≤ i ∧ i < ts.length) → E (.ref (He.ga K "NoPlace")) none H) ∧
  (∀ n : Nat, i = n → ∀ h : n < ts.length, Q (.str ts[n]) (upd (upd H lm (.lst ((ms.eraseIdx n).map V.str))) lt (.lst ((ts.eraseIdx n).map V.str))))
def t_Shelf_take (K : PySem.W.Frag) (E : XK) : TS :=
  (tSeq (tIfS (tOr (tTest (tOp rLtI (tVar 1) (tC (.int 0)))) (tTest (tOp rGeI (tVar 1) (tCB (rLenQ K) (tCons (tFld K (tVar 0) "row_things") tNil)))))
    (tRaiseO K "NoPlace" (fun c d _ H => E c d H))
    tNext)
    (tSeq (tDrop (tBM K "list" rPopAt (tFld K (tVar 0) "row_marks") (tCons (tVar 1) tNil)))
    (tRet (tBM K "list" rPopAt (tFld K (tVar 0) "row_things") (tCons (tVar 1) tNil)))))
theorem len_Shelf_take {K : PySem.W.Frag} (vs : List V) (H : Hp) (Q : VK) (E : XK) : sp_Shelf_take K vs H Q E → vs.length = (["self", "place"] : List Str).length := by
  walk_at "len"

theorem pure_Shelf_take {K : PySem.W.Frag} (T : Kx K) (vs : List V) (H : Hp) (Q : VK) (E : XK) (h : sp_Shelf_take K vs H Q E) : t_Shelf_take K E { nx := fun _ H' => Q .non H', rt := Q } (start ["self", "place"] vs) H := by
  obtain ⟨p, lt, lm, L, i, ts, ms, rfl, hsh, hne, hlen, hl, q1, q2⟩ := h
  have hSt : SqL K H lt (ts.map V.str) := .inl (.inl hsh.lt)
  have e2 : (ts.map V.str).length = ts.length := List.length_map _
  have e3 : (ms.map V.str).length = ms.length := List.length_map _
  walk_at "go"
  refine iteD (fun c => q1 fun z => by omega) fun c1 => ?_
  walk_at "go"
  refine ⟨_, _, _, shF _ lt lm, .ref lt, rfl, hsh.at_.choose_spec, T.c_Shelf, T.a_Shelf_row_things, rfl, ?_⟩
  refine ⟨_, _, rfl, Or.inl hSt, ?_⟩
  walk_at "go"
  refine iteD (fun c => q1 fun z => by omega) fun c2 => ?_
  obtain ⟨n, rfl⟩ := Int.eq_ofNat_of_zero_le (show 0 ≤ i by omega)
  have hn : n < ts.length := by omega
  have q := q2 n rfl hn
  walk_at "go"
  refine ⟨_, _, _, shF _ lt lm, .ref lm, rfl, hsh.at_.choose_spec, T.c_Shelf, T.a_Shelf_row_marks, rfl, ?_⟩
  refine ⟨tyV_list hsh.lm, ?_⟩
  walk_at "b"
  refine ⟨_, rfl, ?_⟩
  refine ⟨lm, _, n, n, .str (ms[n]'(by omega)), rfl, rfl, hsh.lm, by omega, by omega, seqIndex_nat (by omega), by rw [List.getElem?_map, List.getElem?_eq_getElem (by omega)]; rfl, ?_⟩
  rw [eraseIdx_mapL]
  have hsh2 := hsh.set_m (ms' := ms.eraseIdx n) hne
  refine ⟨_, rfl, ?_⟩
  refine ⟨_, _, _, shF _ lt lm, .ref lt, rfl, hsh2.at_.choose_spec, T.c_Shelf, T.a_Shelf_row_things, rfl, ?_⟩
  refine ⟨tyV_list hsh2.lt, ?_⟩
  walk_at "b"
  refine ⟨_, rfl, ?_⟩
  refine ⟨lt, _, n, n, .str ts[n], rfl, rfl, hsh2.lt, by omega, by omega, seqIndex_nat (by omega), by rw [List.getElem?_map, List.getElem?_eq_getElem hn]; rfl, ?_⟩
  rw [eraseIdx_mapL]
  exact q
/-! ### Shelf_renew -/
def sp_Shelf_renew (K : PySem.W.Frag) : Sp := fun vs H Q E => ∃ (p lt lm : Addr) (L : Nat) (ts ms : List Str), vs = [.ref p] ∧ IsShelf K H p lt lm L ts ms ∧ Clo H ∧ 2 ≤ L ∧ L ≤ 26 ∧ ts.length ≤ 90000 ∧
  ∀ k nm r H', Long L ts.length k → H nm = none → H r = none → nm ≠ r → (∀ a o, a ≠ p → H a = some o → H' a = some o) → IsShelf K H' p lt nm L ts ((rens L ts.length k).map txt) → H' r = some (.lst (((rens L ts.length k).map txt).map V.str)) → Clo H' → Kp H H' → Q (.ref r) H'
def t_Shelf_renew (K : PySem.W.Frag) (E : XK) : TS :=
  (tTrim (tSeq (sFld K (tVar 0) (tCall (sp_renewed K) [] E (tCons (tFld K (tVar 0) "letters") (tCons (tCB (rLenQ K) (tCons (tFld K (tVar 0) "row_things") tNil)) tNil))) "row_marks")
    (tRet (tCB (rListQ K) (tCons (tFld K (tVar 0) "row_marks") tNil)))))
theorem len_Shelf_renew {K : PySem.W.Frag} (vs : List V) (H : Hp) (Q : VK) (E : XK) : sp_Shelf_renew K vs H Q E → vs.length = (["self"] : List Str).length := by
  walk_at "len"

theorem pure_Shelf_renew {K : PySem.W.Frag} (T : Kx K) (vs : List V) (H : Hp) (Q : VK) (E : XK) (h : sp_Shelf_renew K vs H Q E) : t_Shelf_renew K E { nx := fun _ H' => Q .non H', rt := Q } (start ["self"] vs) H := by
  obtain ⟨p, lt, lm, L, ts, ms, rfl, hsh, hC, hL, hL2, hl, q⟩ := h
  have hSt : SqL K H lt (ts.map V.str) := .inl (.inl hsh.lt)
  have e2 : (ts.map V.str).length = ts.length := List.length_map _
  obtain ⟨dx, hp⟩ := hsh.at_
  walk_at "go"
  refine ⟨_, _, _, shF _ lt lm, .int L, rfl, hp, T.c_Shelf, T.a_Shelf_letters, rfl, ?_⟩
  walk_at "go"
  refine ⟨_, _, _, shF _ lt lm, .ref lt, rfl, hp, T.c_Shelf, T.a_Shelf_row_things, rfl, ?_⟩
  refine ⟨_, _, rfl, Or.inl hSt, ?_⟩
  rw [e2]
  refine ⟨L, ts.length, rfl, hL, hL2, by omega, hC, fun k nm hk hnm => ?_⟩
  have q := fun r H' => q k nm r H' hk hnm
  generalize (rens L ts.length k).map txt = R at q ⊢
  have hnp : nm ≠ p := fun e => by rw [e, hp] at hnm; cases hnm
  have hdx : H dx = some (.own p) := hC _ _ hp
  have hdp : dx ≠ p := fun e => by rw [e, hp] at hdx; cases hdx
  walk_at "go"
  refine ⟨p, _, dx, _, rfl, (by rw [upd_ne hnp.symm]; exact hp), T.c_Shelf, T.a_Shelf_row_marks, (by show 3 < 1000; omega), ?_⟩
  obtain ⟨H1, e1⟩ : ∃ H1, H1 = upd (upd H nm (.lst (R.map V.str))) p (.ins (He.ga K "Shelf") dx (putF ("row_marks" : Str) (.ref nm) (shF L lt lm))) := ⟨_, rfl⟩
  rw [← e1]
  have hp1 : H1 p = some (.ins (He.ga K "Shelf") dx (shF L lt nm)) := by rw [e1]; exact upd_same
  have hm1 : H1 nm = some (.lst (R.map V.str)) := by rw [e1, upd_ne hnp]; exact upd_same
  have hk1 : ∀ a o, a ≠ p → H a = some o → H1 a = some o := fun a o ha e => by rw [e1, upd_ne ha, upd_ne (ne_of_none e hnm)]; exact e
  have hl1 : H1 lt = some (.lst (ts.map V.str)) := hk1 _ _ (fun e => by have := hsh.lt; rw [e, hp] at this; cases this) hsh.lt
  have hn1 : ∀ a, a ≠ p → a ≠ nm → H1 a = H a := fun a ha hb => by rw [e1, upd_ne ha, upd_ne hb]
  have hC1 : Clo H1 := fun a o e => by
    by_cases ha : a = p
    · rw [ha, hp1] at e
      cases e
      rw [ha]
      exact hk1 dx _ hdp hdx
    · by_cases hb : a = nm
      · rw [hb, hm1] at e; cases e; trivial
      · rw [hn1 a ha hb] at e
        have z := hC a o e
        clear e
        induction o with
        | dT _ => exact z
        | ins C dx' fs =>
          have z' : H dx' = some (.own a) := z
          exact hk1 dx' _ (fun y => by rw [y, hp] at z'; cases z') z'
        | frz ob v ih => exact ih z
        | _ => trivial
  have hkp1 : Kp H H1 := by
    refine ⟨fun _ _ h => h, fun a xs e => ?_, fun a o u e => ?_, fun a ps e => ⟨#[], ?_⟩, hC1⟩
    · exact hk1 a _ (fun y => by rw [y, hp] at e; cases e) e
    · exact hk1 a _ (fun y => by rw [y, hp] at e; cases e) e
    · rw [hk1 a _ (fun y => by rw [y, hp] at e; cases e) e, Array.append_empty]
  clear e1
  walk_at "go"
  refine ⟨_, _, _, shF _ lt nm, .ref nm, rfl, hp1, T.c_Shelf, T.a_Shelf_row_marks, rfl, ?_⟩
  refine ⟨_, _, rfl, Or.inl (.inl (.inl hm1)), fun r hr => ?_⟩
  have hrn : nm ≠ r := fun e => by rw [e, hr] at hm1; cases hm1
  have hrp : r ≠ p := fun e => by rw [e, hp1] at hr; cases hr
  have ex2 := Ex.new (o := .lst (R.map V.str)) (Ex.refl H1) hr
  have hC2 := clo_new (o := .lst (R.map V.str)) hC1 hr rfl
  refine ⟨_, hkp1.trans (Kp.ex ex2 hC2), q r _ (by rw [← hn1 r hrp hrn.symm]; exact hr) hrn (fun a o ha e => ex2 _ _ (hk1 a o ha e)) ⟨⟨dx, ex2 _ _ hp1⟩, ex2 _ _ hl1, ex2 _ _ hm1⟩ upd_same hC2 (hkp1.trans (Kp.ex ex2 hC2))⟩
/-! ### Shelf_marks -/
def sp_Shelf_marks (K : PySem.W.Frag) : Sp := fun vs H Q E => ∃ (p lt lm : Addr) (L : Int) (ts ms : List Str), vs = [.ref p] ∧ IsShelf K H p lt lm L ts ms ∧ Clo H ∧ ∀ a, H a = none → Q (.ref a) (upd H a (.lst (ms.map V.str)))
def t_Shelf_marks (K : PySem.W.Frag) (E : XK) : TS :=
  (tTrim (tRet (tCB (rListQ K) (tCons (tFld K (tVar 0) "row_marks") tNil))))
theorem len_Shelf_marks {K : PySem.W.Frag} (vs : List V) (H : Hp) (Q : VK) (E : XK) : sp_Shelf_marks K vs H Q E → vs.length = (["self"] : List Str).length := by
  walk_at "len"

theorem pure_Shelf_marks {K : PySem.W.Frag} (T : Kx K) (vs : List V) (H : Hp) (Q : VK) (E : XK) (h : sp_Shelf_marks K vs H Q E) : t_Shelf_marks K E { nx := fun _ H' => Q .non H', rt := Q } (start ["self"] vs) H := by
  obtain ⟨p, lt, lm, L, ts, ms, rfl, hsh, hC, q⟩ := h
  have hS : SqL K H lm (ms.map V.str) := .inl (.inl hsh.lm)
  walk_at "go"
  obtain ⟨dx, e⟩ := hsh.at_
  refine ⟨p, He.ga K "Shelf", dx, shF L lt lm, .ref lm, rfl, e, T.c_Shelf, T.a_Shelf_row_marks, rfl, ?_⟩
  refine ⟨_, _, rfl, Or.inl hS, fun a ha => ?_⟩
  exact ⟨_, Trim.last (Rst.refl H) (Ex.refl H) ha hC rfl, q a ha⟩
/-! ### Shelf_things -/
def sp_Shelf_things (K : PySem.W.Frag) : Sp := fun vs H Q E => ∃ (p lt lm : Addr) (L : Int) (ts ms : List Str), vs = [.ref p] ∧ IsShelf K H p lt lm L ts ms ∧ Clo H ∧ ∀ a, H a = none → Q (.ref a) (upd H a (.lst (ts.map V.str)))
def t_Shelf_things (K : PySem.W.Frag) (E : XK) : TS :=
  (tTrim (tRet (tCB (rListQ K) (tCons (tFld K (tVar 0) "row_things") tNil))))
theorem len_Shelf_things {K : PySem.W.Frag} (vs : List V) (H : Hp) (Q : VK) (E : XK) : sp_Shelf_things K vs H Q E → vs.length = (["self"] : List Str).length := by
  walk_at "len"

theorem pure_Shelf_things {K : PySem.W.Frag} (T : Kx K) (vs : List V) (H : Hp) (Q : VK) (E : XK) (h : sp_Shelf_things K vs H Q E) : t_Shelf_things K E { nx := fun _ H' => Q .non H', rt := Q } (start ["self"] vs) H := by
  obtain ⟨p, lt, lm, L, ts, ms, rfl, hsh, hC, q⟩ := h
  have hS : SqL K H lt (ts.map V.str) := .inl (.inl hsh.lt)
  walk_at "go"
  refine ⟨_, _, _, shF _ lt lm, .ref lt, rfl, hsh.at_.choose_spec, T.c_Shelf, T.a_Shelf_row_things, rfl, ?_⟩
  refine ⟨_, _, rfl, Or.inl hS, fun a ha => ?_⟩
  exact ⟨_, Trim.last (Rst.refl H) (Ex.refl H) ha hC rfl, q a ha⟩
/-! ### Shelf_longest -/
theorem isTh_ok {t : Str} (h : isTh t = true) : PyData.strOk t = true := by
  have e : t = S t.cps.toList := str_ext rfl
  rw [e]
  refine strOk_S fun c hc => ?_
  unfold isTh at h
  rw [Bool.and_eq_true, Bool.and_eq_true] at h
  have := of_decide_eq_true (List.all_eq_true.mp h.2.2 c hc)
  have h2 : ∀ c ∈ SGN.cps.toList, c < 1000 := by decide +kernel
  have := h2 c this
  omega
theorem GoodMs.ok {L B : Nat} (hL : L ≤ 26) {M : List (List Nat)} (h : GoodMs L B M) : ∀ y ∈ M.map txt, PyData.strOk y = true := fun y hy => by
  obtain ⟨x, hx, rfl⟩ := List.mem_map.mp hy
  exact strOk_txt fun d hd => by have := (h.all x hx).1.lt d hd; omega
theorem MaxOf.uniq {d : Int} {ns : List Int} {a b : Int} (x : MaxOf d ns a) (y : MaxOf d ns b) : a = b := by
  rcases x with ⟨x1, x2⟩ | ⟨x1, x2⟩ <;> rcases y with ⟨y1, y2⟩ | ⟨y1, y2⟩
  · rw [x2, y2]
  · rw [x1] at y1; cases y1
  · rw [y1] at x1; cases x1
  · have := x2 b y1
    have := y2 a x1
    omega
/-- how long the longest is -/
def LongOf (M : List (List Nat)) (m : Int) : Prop := MaxOf 0 (M.map fun x => (x.length : Int)) m
theorem lens_V (M : List (List Nat)) : (List.range ((M.map txt).map V.str).length).map (fun i => V.int ((((M.getD i [])).length : Nat) : Int)) = (M.map fun x => (x.length : Int)).map V.int := by
  rw [List.length_map, List.length_map, List.map_map]
  exact range_mapF M [] fun x => V.int (x.length : Int)
def sp_Shelf_longest (K : PySem.W.Frag) : Sp := fun vs H Q E => ∃ (p lt lm : Addr) (L : Int) (ts : List Str) (M : List (List Nat)), vs = [.ref p] ∧ IsShelf K H p lt lm L ts (M.map txt) ∧ M.length ≤ 900000 ∧ (∀ x ∈ M, x.length ≤ 1000000) ∧ Clo H ∧ ∀ m, LongOf M m → Q (.int m) H
def t_Shelf_longest (K : PySem.W.Frag) (E : XK) : TS :=
  (tTrim (tRet (tTrimE (tCKw (rMaxDef K) (tCons (tLc (iList K (tFld K (tVar 0) "row_marks")) (gName 1) tYes (tCB rLenS1 (tCons (tVar 1) tNil)) [1]) tNil) (tCons (tC (.int 0)) tNil)))))
theorem len_Shelf_longest {K : PySem.W.Frag} (vs : List V) (H : Hp) (Q : VK) (E : XK) : sp_Shelf_longest K vs H Q E → vs.length = (["self"] : List Str).length := by
  walk_at "len"

theorem marks_at {M : List (List Nat)} {i : Nat} (h : i < M.length) : ((M.map txt).map V.str).getD i .non = .str (txt (M.getD i [])) := by
  rw [List.getD_eq_getElem?_getD, List.getElem?_map, List.getElem?_map, List.getElem?_eq_getElem h, List.getD_eq_getElem?_getD, List.getElem?_eq_getElem h]; rfl
theorem getD_memN {M : List (List Nat)} {i : Nat} (h : i < M.length) : M.getD i [] ∈ M := by
  rw [List.getD_eq_getElem?_getD, List.getElem?_eq_getElem h]
  exact List.getElem_mem h
theorem pure_Shelf_longest {K : PySem.W.Frag} (T : Kx K) (vs : List V) (H : Hp) (Q : VK) (E : XK) (h : sp_Shelf_longest K vs H Q E) : t_Shelf_longest K E { nx := fun _ H' => Q .non H', rt := Q } (start ["self", "mark"] vs) H := by
  obtain ⟨p, lt, lm, L, ts, M, rfl, hsh, hl, hlen, hC, q⟩ := h
  have hS : SqL K H lm ((M.map txt).map V.str) := .inl (.inl hsh.lm)
  have e1 : ((M.map txt).map V.str).length = M.length := by rw [List.length_map, List.length_map]
  walk_at "go"
  refine ⟨_, _, _, shF _ lt lm, .ref lm, rfl, hsh.at_.choose_spec, T.c_Shelf, T.a_Shelf_row_marks, rfl, ?_⟩
  refine ⟨_, rfl, ⟨_, hS⟩, fun D hD => ?_⟩
  refine lc_fn walk_listF (fun _ => true) (fun i => .int (((M.getD i []).length : Nat) : Int)) (by omega) (fun acc => sqL_new hS hD) ?_ ?_
  · intro i acc hi ha N hN _
    have hi2 : i < M.length := by omega
    have hx := hlen _ (getD_memN hi2)
    have h4 := txt_len (M.getD i [])
    rw [marks_at hi2]
    walk_at "go"
    rw [show ((txt (M.getD i [])).length : Int) = ((M.getD i []).length : Int) by omega]
    exact lc_end ha (by omega) (hN rfl)
  · rw [filt_all, lens_V]
    walk_at "b"
    refine ⟨D, _, 0, rfl, rfl, sqL_at, fun m hm => ?_⟩
    refine ⟨_, Trim.back (by walk_at "ex") hC, ?_⟩
    exact ⟨_, Trim.refl hC, q m hm⟩
/-! ### a shelf and lists of one's own, as it changes -/
abbrev strV (T : List Str) : List V := T.map V.str
abbrev mkV (M : List (List Nat)) : List V := (M.map txt).map V.str
theorem mkV_len (M : List (List Nat)) : (mkV M).length = M.length := by rw [List.length_map, List.length_map]
theorem ins_keep {H : Hp} {p q C : Addr} {fs : List (Str × V)} {xs : List V} {o : HO} (h : ∃ dx, H p = some (.ins C dx fs)) (hq : H q = some (.lst xs)) : ∃ dx, upd H q o p = some (.ins C dx fs) := by
  obtain ⟨dx, h⟩ := h
  exact ⟨dx, by rw [upd_ne (ins_ne_lst h hq)]; exact h⟩
theorem ins_ex {H H' : Hp} {p C : Addr} {fs : List (Str × V)} (h : ∃ dx, H p = some (.ins C dx fs)) (e : Ex H H') : ∃ dx, H' p = some (.ins C dx fs) := by
  obtain ⟨dx, h⟩ := h
  exact ⟨dx, e _ _ h⟩
structure St1 (K : PySem.W.Frag) (H H' : Hp) (L : Nat) (x lt lm : Addr) (qs : List Addr) (cs : List (List V)) (B : Nat) (T : List Str) (M : List (List Nat)) : Prop where
  b : Box H H' (lt :: lm :: qs) (strV T :: mkV M :: cs)
  x0 : H x = none
  at_ : ∃ dx, H' x = some (.ins (He.ga K "Shelf") dx (shF L lt lm))
  L2 : 2 ≤ L
  L26 : L ≤ 26
  gm : GoodMs L B M
  len : T.length = M.length
  th : ∀ t ∈ T, isTh t = true
section
variable {K : PySem.W.Frag} {H H' : Hp} {L B : Nat} {x lt lm : Addr} {qs : List Addr} {cs : List (List V)} {T : List Str} {M : List (List Nat)}
theorem St1.sh (st : St1 K H H' L x lt lm qs cs B T M) : IsShelf K H' x lt lm L T (M.map txt) := ⟨st.at_, st.b.at_ 0 _ _ rfl rfl, st.b.at_ 1 _ _ rfl rfl⟩
theorem St1.ne (st : St1 K H H' L x lt lm qs cs B T M) : lt ≠ lm := st.b.ne 0 1 (by decide) rfl rfl
theorem St1.mono {C : Nat} (st : St1 K H H' L x lt lm qs cs B T M) (h : B ≤ C) : St1 K H H' L x lt lm qs cs C T M := ⟨st.b, st.x0, st.at_, st.L2, st.L26, st.gm.mono h, st.len, st.th⟩
theorem St1.ext {H2 : Hp} (st : St1 K H H' L x lt lm qs cs B T M) (e : Ex H' H2) (c : Clo H2) : St1 K H H2 L x lt lm qs cs B T M := ⟨st.b.ext e c, st.x0, ins_ex st.at_ e, st.L2, st.L26, st.gm, st.len, st.th⟩
/-- a further list of one's own -/
theorem St1.add {H2 : Hp} {p : Addr} {c : List V} (st : St1 K H H' L x lt lm qs cs B T M) (hl : qs.length = cs.length) (hp : H' p = none) (e : Ex H' H2) (h : H2 p = some (.lst c)) (hc : Clo H2) : St1 K H H2 L x lt lm (qs ++ [p]) (cs ++ [c]) B T M :=
  ⟨st.b.add (by simp only [List.length_cons, hl]) hp e h hc, st.x0, ins_ex st.at_ e, st.L2, st.L26, st.gm, st.len, st.th⟩
/-- one's own i-th list is changed -/
theorem St1.set {p : Addr} {c y : List V} (st : St1 K H H' L x lt lm qs cs B T M) (i : Nat) (hi : qs[i]? = some p) (hc : cs[i]? = some c) : St1 K H (upd H' p (.lst y)) L x lt lm qs (cs.set i y) B T M :=
  ⟨st.b.set (i + 2) hi hc, st.x0, ins_keep st.at_ (st.b.at_ (i + 2) p c hi hc), st.L2, st.L26, st.gm, st.len, st.th⟩
theorem St1.own {p : Addr} {c : List V} (st : St1 K H H' L x lt lm qs cs B T M) (i : Nat) (hi : qs[i]? = some p) (hc : cs[i]? = some c) : H' p = some (.lst c) := st.b.at_ (i + 2) p c hi hc
theorem St1.meth {m : Str} {Z : Prop} (st : St1 K H H' L x lt lm qs cs B T M) (h1 : (m == "letters") = false) (h2 : (m == "row_things") = false) (h3 : (m == "row_marks") = false) (q : Z) : ∃ a dx fs, V.ref x = .ref a ∧ H' a = some (.ins (He.ga K "Shelf") dx fs) ∧ fs.lookup m = none ∧ Z := sh_meth st.sh h1 h2 h3 q
theorem mkV_erase (M : List (List Nat)) (n : Nat) : (mkV M).eraseIdx n = mkV (M.eraseIdx n) := by rw [eraseIdx_mapL, eraseIdx_mapL]
theorem GoodMs.erase {L B : Nat} {M : List (List Nat)} (h : GoodMs L B M) (n : Nat) : GoodMs L B (M.eraseIdx n) := ⟨fun m hm => h.all m (List.mem_of_mem_eraseIdx hm), h.up.sublist (List.eraseIdx_sublist _ _)⟩
theorem LeastK.same {L : Nat} {F : List Nat} {lo hi : Option (List Nat)} {m j k : Nat} (x : LeastK L F lo hi m j) (y : LeastK L F lo hi m k) : j = k := Nat.le_antisymm (x.le y.one y.room) (y.le x.one x.room)
theorem isTh_len {t : Str} (ht : isTh t = true) : t.length ≤ 12 := by
  unfold isTh at ht
  rw [Bool.and_eq_true, Bool.and_eq_true] at ht
  exact of_decide_eq_true ht.2.1
theorem insL_mem {α : Type} {l : List α} {n : Nat} {y z : α} (h : z ∈ insL l n y) : z ∈ l ∨ z = y := by
  unfold insL at h
  rcases List.mem_append.mp h with h | h
  · rcases List.mem_append.mp h with h | h
    · exact .inl (List.mem_of_mem_take h)
    · exact .inr (List.mem_singleton.mp h)
  · exact .inl (List.mem_of_mem_drop h)
theorem sp_make {P : Hp → Prop} {E : XK} {dx : Addr} {H1 : Hp} (b : Box H H1 qs cs) (hl : qs.length = cs.length) (hL : 2 ≤ L) (hL2 : L ≤ 26) (nx : H1 x = none) (ndx : H1 dx = none) (nd : dx ≠ x)
    (q : ∀ lt lm H', Ex H1 H' → St1 K H H' L x lt lm qs cs B [] [] → P H') : sp_Shelf___init__ K [.ref x, .int L] (upd (upd H1 dx (.own x)) x (.ins (He.ga K "Shelf") dx [])) (fun v H2 => v = .non ∧ P H2) E := by
  refine ⟨x, dx, L, rfl, upd_same, clo_made b.clo nx ndx nd, fun z => absurd ⟨by omega, by omega⟩ z, fun _ _ lt lm H' ne hlt hlm hk hC hsh => ⟨rfl, ?_⟩⟩
  have ex : Ex H1 H' := fun a o e => hk a o (ne_of_none e nx) (ex_made nx ndx a o e)
  have hlt1 := (ex_made (C := He.ga K "Shelf") nx ndx).back hlt
  have hlm1 := (ex_made (C := He.ga K "Shelf") nx ndx).back hlm
  have n1 := b.notin hl hlt1
  have n2 := b.notin hl hlm1
  have b' := b.ext ex hC
  refine q lt lm H' ex ⟨⟨?_, fun z hz => ?_, fun i p c h1 h2 => ?_, b'.ex, hC⟩, b.ex.back nx, hsh.at_, hL, hL2, GoodMs.nil _ _, rfl, fun _ h => (nomatch h)⟩
  · refine List.nodup_cons.mpr ⟨fun h => ?_, List.nodup_cons.mpr ⟨fun h => n2 _ h rfl, b.nd⟩⟩
    rcases List.mem_cons.mp h with h | h
    · exact ne h
    · exact n1 _ h rfl
  · rcases List.mem_cons.mp hz with rfl | hz
    · exact b.ex.back hlt1
    · rcases List.mem_cons.mp hz with rfl | hz
      · exact b.ex.back hlm1
      · exact b.fresh z hz
  · match i, h1, h2 with
    | 0, h1, h2 => cases h1; cases h2; exact hsh.lt
    | 1, h1, h2 => cases h1; cases h2; exact hsh.lm
    | i + 2, h1, h2 => exact b'.at_ i p c h1 h2
end
theorem St1.putK {K : PySem.W.Frag} {H H' : Hp} {L B n : Nat} {x lt lm : Addr} {qs : List Addr} {cs : List (List V)} {T : List Str} {M : List (List Nat)} {t : Str} {Q : VK} {E : XK} (st : St1 K H H' L x lt lm qs cs B T M) (hB : B ≤ 80000) (hn : n ≤ M.length) (hm : M.length < 300) (ht : isTh t = true)
    (q : ∀ j H2, LeastK L (ends L 1 0) (lowAt M n) M[n]? 1 j → St1 K H H2 L x lt lm qs cs (B + 1) (insL T n t) (insL M n (betwMk L (ends L 1 0) (lowAt M n) M[n]? j)) → Kp H' H2 → Q (.str (txt (betwMk L (ends L 1 0) (lowAt M n) M[n]? j))) H2) : sp_Shelf_put K [.ref x, .int n, .str t] H' Q E := by
  have hl := st.len
  have htl := isTh_len ht
  have hto : ThOk T.length [t] := ⟨by simp, by show T.length + 1 ≤ 300; omega, fun y hy => by rw [List.mem_singleton.mp hy]; exact ht⟩
  refine ⟨x, lt, lm, L, B, n, t, T, M, rfl, st.sh, st.ne, st.b.clo, st.L2, st.L26, st.gm, hB, hl, by omega, by omega, by omega, by omega, fun y => absurd hto y, fun _ y => absurd ⟨by omega, by omega⟩ y, fun _ _ _ j hj => ?_⟩
  rw [Int.toNat_natCast] at hj ⊢
  have b1 := st.b.set (x := strV (insL T n t)) 0 rfl rfl
  have i1 := ins_keep (o := .lst (strV (insL T n t))) st.at_ (st.b.at_ 0 _ _ rfl rfl)
  have b2 := b1.set (x := mkV (insL M n (betwMk L (ends L 1 0) (lowAt M n) M[n]? j))) 1 rfl rfl
  have i2 := ins_keep (o := .lst (mkV (insL M n (betwMk L (ends L 1 0) (lowAt M n) M[n]? j)))) i1 (b1.at_ 1 _ _ rfl rfl)
  exact q j _ hj ⟨b2, st.x0, i2, st.L2, st.L26, st.gm.put st.L2 hB hn hj, by rw [insL_len (by omega), insL_len hn]; omega, fun y hy => by
    rcases insL_mem hy with h | h
    · exact st.th y h
    · rw [h]; exact ht⟩ ((st.b.kp 0 rfl rfl rfl).trans (b1.kp 1 rfl rfl rfl))
theorem St1.put {K : PySem.W.Frag} {H H' : Hp} {L B n : Nat} {x lt lm : Addr} {qs : List Addr} {cs : List (List V)} {T : List Str} {M : List (List Nat)} {t : Str} {Q : VK} {E : XK} (st : St1 K H H' L x lt lm qs cs B T M) (hB : B ≤ 80000) (hn : n ≤ M.length) (hm : M.length < 300) (ht : isTh t = true)
    (q : ∀ j H2, LeastK L (ends L 1 0) (lowAt M n) M[n]? 1 j → St1 K H H2 L x lt lm qs cs (B + 1) (insL T n t) (insL M n (betwMk L (ends L 1 0) (lowAt M n) M[n]? j)) → Q (.str (txt (betwMk L (ends L 1 0) (lowAt M n) M[n]? j))) H2) : sp_Shelf_put K [.ref x, .int n, .str t] H' Q E :=
  st.putK hB hn hm ht fun j H2 hj s _ => q j H2 hj s
theorem St1.takeK {K : PySem.W.Frag} {H H' : Hp} {L B n : Nat} {x lt lm : Addr} {qs : List Addr} {cs : List (List V)} {T : List Str} {M : List (List Nat)} {Q : VK} {E : XK} (st : St1 K H H' L x lt lm qs cs B T M) (hn : n < M.length) (hm : M.length ≤ 1000)
    (q : ∀ H2 (h : n < T.length), St1 K H H2 L x lt lm qs cs B (T.eraseIdx n) (M.eraseIdx n) → Kp H' H2 → Q (.str T[n]) H2) : sp_Shelf_take K [.ref x, .int n] H' Q E := by
  have hl := st.len
  refine ⟨x, lt, lm, L, n, T, M.map txt, rfl, st.sh, st.ne, by rw [List.length_map]; exact hl, by omega, fun y => absurd ⟨by omega, by omega⟩ y, fun m e h => ?_⟩
  obtain rfl : n = m := by omega
  rw [eraseIdx_mapL]
  have b1 := st.b.set (x := mkV (M.eraseIdx n)) 1 rfl rfl
  have i1 := ins_keep (o := .lst (mkV (M.eraseIdx n))) st.at_ (st.b.at_ 1 _ _ rfl rfl)
  have b2 := b1.set (x := strV (T.eraseIdx n)) 0 rfl rfl
  have i2 := ins_keep (o := .lst (strV (T.eraseIdx n))) i1 (b1.at_ 0 _ _ rfl rfl)
  exact q _ h ⟨b2, st.x0, i2, st.L2, st.L26, st.gm.erase n, by rw [List.length_eraseIdx, List.length_eraseIdx, if_pos h, if_pos hn]; omega, fun y hy => st.th y (List.mem_of_mem_eraseIdx hy)⟩ ((st.b.kp 1 rfl rfl rfl).trans (b1.kp 0 rfl rfl rfl))
theorem St1.take {K : PySem.W.Frag} {H H' : Hp} {L B n : Nat} {x lt lm : Addr} {qs : List Addr} {cs : List (List V)} {T : List Str} {M : List (List Nat)} {Q : VK} {E : XK} (st : St1 K H H' L x lt lm qs cs B T M) (hn : n < M.length) (hm : M.length ≤ 1000)
    (q : ∀ H2 (h : n < T.length), St1 K H H2 L x lt lm qs cs B (T.eraseIdx n) (M.eraseIdx n) → Q (.str T[n]) H2) : sp_Shelf_take K [.ref x, .int n] H' Q E :=
  st.takeK hn hm fun H2 h s _ => q H2 h s
/-- another list in the place of one's own i-th -/
theorem St1.swap {K : PySem.W.Frag} {H H' H2 : Hp} {L B : Nat} {x lt lm p : Addr} {qs : List Addr} {cs : List (List V)} {T : List Str} {M : List (List Nat)} {y : List V} (st : St1 K H H' L x lt lm qs cs B T M) (i : Nat) (hl : qs.length = cs.length) (hp : H' p = none) (e : Ex H' H2) (h : H2 p = some (.lst y)) (hc : Clo H2) : St1 K H H2 L x lt lm (qs.set i p) (cs.set i y) B T M := by
  have b := (st.b.ext e hc).swap (i + 2) (st.b.notin (by simp only [List.length_cons, hl]) hp) (st.b.ex.back hp) h
  exact ⟨b, st.x0, ins_ex st.at_ e, st.L2, st.L26, st.gm, st.len, st.th⟩
theorem St1.pre {K : PySem.W.Frag} {H H' : Hp} {L B : Nat} {x lt lm : Addr} {qs rs : List Addr} {cs ds : List (List V)} {T : List Str} {M : List (List Nat)} (hl : qs.length = cs.length) (st : St1 K H H' L x lt lm (qs ++ rs) (cs ++ ds) B T M) : St1 K H H' L x lt lm qs cs B T M :=
  ⟨Box.pre (qs := lt :: lm :: qs) (cs := strV T :: mkV M :: cs) (by simp only [List.length_cons, hl]) st.b, st.x0, st.at_, st.L2, st.L26, st.gm, st.len, st.th⟩
theorem St1.row {K : PySem.W.Frag} {H H' : Hp} {L B n j : Nat} {x lt lm ps : Addr} {qs : List Addr} {cs : List (List V)} {T som : List Str} {M : List (List Nat)} {Q : VK} {E : XK} (st : St1 K H H' L x lt lm qs cs B T M) (hl : qs.length = cs.length) (hB : B ≤ 80000) (hn : n ≤ M.length) (hps : H' ps = some (.lst (som.map V.str))) (hok : ThOk T.length som) (hj : som.length ≤ 2 ^ j)
    (q : ∀ k nt nm r H2, LeastK L (ends L 1 0) (lowAt M n) M[n]? som.length k → St1 K H H2 L x nt nm (qs ++ [r]) (cs ++ [mkV (runMk L (ends L 1 0) (lowAt M n) M[n]? k som.length)]) (B + (j + 1)) (insR T n som) (insR M n (runMk L (ends L 1 0) (lowAt M n) M[n]? k som.length)) → Kp H' H2 → Q (.ref r) H2) : sp_Shelf_put_row K [.ref x, .int n, .ref ps] H' Q E := by
  have hlen := st.len
  have hm := hok.2.1
  have h1 : 1 ≤ som.length := List.length_pos_iff.mpr hok.1
  refine ⟨x, lt, lm, ps, L, B, n, T, som, M, rfl, st.sh, st.ne, hps, st.b.clo, st.L2, st.L26, st.gm, hB, hlen, by omega, by omega, fun t ht => by have := isTh_len (hok.2.2 t ht); omega, fun z => absurd hok z, fun _ z => absurd ⟨by omega, by omega⟩ z, fun _ _ _ k nt nm r H2 hk hnt hnm hr n1 n2 n3 hkeep hsh hr2 hC hkp => ?_⟩
  rw [Int.toNat_natCast] at hk hsh hr2
  obtain ⟨dx, hp⟩ := st.at_
  have hkB := hk.le (by omega) (st.gm.rooms st.L2 hB hj)
  have b1 := st.b.keep st.x0 hp hkeep hC
  have hl2 : (lt :: lm :: qs).length = (strV T :: mkV M :: cs).length := by simp only [List.length_cons, hl]
  have b2 := b1.swap 0 (st.b.notin hl2 hnt) (st.b.ex.back hnt) hsh.lt
  have b3 := b2.swap 1 (fun z hz => by
    rcases List.mem_or_eq_of_mem_set hz with w | w
    · exact st.b.notin hl2 hnm z w
    · rw [w]; exact n1) (st.b.ex.back hnm) hsh.lm
  have b4 := b3.put (by simp only [List.length_set, List.length_cons, hl]) (fun z hz => by
    rcases List.mem_or_eq_of_mem_set hz with w | w
    · rcases List.mem_or_eq_of_mem_set w with v | v
      · exact st.b.notin hl2 hr z v
      · rw [v]; exact n2
    · rw [w]; exact n3) (st.b.ex.back hr) hr2
  refine q k nt nm r H2 hk ⟨b4, st.x0, hsh.at_, st.L2, st.L26, st.gm.row st.L2 hB hn h1 hk hkB (by omega), by rw [insR_len (by omega), insR_len hn, runMk_len]; omega, fun t ht => ?_⟩ hkp
  rcases insR_mem ht with z | z
  · exact st.th t z
  · exact hok.2.2 t z
/-! ### law_draw -/
def sp_law_draw (K : PySem.W.Frag) : Sp := fun vs H Q _ => ∃ (a : Addr) (ns : List Int) (k many : Int), vs = [.ref a, .int k, .int many] ∧ SqL K H a (ns.map V.int) ∧ ns.length ≤ 63 ∧ 0 ≤ k ∧ k < 1000000 ∧ 0 < many ∧ many < 2 ^ 63 ∧
  ∀ d : Int, 0 ≤ d → d < many → Q (.int d) H
def t_law_draw (K : PySem.W.Frag) (E : XK) : TS :=
  (tMeet (tAsg (tIf (tTest (tOp rGtI (tCB (rLenQ K) (tCons (tVar 0) tNil)) (tC (.int 0)))) (tOp (rIxL K) (tVar 0) (tOp rModI (tVar 1) (tCB (rLenQ K) (tCons (tVar 0) tNil)))) (tC (.int 0))) (gName 3))
    (tMeet (tIfS (tAnd (tTest (tOp rGtI (tCB (rLenQ K) (tCons (tVar 0) tNil)) (tC (.int 0)))) (tTest (tOp rEq (tOp rModI (tOp (rIxL K) (tVar 0) (tC (.int 0))) (tC (.int 2))) (tC (.int 1)))))
    (tRet (tOp rModI (tOp rModI (tOp rShrI (tVar 3) (tOp rAddI (tOp rMulW (tC (.int 20)) (tOp rDivW (tVar 1) (tCB (rLenQ K) (tCons (tVar 0) tNil)))) (tC (.int 1)))) (tC (.int 1048576))) (tVar 2)))
    tNext)
    (tSeq (tAsg (tOp rAddI (tOp rAddI (tOp rModI (tVar 3) (tC (.int 1000003))) (tOp rMulW (tOp rMulW (tC (.int 31)) (tVar 1)) (tVar 1))) (tC (.int 1))) (gName 4))
    (tRet (tOp rModI (tOp rModI (tOp rMulW (tOp rModI (tOp rMulW (tVar 4) (tC (.int 48271))) (tC (.int 999983))) (tC (.int 7919))) (tC (.int 524287))) (tVar 2))))))
theorem len_law_draw {K : PySem.W.Frag} (vs : List V) (H : Hp) (Q : VK) (E : XK) : sp_law_draw K vs H Q E → vs.length = (["script", "k", "many"] : List Str).length := by
  walk_at "len"

theorem pure_law_draw {K : PySem.W.Frag} (T : Kx K) (vs : List V) (H : Hp) (Q : VK) (E : XK) (h : sp_law_draw K vs H Q E) : t_law_draw K E { nx := fun _ H' => Q .non H', rt := Q } (start ["script", "k", "many", "cell", "seed"] vs) H := by
  obtain ⟨a, ns, k, many, rfl, hS, hl, h0, h1, hm, hm2, q⟩ := h
  have hk : 0 ≤ 31 * k * k ∧ 31 * k * k < 2 ^ 60 := by
    have e : 31 * k * k ≤ 31 * 1000000 * 1000000 := Int.mul_le_mul (by omega) (by omega) h0 (by omega)
    exact ⟨Int.mul_nonneg (by omega) h0, by omega⟩
  have hd : ∀ j : Int, 0 ≤ j → j < (ns.map V.int).length → ∃ x, atI (ns.map V.int) j = some (.int x) := fun j j0 j1 => by
    obtain ⟨n, rfl⟩ := Int.eq_ofNat_of_zero_le j0
    rw [List.length_map] at j1
    exact ⟨ns[n]'(by omega), atI_nat (by rw [List.getElem?_map, List.getElem?_eq_getElem (by omega)]; rfl)⟩
  have el : (ns.map V.int).length ≤ 63 := by rw [List.length_map]; exact hl
  have fin : ∀ x : Int, Q (.int (x % many)) H := fun x => q _ (Int.emod_nonneg _ (by omega)) (Int.emod_lt_of_pos _ hm)
  refine ⟨fun σ' H' => ∃ c : Int, σ' = [some (.ref a), some (.int k), some (.int many), some (.int c), none] ∧ H = H', ?_, ?_⟩
  · walk_at "go"
    walk_at "if"
    · intro c
      obtain ⟨x, hx⟩ := hd (k % (ns.map V.int).length) (Int.emod_nonneg _ (by omega)) (Int.emod_lt_of_pos _ (by omega))
      walk_at "go"
      rfl
    · intro c
      exact ⟨0, rfl, rfl⟩
  · rintro _ _ ⟨c, rfl, rfl⟩
    refine ⟨fun σ' H' => σ' = [some (.ref a), some (.int k), some (.int many), some (.int c), none] ∧ H = H', ?_, ?_⟩
    · walk_at "go"
      walk_at "if"
      · intro c1
        obtain ⟨x, hx⟩ := hd 0 (by omega) (by omega)
        walk_at "go"
        walk_at "if"
        · intro _
          have e1 := Int.ediv_nonneg h0 (show (0 : Int) ≤ (ns.map V.int).length by omega)
          have e2 : k / (ns.map V.int).length ≤ k := Int.ediv_le_self _ h0
          walk_at "go"
          exact fin _
        · intro _
          exact ⟨rfl, rfl⟩
      · intro _
        exact ⟨rfl, rfl⟩
    · rintro _ _ ⟨rfl, rfl⟩
      walk_at "go"
      exact fin _
/-! ### law_whole -/
def sp_law_whole (K : PySem.W.Frag) : Sp := fun vs H Q _ => ∃ (L k : Nat) (ds : List Nat), vs = [.int L, .str (txt ds), .int k] ∧ L ≤ 26 ∧ (∀ d ∈ ds, d < 26) ∧ ds.length ≤ 1000000 ∧ k ≤ 100000 ∧ Q (.int (whole L ds k)) H
def t_law_whole (K : PySem.W.Frag) (E : XK) : TS :=
  (tSeq (tAsg (tC (.int 0)) (gName 3))
    (tSeq (tFor (iRng1 (tCons (tVar 2) tNil)) (gName 4)
    (tSeq (tAsg (tOp rMulW (tVar 3) (tVar 0)) (gName 3))
    (tIfS (tTest (tOp rLtI (tVar 4) (tCB rLenS1 (tCons (tVar 1) tNil))))
    (tAsg (tOp rAddI (tVar 3) (tBMS K "str" rIndexS (tC (.str "abcdefghijklmnopqrstuvwxyz")) (tCons (tOp rIxS (tVar 1) (tVar 4)) tNil))) (gName 3))
    tNext)))
    (tRet (tVar 3))))
theorem len_law_whole {K : PySem.W.Frag} (vs : List V) (H : Hp) (Q : VK) (E : XK) : sp_law_whole K vs H Q E → vs.length = (["letters", "mark", "long"] : List Str).length := by
  walk_at "len"

theorem pure_law_whole {K : PySem.W.Frag} (T : Kx K) (vs : List V) (H : Hp) (Q : VK) (E : XK) (h : sp_law_whole K vs H Q E) : t_law_whole K E { nx := fun _ H' => Q .non H', rt := Q } (start ["letters", "mark", "long", "whole", "k"] vs) H := by
  obtain ⟨L, k, ds, rfl, hL, hds, hl, hk, q⟩ := h
  walk_at "go"
  refine for_fix walk_range1 (fun i σ' => ∃ x4, σ' = [some (.int L), some (.str (txt ds)), some (.int k), some (.int (whole L ds i)), x4]) trivial ⟨_, rfl⟩ ?_ ?_
  · rintro i σ' hi ⟨x4, rfl⟩
    have hi' : i < k := by simpa using hi
    have hw := whole_mulW (k := i) hL hds (by omega)
    have hlen := txt_len ds
    have hg := getD_lt (L := 26) (by decide) hds i
    walk_at "go"
    refine iteD (fun c => ?_) fun c => ?_
    · have hx := txt_at (ds := ds) (j := i) (by omega)
      have hix := idx_let (ds.getD i 0) hg
      walk_at "go"
      refine ⟨_, _, _, rfl, rfl, hix, ?_⟩
      walk_at "go"
      exact ⟨_, rfl⟩
    · have e : ds.getD i 0 = 0 := by
        rw [List.getD_eq_getElem?_getD, List.getElem?_eq_none (by omega)]; rfl
      have e2 : whole L ds (i + 1) = whole L ds i * L := by
        show whole L ds i * L + ds.getD i 0 = _
        rw [e, Nat.add_zero]
      walk_at "go"
      rw [e2]
      exact ⟨_, rfl⟩
  · rintro σ' ⟨x4, rfl⟩
    rw [Int.toNat_natCast]
    walk_at "go"
    exact q
/-! ### law_text -/
def sp_law_text (K : PySem.W.Frag) : Sp := fun vs H Q _ => ∃ L n k : Nat, vs = [.int L, .int n, .int k] ∧ 1 ≤ L ∧ L ≤ 26 ∧ k ≤ 100000 ∧ Q (.str (txt (markOf L n k))) H
def t_law_text (K : PySem.W.Frag) (E : XK) : TS :=
  (tSeq (tAsg (tC (.str "")) (gName 3))
    (tSeq (tFor (iRng1 (tCons (tVar 2) tNil)) (gName 4)
    (tSeq (tAsg (tOp rAddS1 (tOp rIxS (tC (.str "abcdefghijklmnopqrstuvwxyz")) (tOp rModI (tVar 1) (tVar 0))) (tVar 3)) (gName 3))
    (tAsg (tOp rDivW (tVar 1) (tVar 0)) (gName 1))))
    (tRet (tBM K "str" rRstrip (tVar 3) (tCons (tC (.str "a")) tNil)))))
theorem len_law_text {K : PySem.W.Frag} (vs : List V) (H : Hp) (Q : VK) (E : XK) : sp_law_text K vs H Q E → vs.length = (["letters", "number", "long"] : List Str).length := by
  walk_at "len"

theorem digs_front (L n k : Nat) : digs L n (k + 1) = (n / L ^ k % L) :: digs L n k := by
  unfold digs
  show (low L n k ++ [n / L ^ k % L]).reverse = _
  rw [List.reverse_append]; rfl
theorem pure_law_text {K : PySem.W.Frag} (T : Kx K) (vs : List V) (H : Hp) (Q : VK) (E : XK) (h : sp_law_text K vs H Q E) : t_law_text K E { nx := fun _ H' => Q .non H', rt := Q } (start ["letters", "number", "long", "text", "k"] vs) H := by
  obtain ⟨L, n, k, rfl, hL, hL2, hk, q⟩ := h
  walk_at "go"
  rw [← txt_nil]
  refine for_fix walk_range1 (fun i σ' => ∃ x4, σ' = [some (.int L), some (.int ((n / L ^ i : Nat) : Int)), some (.int k), some (.str (txt (digs L n i))), x4]) trivial ⟨_, by rw [Nat.pow_zero, Nat.div_one]; rfl⟩ ?_ ?_
  · rintro i σ' hi ⟨x4, rfl⟩
    have hi' : i < k := by simpa using hi
    have hd : ((n / L ^ i : Nat) : Int) % (L : Int) = ((n / L ^ i % L : Nat) : Int) := rfl
    have hd2 : ((n / L ^ i : Nat) : Int) / (L : Int) = ((n / L ^ (i + 1) : Nat) : Int) := by
      rw [Nat.pow_succ, ← Nat.div_div_eq_div_mul]; rfl
    have hr : n / L ^ i % L < 26 := Nat.lt_of_lt_of_le (Nat.mod_lt _ (by omega)) hL2
    have hx := let_at (j := ((n / L ^ i : Nat) : Int) % (L : Int)) (by rw [hd]; omega) (by rw [hd]; omega)
    have hl1 : (txt (digs L n i)).length = i := by rw [txt_len, digs_len]
    have hl2 : Str.length ⟨#[97 + (((n / L ^ i : Nat) : Int) % (L : Int)).toNat]⟩ = 1 := rfl
    walk_at "go"
    refine ⟨some (.int i), ?_⟩
    dsimp only [List.set]
    rw [digs_front, hd2, hd, Int.toNat_natCast, ← show txt [n / L ^ i % L] ++ txt (digs L n i) = txt (n / L ^ i % L :: digs L n i) from txt_cat _ _]
    rfl
  · rintro σ' ⟨x4, rfl⟩
    rw [Int.toNat_natCast]
    have hl1 : (txt (digs L n k)).length = k := by rw [txt_len, digs_len]
    walk_at "go"
    rw [rstrip_txt]
    exact q
/-! ### law_span -/
def sp_law_span (K : PySem.W.Frag) : Sp := fun vs H Q _ => ∃ (L k : Nat) (lo hi : Option (List Nat)), vs = [.int L, optV lo, optV hi, .int k] ∧ 2 ≤ L ∧ L ≤ 26 ∧ k ≤ 90000 ∧ Ends3 L lo hi ∧ Clo H ∧
  ∀ p, H p = none → Q (.ref p) (upd H p (.tup [.int (lowN L lo k : Nat), .int ((pastN L hi k : Nat) - 1 : Int)]))
def t_law_span (K : PySem.W.Frag) (E : XK) : TS :=
  (tTrim (tSeq (tAsg (tC (.int 1)) (gName 4))
    (tMeet (tIfS (tTest (tOp rNotN (tVar 1) (tC .non)))
    (tAsg (tOp rAddI (tCall (sp_law_whole K) [] E (tCons (tVar 0) (tCons (tVar 1) (tCons (tVar 3) tNil)))) (tC (.int 1))) (gName 4))
    tNext)
    (tSeq (tAsg (tC (.int 1)) (gName 5))
    (tSeq (tFor (iRng1 (tCons (tVar 3) tNil)) (gName 6)
    (tAsg (tOp rMulW (tVar 5) (tVar 0)) (gName 5)))
    (tSeq (tAsg (tOp rSubI (tVar 5) (tC (.int 1))) (gName 7))
    (tMeet (tIfS (tTest (tOp rNotN (tVar 2) (tC .non)))
    (tAsg (tOp rSubI (tCall (sp_law_whole K) [] E (tCons (tVar 0) (tCons (tVar 2) (tCons (tVar 3) tNil)))) (tCB rInt1 (tCons (tOp rLeI (tCB rLenS1 (tCons (tVar 2) tNil)) (tVar 3)) tNil))) (gName 7))
    tNext)
    (tRet (tTup (tCons (tVar 4) (tCons (tVar 7) tNil)))))))))))
theorem len_law_span {K : PySem.W.Frag} (vs : List V) (H : Hp) (Q : VK) (E : XK) : sp_law_span K vs H Q E → vs.length = (["letters", "low", "high", "long"] : List Str).length := by
  walk_at "len"

theorem pure_law_span {K : PySem.W.Frag} (T : Kx K) (vs : List V) (H : Hp) (Q : VK) (E : XK) (h : sp_law_span K vs H Q E) : t_law_span K E { nx := fun _ H' => Q .non H', rt := Q } (start ["letters", "low", "high", "long", "least", "power", "k", "most"] vs) H := by
  obtain ⟨L, k, lo, hi, rfl, hL, hL2, hk, he, hC, q⟩ := h
  walk_at "go"
  refine meet_fix (fun σ' => σ' = [some (.int L), some (optV lo), some (optV hi), some (.int k), some (.int (lowN L lo k : Nat)), none, none, none]) ?_ ?_
  · walk_at "go"
    cases lo with
    | none =>
      refine iteF ?_
      exact ⟨rfl, rfl⟩
    | some a =>
      refine iteT ?_
      have hm := (he.e.lo a rfl).1
      have hla := he.lol a rfl
      have hlt : ∀ d ∈ a, d < 26 := fun d hd => Nat.lt_of_lt_of_le (hm.lt d hd) hL2
      walk_at "go"
      rfl
  rintro _ rfl
  walk_at "go"
  refine for_fix walk_range1 (fun i σ' => ∃ x6, σ' = [some (.int L), some (optV lo), some (optV hi), some (.int k), some (.int (lowN L lo k : Nat)), some (.int ((L ^ i : Nat) : Int)), x6, none]) trivial ⟨_, rfl⟩ ?_ ?_
  · rintro i σ' hi2 ⟨x6, rfl⟩
    have hi' : i < k := by simpa using hi2
    have hw := pow_mulW (k := i) hL2 (by omega)
    walk_at "go"
    refine ⟨some (.int i), ?_⟩
    rw [Nat.pow_succ]
    rfl
  rintro σ' ⟨x6, rfl⟩
  rw [Int.toNat_natCast]
  walk_at "go"
  refine meet_fix (fun σ' => σ' = [some (.int L), some (optV lo), some (optV hi), some (.int k), some (.int (lowN L lo k : Nat)), some (.int ((L ^ k : Nat) : Int)), x6, some (.int ((pastN L hi k : Nat) - 1 : Int))]) ?_ ?_
  · walk_at "go"
    cases hi with
    | none =>
      refine iteF ?_
      exact ⟨rfl, rfl⟩
    | some b =>
      refine iteT ?_
      have hm := (he.e.hi b rfl).1
      have hlb := he.hil b rfl
      have hlt : ∀ d ∈ b, d < 26 := fun d hd => Nat.lt_of_lt_of_le (hm.lt d hd) hL2
      have hlen := txt_len b
      walk_at "go"
      refine .inr ⟨_, rfl, ?_⟩
      have hp : pastN L (some b) k = if b.length ≤ k then whole L b k else whole L b k + 1 := rfl
      by_cases c : b.length ≤ k
      · rw [if_pos c] at hp
        rw [hp, decide_eq_true (show ((txt b).length : Int) ≤ (k : Int) by omega)]
        exact ⟨_, _, rfl, rfl, rfl, rfl⟩
      · rw [if_neg c] at hp
        rw [decide_eq_false (show ¬ ((txt b).length : Int) ≤ (k : Int) by omega)]
        refine ⟨_, _, rfl, rfl, rfl, ?_⟩
        rw [show ((pastN L (some b) k : Nat) - 1 : Int) = ((whole L b k : Nat) : Int) - 0 by omega]
        rfl
  rintro _ rfl
  walk_at "go"
  intro p hp
  exact ⟨_, Trim.last (Rst.refl H) (Ex.refl H) hp hC rfl, q p hp⟩
/-! ### law_run -/
theorem ends1_eq (L : Nat) : ends L 1 0 = (List.range (L - 1)).map (· + 1) := by
  unfold ends
  rw [List.filter_eq_self.mpr fun i _ => by rw [Nat.mod_one]; rfl]
theorem ends1_len (L : Nat) : (ends L 1 0).length = L - 1 := by rw [ends1_eq, List.length_map, List.length_range]
theorem ends1_getD {L j : Nat} (h : j < L - 1) : (ends L 1 0).getD j 0 = j + 1 := by
  rw [ends1_eq, List.getD_eq_getElem?_getD, List.getElem?_map, List.getElem?_range h]; rfl
theorem below1 {L : Nat} (hL : 2 ≤ L) : ∀ n, below L (ends L 1 0) (n + 1) = n - n / L
  | 0 => by
    have hF := figs_ends (show 0 < 1 by omega) (show 1 < L by omega)
    rw [below_succ hF (by omega)]
    have : below L (ends L 1 0) 0 = 0 := by
      unfold below cnt
      rw [Nat.zero_div, Nat.zero_mul, Nat.zero_mod, List.filter_eq_nil_iff.mpr fun f _ => by simp]; rfl
    rw [this, if_neg (by rw [ends_mem]; rw [Nat.zero_mod]; omega), Nat.zero_div]
  | n + 1 => by
    have hF := figs_ends (show 0 < 1 by omega) (show 1 < L by omega)
    rw [below_succ hF (by omega), below1 hL n]
    have h1 := Nat.div_add_mod n L
    have h2 := Nat.mod_lt n (show 0 < L by omega)
    have h3 := Nat.div_le_self n L
    have h4 : n / L * 2 ≤ n := Nat.le_trans (Nat.mul_le_mul_left _ hL) (Nat.div_mul_le_self _ _)
    by_cases e : n % L + 1 = L
    · have e1 : (n + 1) / L = n / L + 1 := by
        rw [show n + 1 = L * (n / L + 1) by rw [Nat.mul_add]; omega, Nat.mul_div_cancel_left _ (by omega)]
      have e2 : (n + 1) % L = 0 := by
        rw [show n + 1 = L * (n / L + 1) by rw [Nat.mul_add]; omega, Nat.mul_mod_right]
      rw [e1, e2, if_neg (by rw [ends_mem]; omega)]
      omega
    · have e1 : (n + 1) / L = n / L := by
        rw [show n + 1 = (n % L + 1) + L * (n / L) by omega, Nat.add_mul_div_left _ _ (by omega), Nat.div_eq_of_lt (by omega), Nat.zero_add]
      have e2 : (n + 1) % L = n % L + 1 := by
        rw [show n + 1 = (n % L + 1) + L * (n / L) by omega, Nat.add_mul_mod_self_left, Nat.mod_eq_of_lt (by omega)]
      rw [e1, e2, if_pos (by rw [ends_mem, Nat.mod_one]; omega)]
      omega
theorem nth1 {L c : Nat} (hL : 2 ≤ L) : nth L (ends L 1 0) c = c / (L - 1) * L + c % (L - 1) + 1 := by
  unfold nth
  rw [ends1_len, ends1_getD (Nat.mod_lt _ (by omega))]
  omega
/-- the mark of a number of a run -/
def runAt (L : Nat) (lo hi : Option (List Nat)) (k m i : Nat) : List Nat := markOf L (nth L (ends L 1 0) (below L (ends L 1 0) (lowN L lo k) + runN (roomN L (ends L 1 0) lo hi k) m i)) k
abbrev ntsV (ns : List Nat) : List V := ns.map fun n : Nat => V.int (n : Int)
theorem ntsV_at {ns : List Nat} {i : Nat} (h : i < ns.length) : (ntsV ns).getD i .non = .int ((ns.getD i 0 : Nat) : Int) := by
  rw [List.getD_eq_getElem?_getD, List.getElem?_map, List.getElem?_eq_getElem h, List.getD_eq_getElem?_getD, List.getElem?_eq_getElem h]; rfl
theorem natD_mem {ns : List Nat} {i : Nat} (h : i < ns.length) : ns.getD i 0 ∈ ns := by
  rw [List.getD_eq_getElem?_getD, List.getElem?_eq_getElem h]
  exact List.getElem_mem h
theorem ntsV_len (ns : List Nat) : (ntsV ns).length = ns.length := List.length_map _
def sp_law_run (K : PySem.W.Frag) : Sp := fun vs H Q E => ∃ (L m : Nat) (lo hi : Option (List Nat)) (ps : Addr) (sp : List Nat), vs = [.int L, optV lo, optV hi, .int m, .ref ps] ∧ SqL K H ps (ntsV sp) ∧ sp.length ≤ 1000 ∧ (∀ s ∈ sp, s < m) ∧ 2 ≤ L ∧ L ≤ 26 ∧ 1 ≤ m ∧ m ≤ 10000 ∧ Ends3 L lo hi ∧ Right lo hi ∧ Clo H ∧ (∃ N, 1 ≤ N ∧ N ≤ 90000 ∧ m ≤ roomN L (ends L 1 0) lo hi N) ∧
  ∀ k p r H', LeastK L (ends L 1 0) lo hi m k → k ≤ 90000 → Ex H H' → Clo H' → H p = none → H' p = some (.lst (mkV (sp.map fun s => runAt L lo hi k m s))) → H' r = some (.tup [.ref p, .int k]) → Q (.ref r) H'
def t_law_run (K : PySem.W.Frag) (E : XK) : TS :=
  (tTrim (tSeq (tTrim (tAsg (tTup (tCons (tC (.int 0)) (tCons (tC (.int 0)) (tCons (tC (.int 0)) tNil)))) (gTup K 3 (gCons (gName 5) (gCons (gName 6) (gCons (gName 7) gNil))))))
    (tSeq (tWhile (tTest (tOp rLtI (tVar 6) (tVar 3))) (tSeq (tAsg (tOp rAddI (tVar 5) (tC (.int 1))) (gName 5))
    (tSeq (tTrim (tAsg (tCall (sp_law_span K) [] E (tCons (tVar 0) (tCons (tVar 1) (tCons (tVar 2) (tCons (tVar 5) tNil))))) (gTup K 2 (gCons (gName 8) (gCons (gName 9) gNil)))))
    (tSeq (tAsg (tOp rSubI (tOp rSubI (tVar 8) (tC (.int 1))) (tOp rDivW (tOp rSubI (tVar 8) (tC (.int 1))) (tVar 0))) (gName 7))
    (tAsg (tOp rSubI (tOp rSubI (tVar 9) (tOp rDivW (tVar 9) (tVar 0))) (tVar 7)) (gName 6))))))
    (tSeq (tAsg (tLst tNil) (gName 10))
    (tSeq (tFor (iList K (tVar 4)) (gName 11)
    (tSeq (tAsg (tOp rAddI (tVar 7) (tOp rDivW (tOp rMulW (tOp rAddI (tVar 11) (tC (.int 1))) (tOp rAddI (tVar 6) (tC (.int 1)))) (tOp rAddI (tVar 3) (tC (.int 1))))) (gName 12))
    (tSeq (tAsg (tOp rAddI (tOp rAddI (tOp rMulW (tOp rDivW (tOp rSubI (tVar 12) (tC (.int 1))) (tOp rSubI (tVar 0) (tC (.int 1)))) (tVar 0)) (tOp rModI (tOp rSubI (tVar 12) (tC (.int 1))) (tOp rSubI (tVar 0) (tC (.int 1))))) (tC (.int 1))) (gName 13))
    (tDrop (tBM K "list" rAppend (tVar 10) (tCons (tCall (sp_law_text K) [] E (tCons (tVar 0) (tCons (tVar 13) (tCons (tVar 5) tNil)))) tNil))))))
    (tRet (tTup (tCons (tVar 10) (tCons (tVar 5) tNil)))))))))
theorem len_law_run {K : PySem.W.Frag} (vs : List V) (H : Hp) (Q : VK) (E : XK) : sp_law_run K vs H Q E → vs.length = (["letters", "low", "high", "many", "spots"] : List Str).length := by
  walk_at "len"

theorem pure_law_run {K : PySem.W.Frag} (T : Kx K) (vs : List V) (H : Hp) (Q : VK) (E : XK) (h : sp_law_run K vs H Q E) : t_law_run K E { nx := fun _ H' => Q .non H', rt := Q } (start ["letters", "low", "high", "many", "spots", "long", "room", "below", "least", "most", "found", "k", "count", "number"] vs) H := by
  obtain ⟨L, m, lo, hi, ps, sp, rfl, hSp, hsl, hsm, hL, hL2, hm1, hm2, he, hr, hC, ⟨N, hN1, hN2, hN3⟩, q⟩ := h
  have eS := ntsV_len sp
  have hF := figs_ends (show 0 < 1 by omega) (show 1 < L by omega)
  have hlp : ∀ j, lowN L lo j ≤ pastN L hi j := fun j => low_le_past hL he.e hr
  have hlow : ∀ j, 1 ≤ lowN L lo j := fun j => low_pos L lo j
  have hb : ∀ n : Nat, 1 ≤ n → ((n : Int) - 1) - ((n : Int) - 1) / (L : Int) = ((below L (ends L 1 0) n : Nat) : Int) := fun n hn => by
    obtain ⟨j, rfl⟩ : ∃ j, n = j + 1 := ⟨n - 1, by omega⟩
    rw [below1 hL]
    have h3 := Nat.div_le_self j L
    rw [show ((j + 1 : Nat) : Int) - 1 = (j : Int) by omega]
    have : (j : Int) / (L : Int) = ((j / L : Nat) : Int) := rfl
    omega
  have hrm : ∀ j, (((below L (ends L 1 0) (pastN L hi j) : Nat) : Int) - ((below L (ends L 1 0) (lowN L lo j) : Nat) : Int)) = ((roomN L (ends L 1 0) lo hi j : Nat) : Int) := fun j => by
    have := below_mono hF (show 0 < L by omega) (hlp j)
    unfold roomN
    omega
  walk_at "go"
  intro p0 hp0
  refine gTupN3 sqT_at ?_
  refine ⟨_, Trim.back (Ex.new (Ex.refl _) hp0) hC, ?_⟩
  clear hp0
  walk_at "go"
  refine ⟨fun μ σ' H' => ∃ (k R B : Nat) (x7 x8 : Option V), k ≤ N ∧ (k = 0 → R = 0) ∧ (1 ≤ k → R = roomN L (ends L 1 0) lo hi k ∧ B = below L (ends L 1 0) (lowN L lo k)) ∧ (∀ j, 1 ≤ j → j < k → roomN L (ends L 1 0) lo hi j < m) ∧ μ = N - k ∧ H' = H ∧ σ' = [some (.int L), some (optV lo), some (optV hi), some (.int m), some (.ref ps), some (.int k), some (.int R), some (.int B), x7, x8, none, none, none, none],
    ⟨_, 0, 0, 0, none, none, Nat.zero_le _, fun _ => rfl, fun z => absurd z (by omega), fun j h1 h2 => by omega, rfl, rfl, rfl⟩, ?_⟩
  rintro μ σ' H1 ⟨k, R, B, x7, x8, hkN, hk0, hkR, hkl, rfl, e, rfl⟩
  subst e
  walk_at "go"
  refine iteD (fun c => ?_) fun c => ?_
  · have hkN2 : k < N := by
      rcases Nat.lt_or_eq_of_le hkN with z | z
      · exact z
      · have := (hkR (by omega)).1
        rw [z] at this
        omega
    refine ⟨_, fun _ _ z => z, ?_⟩
    walk_at "go"
    refine ⟨L, k + 1, lo, hi, rfl, hL, hL2, by omega, he, hC, fun p hp => ?_⟩
    refine gTupN2 sqT_at ?_
    refine ⟨_, Trim.back (by walk_at "ex") hC, ?_⟩
    have e1 := hb (lowN L lo (k + 1)) (hlow _)
    have e2 := hb (pastN L hi (k + 1)) (Nat.le_trans (hlow (k + 1)) (hlp (k + 1)))
    have e3 := hrm (k + 1)
    walk_at "go"
    refine ⟨N - (k + 1), by omega, k + 1, roomN L (ends L 1 0) lo hi (k + 1), below L (ends L 1 0) (lowN L lo (k + 1)), some (.int (lowN L lo (k + 1) : Nat)), some (.int ((pastN L hi (k + 1) : Nat) - 1 : Int)), by omega, fun z => by omega, fun _ => ⟨rfl, rfl⟩, fun j h1 h2 => ?_, rfl, rfl, ?_⟩
    · rcases Nat.lt_succ_iff_lt_or_eq.mp h2 with z | z
      · exact hkl j h1 z
      · rw [z, ← (hkR (by omega)).1]; omega
    · rw [← e3, ← e2, ← e1]
      rfl
  · have hk1 : 1 ≤ k := by
      rcases Nat.eq_zero_or_pos k with z | z
      · have := hk0 z; omega
      · exact z
    obtain ⟨hR, hB⟩ := hkR hk1
    have hk : LeastK L (ends L 1 0) lo hi m k := ⟨hk1, by omega, hkl⟩
    have hroom := hk.room
    have q := fun p r H' => q k p r H' hk (by omega)
    have hrl := roomN_le (k := k) hL hF he.e
    have h4 := pow26 (k := k) (by omega) hL2
    have hbl := below_le hF (show 0 < L by omega) (lowN L lo k)
    have hlw := low_le (k := k) (show 0 < L by omega) he.e
    walk_at "go"
    intro p hp
    have hCp : ∀ xs, Clo (upd H1 p (.lst xs)) := fun xs => clo_new hC hp rfl
    have hSp2 : ∀ xs, SqL K (upd H1 p (.lst xs)) ps (ntsV sp) := fun xs => sqL_new hSp hp
    walk_at "go"
    refine ⟨⟨_, hSp2 _⟩, ?_⟩
    refine for_fn walk_listF (fun i σ' H' => ∃ x10 x11 x12, H' = upd H1 p (.lst (mkV ((sp.take i).map fun s => runAt L lo hi k m s))) ∧ σ' = [some (.int L), some (optV lo), some (optV hi), some (.int m), some (.ref ps), some (.int k), some (.int R), some (.int B), x7, x8, some (.ref p), x10, x11, x12])
      ⟨_, _, _, rfl, rfl⟩ (fun i σ' H' _ ⟨_, _, _, e, _⟩ => e ▸ hSp2 _) ?_ ?_
    · rintro j σ' _ hj ⟨x10, x11, x12, rfl, rfl⟩
      have hj2 : j < sp.length := by omega
      rw [ntsV_at hj2]
      have him := hsm _ (natD_mem hj2)
      have etk : sp.take (j + 1) = sp.take j ++ [sp.getD j 0] := by
        rw [List.take_succ, List.getElem?_eq_getElem hj2, List.getD_eq_getElem?_getD, List.getElem?_eq_getElem hj2]; rfl
      generalize sp.getD j 0 = i at him etk ⊢
      have hRr : runAt L lo hi k m i = markOf L (nth L (ends L 1 0) (below L (ends L 1 0) (lowN L lo k) + runN R m i)) k := by unfold runAt; rw [hR]
      rw [← hR] at hroom hrl
      obtain ⟨hr1, hr2⟩ := runN_le hroom him
      have hw : CMulW ((i : Int) + 1) ((R : Int) + 1) := mulW 64 500001 (by omega) (by
        have h1 : (2 : Nat) ^ 500000 + 1 < 2 ^ 500001 := by
          rw [Nat.pow_succ]
          have : (2 : Nat) ^ 10 ≤ 2 ^ 500000 := Nat.pow_le_pow_right (by decide) (by decide)
          omega
        omega)
      have ec : (B : Int) + ((i : Int) + 1) * ((R : Int) + 1) / ((m : Int) + 1) - 1 = ((below L (ends L 1 0) (lowN L lo k) + runN R m i : Nat) : Int) := by
        rw [show ((i : Int) + 1) * ((R : Int) + 1) / ((m : Int) + 1) = (((i + 1) * (R + 1) / (m + 1) : Nat) : Int) from rfl]
        unfold runN
        omega
      have en : ((below L (ends L 1 0) (lowN L lo k) + runN R m i : Nat) : Int) / ((L : Int) - 1) * (L : Int) + ((below L (ends L 1 0) (lowN L lo k) + runN R m i : Nat) : Int) % ((L : Int) - 1) + 1 = ((nth L (ends L 1 0) (below L (ends L 1 0) (lowN L lo k) + runN R m i) : Nat) : Int) := by
        rw [nth1 hL, show ((L : Int) - 1) = ((L - 1 : Nat) : Int) by omega]
        generalize below L (ends L 1 0) (lowN L lo k) + runN R m i = c
        rfl
      have hcb : below L (ends L 1 0) (lowN L lo k) + runN R m i < 2 ^ 500002 := by
        have h1 : (2 : Nat) ^ 500000 + 2 ^ 500000 < 2 ^ 500002 := by
          have e : (2 : Nat) ^ 500002 = 2 ^ 500000 * 4 := by rw [← show (2 : Nat) ^ 2 = 4 from rfl, ← Nat.pow_add]
          have : 0 < (2 : Nat) ^ 500000 := Nat.pow_pos (by decide)
          omega
        omega
      have hw2 : CMulW (((below L (ends L 1 0) (lowN L lo k) + runN R m i : Nat) : Int) / ((L : Int) - 1)) (L : Int) := by
        rw [show ((L : Int) - 1) = ((L - 1 : Nat) : Int) by omega, show ((below L (ends L 1 0) (lowN L lo k) + runN R m i : Nat) : Int) / ((L - 1 : Nat) : Int) = (((below L (ends L 1 0) (lowN L lo k) + runN R m i) / (L - 1) : Nat) : Int) from rfl]
        refine mulW 500002 64 ?_ (by rw [Int.natAbs_natCast]; omega)
        rw [Int.natAbs_natCast]
        exact Nat.lt_of_le_of_lt (Nat.div_le_self _ _) hcb
      generalize below L (ends L 1 0) (lowN L lo k) + runN R m i = c at ec en hcb hw2 hRr
      walk_at "go"
      dsimp only
      rw [ec]
      refine ⟨hw2, ?_⟩
      walk_at "go"
      dsimp only
      rw [ec, en]
      walk_at "go"
      walk_at "b"
      refine app_new ?_ ?_
      · rw [mkV_len, List.length_map, List.length_take, sz]; omega
      · refine ⟨_, _, _, ?_, rfl⟩
        rw [etk, List.map_append, ← hRr]
        unfold mkV
        rw [List.map_append, List.map_append]
        rfl
    · rintro σ' _ ⟨x10, x11, x12, rfl, rfl⟩
      rw [eS, List.take_length]
      walk_at "go"
      intro r hr
      have hpr : p ≠ r := fun e => by rw [e, upd_same] at hr; cases hr
      have e1 := Ex.new (o := .lst (mkV (sp.map fun s => runAt L lo hi k m s))) (Ex.refl H1) hp
      have e2 := Ex.new (o := .tup [.ref p, .int k]) e1 (e1.back hr)
      exact ⟨_, Trim.all e2 (clo_new (hCp _) hr rfl), q p r _ e2 (clo_new (hCp _) hr rfl) hp (by rw [upd_ne hpr]; exact upd_same) upd_same⟩
/-! ### law_renewed -/
def sp_law_renewed (K : PySem.W.Frag) : Sp := fun vs H Q _ => ∃ (L m : Nat) (ps : Addr) (sp : List Nat), vs = [.int L, .int m, .ref ps] ∧ SqL K H ps (ntsV sp) ∧ sp.length ≤ 1000 ∧ (∀ s ∈ sp, s < m) ∧ 2 ≤ L ∧ L ≤ 26 ∧ m ≤ 90000 ∧ Clo H ∧
  ∀ k p r H', Long L m k → Ex H H' → Clo H' → H p = none → H' p = some (.lst (mkV (sp.map fun s => markOf L (renN L m k s) k))) → H' r = some (.tup [.ref p, .int k]) → Q (.ref r) H'
def t_law_renewed (K : PySem.W.Frag) (E : XK) : TS :=
  (tTrim (tSeq (tTrim (tAsg (tTup (tCons (tC (.int 0)) (tCons (tC (.int 1)) tNil))) (gTup K 2 (gCons (gName 3) (gCons (gName 4) gNil)))))
    (tSeq (tWhile (tTest (tOp rLtI (tOp rSubI (tVar 4) (tC (.int 1))) (tVar 1))) (tSeq (tAsg (tOp rAddI (tVar 3) (tC (.int 1))) (gName 3))
    (tAsg (tOp rMulW (tVar 4) (tVar 0)) (gName 4))))
    (tRet (tTrimE (tTup (tCons (tLc (iList K (tVar 2)) (gName 5) tYes (tCall (sp_law_text K) [] E0 (tCons (tVar 0) (tCons (tOp rDivW (tOp rMulW (tOp rAddI (tVar 5) (tC (.int 1))) (tVar 4)) (tOp rAddI (tVar 1) (tC (.int 1)))) (tCons (tVar 3) tNil)))) [5]) (tCons (tVar 3) tNil))))))))
theorem len_law_renewed {K : PySem.W.Frag} (vs : List V) (H : Hp) (Q : VK) (E : XK) : sp_law_renewed K vs H Q E → vs.length = (["letters", "many", "spots"] : List Str).length := by
  walk_at "len"

theorem pure_law_renewed {K : PySem.W.Frag} (T : Kx K) (vs : List V) (H : Hp) (Q : VK) (E : XK) (h : sp_law_renewed K vs H Q E) : t_law_renewed K E { nx := fun _ H' => Q .non H', rt := Q } (start ["letters", "many", "spots", "long", "count", "k"] vs) H := by
  obtain ⟨L, m, ps, sp, rfl, hSp, hsl, hsm, hL, hL2, hm, hC, q⟩ := h
  have eS := ntsV_len sp
  walk_at "go"
  intro p0 hp0
  refine gTupN2 sqT_at ?_
  refine ⟨_, Trim.back (Ex.new (Ex.refl _) hp0) hC, ?_⟩
  clear hp0
  walk_at "go"
  refine ⟨fun μ σ' H' => ∃ k : Nat, (∀ j, j < k → L ^ j ≤ m) ∧ μ = m + 1 - k ∧ H' = H ∧ σ' = [some (.int L), some (.int m), some (.ref ps), some (.int k), some (.int ((L ^ k : Nat) : Int)), none], ⟨_, 0, fun j h => by omega, rfl, rfl, rfl⟩, ?_⟩
  rintro μ σ' _ ⟨k, hk, rfl, rfl, rfl⟩
  walk_at "go"
  refine iteD (fun c => ?_) fun c => ?_
  · have hk2 : ∀ j, j < k + 1 → L ^ j ≤ m := fun j hj => by
      rcases Nat.lt_succ_iff_lt_or_eq.mp hj with h | rfl
      · exact hk j h
      · omega
    have hle : k ≤ m := by
      have h2 : k < 2 ^ k := Nat.lt_two_pow_self
      have h3 := Nat.pow_le_pow_left hL k
      omega
    have hw := pow_mulW (k := k) hL2 (by omega)
    refine ⟨_, fun _ _ z => z, ?_⟩
    walk_at "go"
    refine ⟨m + 1 - (k + 1), by omega, k + 1, hk2, rfl, rfl, ?_⟩
    rw [Nat.pow_succ]
    rfl
  · have hkl : Long L m k := ⟨by omega, hk⟩
    have hkm := hkl.le_m hL
    have q := fun p r H' => q k p r H' hkl
    walk_at "go"
    refine ⟨⟨_, hSp⟩, fun p hp => ?_⟩
    refine lc_fn walk_listF (fun _ => true) (fun i => .str (txt (markOf L (renN L m k (sp.getD i 0)) k))) (by omega) (fun _ => sqL_new hSp hp) ?_ ?_
    · intro j acc hj ha N hN _
      have hj2 : j < sp.length := by omega
      rw [ntsV_at hj2]
      have hi' := hsm _ (natD_mem hj2)
      have hb := pow26 (k := k) (by omega) hL2
      have hw : CMulW (((sp.getD j 0 : Nat) : Int) + 1) ((L ^ k : Nat) : Int) := mulW 64 500001 (by omega) (Nat.lt_of_le_of_lt hb (Nat.pow_lt_pow_right (by decide) (by decide)))
      walk_at "go"
      exact lc_end ha (by omega) (hN rfl)
    · rw [eS, filt_all, range_mapF sp 0 (fun s => V.str (txt (markOf L (renN L m k s) k))), show (sp.map fun s => V.str (txt (markOf L (renN L m k s) k))) = mkV (sp.map fun s => markOf L (renN L m k s) k) by unfold mkV; rw [List.map_map, List.map_map]; rfl]
      walk_at "go"
      intro r hr
      have hpr : p ≠ r := fun e => by rw [e, upd_same] at hr; cases hr
      have hCp := clo_new (o := .lst (mkV (sp.map fun s => markOf L (renN L m k s) k))) hC hp rfl
      have e1 := Ex.new (o := .lst (mkV (sp.map fun s => markOf L (renN L m k s) k))) (Ex.refl _) hp
      have e2 := Ex.new (o := .tup [.ref p, .int k]) e1 (e1.back hr)
      exact ⟨_, Trim.all e2 (clo_new hCp hr rfl), _, Trim.all e2 (clo_new hCp hr rfl), q p r _ e2 (clo_new hCp hr rfl) hp (by rw [upd_ne hpr]; exact upd_same) upd_same⟩
/-! ### law_spots -/
def sp_law_spots (K : PySem.W.Frag) : Sp := fun vs H Q _ => ∃ (a : Addr) (ns : List Int) (b m : Nat), vs = [.ref a, .int b, .int m] ∧ SqL K H a (ns.map V.int) ∧ ns.length ≤ 63 ∧ b ≤ 1000 ∧ 1 ≤ m ∧ m ≤ 10000 ∧ Clo H ∧
  ∀ (sp : List Nat) p, (∀ s ∈ sp, s < m) → sp.length ≤ 1000 → H p = none → Q (.ref p) (upd H p (.lst (ntsV sp)))
def t_law_spots (K : PySem.W.Frag) (E : XK) : TS :=
  (tTrim (tRet (tTrimE (tSortSetI K (tOp rCat (tLst (tCons (tC (.int 0)) (tCons (tOp rSubI (tVar 2) (tC (.int 1))) tNil))) (tLc (iRng1 (tCons (tC (.int 12)) tNil)) (gName 3) tYes (tCall (sp_law_draw K) [] E0 (tCons (tVar 0) (tCons (tOp rAddI (tVar 1) (tVar 3)) (tCons (tVar 2) tNil)))) [3]))))))
theorem len_law_spots {K : PySem.W.Frag} (vs : List V) (H : Hp) (Q : VK) (E : XK) : sp_law_spots K vs H Q E → vs.length = (["script", "base", "many"] : List Str).length := by
  walk_at "len"

theorem nodup_len {α : Type} [DecidableEq α] : ∀ {l m : List α}, l.Nodup → (∀ x ∈ l, x ∈ m) → l.length ≤ m.length
  | [], _, _, _ => Nat.zero_le _
  | x :: l, m, hn, h => by
    obtain ⟨h1, h2⟩ := List.nodup_cons.mp hn
    have hx := h x List.mem_cons_self
    have ih := nodup_len (l := l) (m := m.erase x) h2 fun y hy => (List.mem_erase_of_ne fun e => h1 (by rw [← e]; exact hy)).mpr (h y (List.mem_cons_of_mem _ hy))
    have hp : 0 < m.length := List.length_pos_of_mem hx
    rw [List.length_erase_of_mem hx] at ih
    rw [List.length_cons]
    omega
theorem nat_list {m : Nat} : ∀ ys : List Int, (∀ y ∈ ys, 0 ≤ y ∧ y < m) → ∃ sp : List Nat, ys.map V.int = ntsV sp ∧ sp.length = ys.length ∧ ∀ s ∈ sp, s < m
  | [], _ => ⟨[], rfl, rfl, fun _ h => nomatch h⟩
  | y :: ys, h => by
    obtain ⟨h0, h1⟩ := h y List.mem_cons_self
    obtain ⟨n, rfl⟩ := Int.eq_ofNat_of_zero_le h0
    obtain ⟨sp, e, hl, hs⟩ := nat_list ys fun z hz => h z (List.mem_cons_of_mem _ hz)
    refine ⟨n :: sp, ?_, by rw [List.length_cons, List.length_cons, hl], all1 (by omega) hs⟩
    rw [List.map_cons, e]; rfl
theorem int_list {P : Int → Prop} : ∀ acc : List V, (∀ y ∈ acc, ∃ d, P d ∧ y = V.int d) → ∃ ds : List Int, ds.length = acc.length ∧ (∀ d ∈ ds, P d) ∧ acc = ds.map V.int
  | [], _ => ⟨[], rfl, (fun _ h => nomatch h), rfl⟩
  | y :: acc, h => by
    obtain ⟨d, hd, rfl⟩ := h y List.mem_cons_self
    obtain ⟨ds, e1, e2, e3⟩ := int_list acc fun z hz => h z (List.mem_cons_of_mem _ hz)
    exact ⟨d :: ds, by rw [List.length_cons, List.length_cons, e1], all1 hd e2, by rw [e3]; rfl⟩
theorem pure_law_spots {K : PySem.W.Frag} (T : Kx K) (vs : List V) (H : Hp) (Q : VK) (E : XK) (h : sp_law_spots K vs H Q E) : t_law_spots K E { nx := fun _ H' => Q .non H', rt := Q } (start ["script", "base", "many", "k"] vs) H := by
  obtain ⟨a, ns, b, m, rfl, hS, hl, hb, hm1, hm2, hC, q⟩ := h
  walk_at "go"
  intro p1 hp1
  have hS1 : SqL K (upd H p1 (.lst [.int 0, .int ((m : Int) - 1)])) a (ns.map V.int) := sqL_new hS hp1
  have k1 : (upd H p1 (.lst [.int 0, .int ((m : Int) - 1)])) p1 = some (.lst [.int 0, .int ((m : Int) - 1)]) := upd_same
  have ex1 := Ex.new (o := .lst [.int 0, .int ((m : Int) - 1)]) (Ex.refl H) hp1
  generalize upd H p1 (.lst [.int 0, .int ((m : Int) - 1)]) = H1 at hS1 k1 ex1 ⊢
  walk_at "go"
  intro D hD
  refine lc_ex walk_range1 (fun v => ∃ d : Int, (0 ≤ d ∧ d < m) ∧ v = .int d) (by decide) (fun _ => trivial) ?_ (fun x σ0 H0 Q Q' mm z => mm _ _ z) ?_
  · intro j acc hj ha N hN
    have hj2 : j < 12 := by simpa using hj
    walk_at "go"
    refine ⟨_, _, _, _, rfl, sqL_new hS1 hD, hl, by omega, by omega, by omega, by omega, fun d d0 d1 => ?_⟩
    exact ⟨acc, upd_same, by rw [sz]; omega, by rw [upd_upd]; exact hN _ ⟨d, ⟨d0, d1⟩, rfl⟩⟩
  intro acc ha hP
  obtain ⟨ds, hdl, hds, rfl⟩ := int_list acc hP
  have k1' : (upd H1 D (.lst (ds.map V.int))) p1 = some (.lst [.int 0, .int ((m : Int) - 1)]) := by rw [upd_ne (ne_of_none k1 hD)]; exact k1
  have ex2 := Ex.new (o := .lst (ds.map V.int)) ex1 (ex1.back hD)
  have k2 : (upd H1 D (.lst (ds.map V.int))) D = some (.lst (ds.map V.int)) := upd_same
  have hdl2 : ds.length = 12 := by rw [hdl, ha]; rfl
  generalize upd H1 D (.lst (ds.map V.int)) = H2 at k1' ex2 k2 ⊢
  refine ⟨p1, D, _, _, rfl, rfl, k1', k2, by rw [List.length_map, hdl2, sz]; show 2 + 12 ≤ 16777216; omega, fun p3 hp3 => ?_⟩
  have ex3 := Ex.new (o := .lst ([.int 0, .int ((m : Int) - 1)] ++ ds.map V.int)) ex2 (ex2.back hp3)
  have k3 : SqL K (upd H2 p3 (.lst ([.int 0, .int ((m : Int) - 1)] ++ ds.map V.int))) p3 (((0 : Int) :: ((m : Int) - 1) :: ds).map V.int) := sqL_at
  generalize upd H2 p3 (.lst ([.int 0, .int ((m : Int) - 1)] ++ ds.map V.int)) = H3 at ex3 k3 ⊢
  refine ⟨p3, (0 : Int) :: ((m : Int) - 1) :: ds, rfl, k3, by rw [List.length_cons, List.length_cons, hdl2]; omega, fun ys p hys hyn hym hp => ?_⟩
  have hlen := nodup_len hyn fun x hx => (hym x).mp hx
  rw [List.length_cons, List.length_cons, hdl2] at hlen
  obtain ⟨sp, e1, e2, e3⟩ := nat_list (m := m) ys fun y hy => by
    rcases List.mem_cons.mp ((hym y).mp hy) with z | z
    · omega
    · rcases List.mem_cons.mp z with z | z
      · omega
      · exact hds y z
  rw [e1]
  have hp0 := ex3.back hp
  exact ⟨_, Trim.keep (Ex.new ex3 hp0) hp0 upd_same hC (okO_plain rfl), _, Trim.keep (Ex.new (Ex.refl _) hp0) hp0 upd_same hC (okO_plain rfl), q sp p e3 (by omega) hp0⟩
/-! ### law_round -/
def sp_law_round (K : PySem.W.Frag) : Sp := fun vs H Q E => ∃ (pm : Addr) (n : Nat) (M : List (List Nat)), vs = [.ref pm, .int n] ∧ SqL K H pm ((M.map txt).map V.str) ∧ n ≤ M.length ∧ M.length ≤ 1000000 ∧ Clo H ∧ ∀ a, H a = none → Q (.ref a) (upd H a (.tup [optV (lowAt M n), optV M[n]?]))
def t_law_round (K : PySem.W.Frag) (E : XK) : TS :=
  (tTrim (tMeet (tAsg (tIf (tTest (tOp rGtI (tVar 1) (tC (.int 0)))) (tOp (rIxL K) (tVar 0) (tOp rSubI (tVar 1) (tC (.int 1)))) (tC .non)) (gName 2))
    (tRet (tTup (tCons (tVar 2) (tCons (tIf (tTest (tOp rLtI (tVar 1) (tCB (rLenQ K) (tCons (tVar 0) tNil)))) (tOp (rIxL K) (tVar 0) (tVar 1)) (tC .non)) tNil))))))
theorem len_law_round {K : PySem.W.Frag} (vs : List V) (H : Hp) (Q : VK) (E : XK) : sp_law_round K vs H Q E → vs.length = (["marks", "place"] : List Str).length := by
  walk_at "len"

theorem pure_law_round {K : PySem.W.Frag} (T : Kx K) (vs : List V) (H : Hp) (Q : VK) (E : XK) (h : sp_law_round K vs H Q E) : t_law_round K E { nx := fun _ H' => Q .non H', rt := Q } (start ["marks", "place", "low"] vs) H := by
  obtain ⟨pm, n, M, rfl, hSm, hn, hl, hC, q⟩ := h
  have e1 : ((M.map txt).map V.str).length = M.length := by rw [List.length_map, List.length_map]
  walk_at "go"
  refine meet_fix (fun σ' => σ' = [some (.ref pm), some (.int n), some (optV (lowAt M n))]) ?_ ?_
  · walk_at "go"
    refine iteD (fun c => ?_) fun c => ?_
    · have hx : atI ((M.map txt).map V.str) ((n : Int) - 1) = some (optV (lowAt M n)) := by
        rw [show (n : Int) - 1 = ((n - 1 : Nat) : Int) by omega]
        refine atI_nat ?_
        unfold lowAt
        rw [if_neg (by omega), List.getElem?_map, List.getElem?_map, List.getElem?_eq_getElem (by omega)]; rfl
      walk_at "go"
      rfl
    · have : n = 0 := by omega
      subst this
      exact ⟨rfl, rfl⟩
  rintro _ rfl
  walk_at "go"
  refine iteD (fun c => ?_) fun c => ?_
  · have hx : atI ((M.map txt).map V.str) (n : Int) = some (optV M[n]?) := by
      refine atI_nat ?_
      rw [List.getElem?_map, List.getElem?_map, List.getElem?_eq_getElem (by omega)]; rfl
    walk_at "go"
    intro a ha
    exact ⟨_, Trim.last (Rst.refl H) (Ex.refl H) ha hC rfl, q a ha⟩
  · rw [List.getElem?_eq_none (by omega)] at q
    walk_at "go"
    intro a ha
    exact ⟨_, Trim.last (Rst.refl H) (Ex.refl H) ha hC rfl, q a ha⟩
/-! ### law_shown -/
/-- what is told of a shelf as one value -/
abbrev toldD (Ts : List Str) (M : List (List Nat)) (m : Int) : PyData := .list [.list (Ts.map .str), .list ((M.map txt).map .str), .int m]
theorem all3 {P : PyData → Prop} {a b c : PyData} (h1 : P a) (h2 : P b) (h3 : P c) : ∀ x ∈ [a, b, c], P x := fun x hx => by
  rcases List.mem_cons.mp hx with z | hx
  · rw [z]; exact h1
  rcases List.mem_cons.mp hx with z | hx
  · rw [z]; exact h2
  rw [List.mem_singleton.mp hx]; exact h3
theorem eqv_strsS (xs : List Str) : PyData.eqv (.list (xs.map .str)) (.list (xs.map .str)) = true := by rw [eqv_strs, decide_eq_true rfl]
theorem told_same {K : PySem.W.Frag} {H : Hp} {p q f g f2 g2 : Addr} {Ts : List Str} {M : List (List Nat)} {m : Int} {Q : VK} (hp : H p = some (.lst [.ref f, .ref g, .int m])) (hq : H q = some (.lst [.ref f2, .ref g2, .int m]))
    (hf : H f = some (.lst (Ts.map V.str))) (hg : H g = some (.lst (mkV M))) (hf2 : H f2 = some (.lst (Ts.map V.str))) (hg2 : H g2 = some (.lst (mkV M))) (h1 : ∀ y ∈ Ts, PyData.strOk y = true) (h2 : ∀ y ∈ M.map txt, PyData.strOk y = true) (h : Q (.bl false) H) : rNeD K (.ref p) (.ref q) H Q := by
  have d1 : Dp K H (.ref p) (toldD Ts M m) := .lst (.inl (.inl hp)) (.cons (.lst (.inl (.inl hf)) (dpAll_strs _)) (.cons (.lst (.inl (.inl hg)) (dpAll_strs _)) (.cons (.int _) .nil)))
  have d2 : Dp K H (.ref q) (toldD Ts M m) := .lst (.inl (.inl hq)) (.cons (.lst (.inl (.inl hf2)) (dpAll_strs _)) (.cons (.lst (.inl (.inl hg2)) (dpAll_strs _)) (.cons (.int _) .nil)))
  have s1 : Sh 2 (toldD Ts M m) := Sh.list (n := 1) (all3 (sh_strs h1) (sh_strs h2) (Sh.int _))
  have e1 : PyData.eqv (toldD Ts M m) (toldD Ts M m) = true := eqv_list (all3 (eqv_strsS _) (eqv_strsS _) (eqv_int _))
  exact ⟨_, _, d1, d2, s1.shaped, s1.shaped, by rw [e1]; exact h⟩
def sp_law_shown (K : PySem.W.Frag) : Sp := fun vs H Q E => ∃ (x lt lm A C : Addr) (L : Int) (Ts : List Str) (M : List (List Nat)), vs = [.ref x, .ref A, .ref C] ∧ IsShelf K H x lt lm L Ts (M.map txt) ∧ H A = some (.lst (strV Ts)) ∧ H C = some (.lst (mkV M)) ∧ M.length ≤ 900000 ∧ (∀ x ∈ M, x.length ≤ 1000000) ∧ (∀ y ∈ Ts, PyData.strOk y = true) ∧ (∀ y ∈ M.map txt, PyData.strOk y = true) ∧ Ts.length ≤ 900000 ∧ Clo H ∧ Q (.bl true) H
def t_law_shown (K : PySem.W.Frag) (E : XK) : TS :=
  (tTrim (tSeq (tFor (iRng1 (tCons (tC (.int 2)) tNil)) (gName 3)
    (tSeq (tAsg (tTrimE (tLst (tCons (tMeth (He.ga K "Shelf") "things" (sp_Shelf_things K) [] E (tVar 0) tNil) (tCons (tMeth (He.ga K "Shelf") "marks" (sp_Shelf_marks K) [] E (tVar 0) tNil) (tCons (tMeth (He.ga K "Shelf") "longest" (sp_Shelf_longest K) [] E (tVar 0) tNil) tNil))))) (gName 4))
    (tSeq (tIfS (tTrimT (tTest (tOp (rNeD K) (tVar 4) (tLst (tCons (tVar 1) (tCons (tVar 2) (tCons (tCKw (rMaxDef K) (tCons (tLc (iList K (tVar 2)) (gName 5) tYes (tCB rLenS1 (tCons (tVar 5) tNil)) [5]) tNil) (tCons (tC (.int 0)) tNil)) tNil)))))))
    (tRet (tC (.bl false)))
    tNext)
    (tSeq (tDrop (tBM K "list" rAppend (tOp (rIxL K) (tVar 4) (tC (.int 0))) (tCons (tC (.str "z")) tNil)))
    (tDrop (tBM0 K "list" rClear (tOp (rIxL K) (tVar 4) (tC (.int 1)))))))))
    (tRet (tC (.bl true)))))
theorem len_law_shown {K : PySem.W.Frag} (vs : List V) (H : Hp) (Q : VK) (E : XK) : sp_law_shown K vs H Q E → vs.length = (["shelf", "things", "marks"] : List Str).length := by
  walk_at "len"

theorem pure_law_shown {K : PySem.W.Frag} (T : Kx K) (vs : List V) (H : Hp) (Q : VK) (E : XK) (h : sp_law_shown K vs H Q E) : t_law_shown K E { nx := fun _ H' => Q .non H', rt := Q } (start ["shelf", "things", "marks", "turn", "told", "mark"] vs) H := by
  obtain ⟨x, lt, lm, A, C, L, Ts, M, rfl, hsh, hA, hCm, hMl, hlenM, hok2, hok1, hTl, hC, q⟩ := h
  have eM := mkV_len M
  have eT : (Ts.map V.str).length = Ts.length := List.length_map _
  walk_at "go"
  refine for_fn walk_range1 (fun i σ' H' => ∃ x3 x4, Ex H H' ∧ Clo H' ∧ σ' = [some (.ref x), some (.ref A), some (.ref C), x3, x4, none])
    ⟨_, _, Ex.refl H, hC, rfl⟩ (fun _ _ _ _ _ => trivial) ?_ ?_
  · rintro i σ' H0 _ ⟨x3, x4, ex0, hC0, rfl⟩
    have hsh0 := hsh.ex ex0
    have hA0 := ex0 _ _ hA
    have hCm0 := ex0 _ _ hCm
    walk_at "go"
    refine sh_meth hsh0 (by decide +kernel) (by decide +kernel) (by decide +kernel) ?_
    walk_at "go"
    refine ⟨x, lt, lm, L, Ts, M.map txt, rfl, hsh0, hC0, fun f hf => ?_⟩
    have ex1 := Ex.new (o := .lst (Ts.map V.str)) (Ex.refl H0) hf
    have hC1 := clo_new (o := .lst (Ts.map V.str)) hC0 hf rfl
    have hf1 : (upd H0 f (.lst (Ts.map V.str))) f = some (.lst (Ts.map V.str)) := upd_same
    generalize upd H0 f (.lst (Ts.map V.str)) = H1 at ex1 hC1 hf1 ⊢
    have hsh1 := hsh0.ex ex1
    repeat walk_at "go1"
    refine sh_meth hsh1 (by decide +kernel) (by decide +kernel) (by decide +kernel) ?_
    repeat walk_at "go1"
    refine ⟨x, lt, lm, L, Ts, M.map txt, rfl, hsh1, hC1, fun g hg => ?_⟩
    have ex2 := Ex.new (o := .lst (mkV M)) ex1 (ex1.back hg)
    have hC2 := clo_new (o := .lst (mkV M)) hC1 hg rfl
    have hg2 : (upd H1 g (.lst (mkV M))) g = some (.lst (mkV M)) := upd_same
    have hf2 : (upd H1 g (.lst (mkV M))) f = some (.lst (Ts.map V.str)) := by rw [upd_ne (ne_of_none hf1 hg)]; exact hf1
    have hfg : f ≠ g := ne_of_none hf1 hg
    generalize upd H1 g (.lst ((M.map txt).map V.str)) = H2 at ex2 hC2 hg2 hf2 ⊢
    have hsh2 := hsh0.ex ex2
    repeat walk_at "go1"
    refine sh_meth hsh2 (by decide +kernel) (by decide +kernel) (by decide +kernel) ?_
    repeat walk_at "go1"
    refine ⟨x, lt, lm, L, Ts, M, rfl, hsh2, hMl, hlenM, hC2, fun mx hmx => ?_⟩
    refine ⟨by rw [sz]; show 3 ≤ _; omega, fun t ht => ?_⟩
    have ex3 := Ex.new (o := .lst [.ref f, .ref g, .int mx]) ex2 (ex2.back ht)
    have hC3 := clo_new (o := .lst [.ref f, .ref g, .int mx]) hC2 ht rfl
    have ht3 : (upd H2 t (.lst [.ref f, .ref g, .int mx])) t = some (.lst [.ref f, .ref g, .int mx]) := upd_same
    have hg3 : (upd H2 t (.lst [.ref f, .ref g, .int mx])) g = some (.lst (mkV M)) := by rw [upd_ne (ne_of_none hg2 ht)]; exact hg2
    have hf3 : (upd H2 t (.lst [.ref f, .ref g, .int mx])) f = some (.lst (Ts.map V.str)) := by rw [upd_ne (ne_of_none hf2 ht)]; exact hf2
    generalize upd H2 t (.lst [.ref f, .ref g, .int mx]) = H3 at ex3 hC3 ht3 hg3 hf3 ⊢
    refine ⟨_, Trim.all ex3 hC3, ?_⟩
    have hCm3 := ex3 _ _ hCm0
    have hA3 := ex3 _ _ hA0
    have hSC3 : SqL K H3 C (mkV M) := .inl (.inl hCm3)
    repeat walk_at "go1"
    refine ⟨⟨_, hSC3⟩, fun D2 hD2 => ?_⟩
    refine lc_fn walk_listF (fun _ => true) (fun i => .int (((M.getD i []).length : Nat) : Int)) (by omega) (fun acc => sqL_new hSC3 hD2) ?_ ?_
    · intro i acc hi ha N hN _
      have hi2 : i < M.length := by omega
      have hx := hlenM _ (getD_memN hi2)
      have h4 := txt_len (M.getD i [])
      rw [marks_at hi2]
      walk_at "go"
      rw [show ((txt (M.getD i [])).length : Int) = ((M.getD i []).length : Int) by omega]
      exact lc_end ha (by omega) (hN rfl)
    rw [filt_all, lens_V]
    walk_at "b"
    refine ⟨D2, _, 0, rfl, rfl, sqL_at, fun m2 hm2 => ?_⟩
    obtain rfl := hmx.uniq hm2
    have ex4 := Ex.new (o := .lst ((M.map fun x => (x.length : Int)).map V.int)) (Ex.refl H3) hD2
    generalize upd H3 D2 (.lst ((M.map fun x => (x.length : Int)).map V.int)) = H4 at ex4 ⊢
    refine ⟨by rw [sz]; show 3 ≤ _; omega, fun t2 ht2 => ?_⟩
    have ex5 := Ex.new (o := .lst [.ref A, .ref C, .int mx]) ex4 (ex4.back ht2)
    refine told_same (ex5 _ _ ht3) upd_same (ex5 _ _ hf3) (ex5 _ _ hg3) (ex5 _ _ hA3) (ex5 _ _ hCm3) hok2 hok1 ?_
    refine ⟨_, rfl, _, Trim.back ex5 hC3, ?_⟩
    refine iteF ?_
    clear ex5 ht2 ex4 hD2
    repeat walk_at "go1"
    have hg0 : H0 g = none := by
      have := ex1.back hg
      exact this
    refine ⟨_, _, _, _, rfl, rfl, .inl (.inl ht3), (rfl : atI [V.ref f, .ref g, .int mx] 0 = some (.ref f)), ?_⟩
    refine ⟨tyV_list hf3, ?_⟩
    walk_at "b"
    refine app_to hf3 (by rw [eT, sz]; omega) ?_
    have ex4 := Ex.new (o := .lst (Ts.map V.str ++ [.str "z"])) ex3 hf
    have hC4 : Clo (upd H3 f (.lst (Ts.map V.str ++ [.str "z"]))) := clo_set hC3 (fun x z => by rw [hf3] at z; cases z) rfl
    have ht4 : (upd H3 f (.lst (Ts.map V.str ++ [.str "z"]))) t = some (.lst [.ref f, .ref g, .int mx]) := by rw [upd_ne (Ne.symm (ne_of_none hf2 ht))]; exact ht3
    have hg4 : (upd H3 f (.lst (Ts.map V.str ++ [.str "z"]))) g = some (.lst (mkV M)) := by rw [upd_ne hfg.symm]; exact hg3
    generalize upd H3 f (.lst (Ts.map V.str ++ [.str "z"])) = H4 at ex4 hC4 ht4 hg4 ⊢
    repeat walk_at "go1"
    refine ⟨_, _, _, _, rfl, rfl, .inl (.inl ht4), (rfl : atI [V.ref f, .ref g, .int mx] 1 = some (.ref g)), ?_⟩
    refine ⟨tyV_list hg4, ?_⟩
    walk_at "b"
    refine ⟨g, _, rfl, rfl, hg4, ?_⟩
    have ex5 := Ex.new (o := .lst []) ex4 hg0
    have hC5 : Clo (upd H4 g (.lst [])) := clo_set hC4 (fun x z => by rw [hg4] at z; cases z) rfl
    exact ⟨_, _, ex0.trans ex5, hC5, rfl⟩
  rintro σ' H' ⟨x3, x4, ex0, hC0, rfl⟩
  walk_at "go"
  exact q
/-! ### law_row_right -/
theorem strs_of : ∀ acc : List V, (∀ y ∈ acc, ∃ t, isTh t = true ∧ y = .str t) → ∃ ts : List Str, ts.length = acc.length ∧ (∀ t ∈ ts, isTh t = true) ∧ acc = strV ts
  | [], _ => ⟨[], rfl, fun _ h => (nomatch h), rfl⟩
  | y :: r, h => by
    obtain ⟨c, hc, rfl⟩ := h y List.mem_cons_self
    obtain ⟨cs, h1, h2, h3⟩ := strs_of r fun z hz => h z (List.mem_cons_of_mem _ hz)
    exact ⟨c :: cs, by simp [h1], all1 hc h2, by rw [h3]; rfl⟩
theorem three_th : ∀ v ∈ [V.str "a", .str "b7", .str "zzzzzzzzzzzz"], ∃ t, isTh t = true ∧ v = .str t :=
  all1 ⟨_, by decide +kernel, rfl⟩ (all1 ⟨_, by decide +kernel, rfl⟩ (all1 ⟨_, by decide +kernel, rfl⟩ all0))
theorem odd_th : ∀ v ∈ [V.str "", .str "A", .str "a b", .str "abcdefghijklm", .str "-"], ∃ t : Str, (isTh t = false ∧ t.length ≤ 13) ∧ v = .str t :=
  all1 ⟨_, by decide +kernel, rfl⟩ (all1 ⟨_, by decide +kernel, rfl⟩ (all1 ⟨_, by decide +kernel, rfl⟩ (all1 ⟨_, by decide +kernel, rfl⟩ (all1 ⟨_, by decide +kernel, rfl⟩ all0))))
theorem insR_grow {α : Type} {l R : List α} {n i : Nat} (hn : n ≤ l.length) (hi : i < R.length) : insL (insR l n (R.take i)) (n + i) R[i] = insR l n (R.take (i + 1)) := by
  unfold insL insR
  have e1 : (l.take n ++ R.take i).length = n + i := by rw [List.length_append, List.length_take, List.length_take]; omega
  rw [List.take_append_of_le_length (Nat.le_of_eq e1.symm), ← e1, List.take_length, List.drop_append_of_le_length (Nat.le_refl _), List.drop_length, List.nil_append, List.take_succ, List.getElem?_eq_getElem hi, ← List.append_assoc (l.take n)]
  rfl
theorem insR_none {α : Type} {l : List α} {n : Nat} : insR l n [] = l := by
  unfold insR
  rw [List.append_nil, List.take_append_drop]
def sp_law_row_right (K : PySem.W.Frag) : Sp := fun vs H Q E => ∃ (H0 : Hp) (a x lt lm A C tt : Addr) (ns : List Int) (b m L B : Nat) (Ts : List Str) (M : List (List Nat)), vs = [.ref a, .int b, .int L, .ref x, .ref tt, .int m] ∧ SqL K H0 a (ns.map V.int) ∧ ns.length ≤ 63 ∧ b ≤ 900 ∧ St1 K H0 H L x lt lm [A, C] [strV Ts, mkV M] B Ts M ∧ H tt = some (.tup [.ref A, .ref C]) ∧ B ≤ 20000 ∧ 1 ≤ m ∧ Ts.length + m ≤ 300 ∧
  ∀ nt nm T' M' H', St1 K H0 H' L x nt nm [A, C] [strV T', mkV M'] (B + 10) T' M' → T'.length = Ts.length + m → Kp H H' → Q (.bl true) H'
def t_law_row_right (K : PySem.W.Frag) (E : XK) : TS :=
  (tTrim (tSeq (tTrim (tAsg (tVar 4) (gTup K 2 (gCons (gName 6) (gCons (gName 7) gNil)))))
    (tSeq (tAsg (tCall (sp_law_draw K) [] E (tCons (tVar 0) (tCons (tVar 1) (tCons (tOp rAddI (tCB (rLenQ K) (tCons (tVar 7) tNil)) (tC (.int 1))) tNil)))) (gName 8))
    (tSeq (tTrim (tAsg (tLc (iRng1 (tCons (tVar 5) tNil)) (gName 10) tYes (tTrimE (tOp (rIxL K) (tLst (tCons (tC (.str "a")) (tCons (tC (.str "b7")) (tCons (tC (.str "zzzzzzzzzzzz")) tNil)))) (tOp rModI (tOp rAddI (tOp rMulW (tVar 10) (tVar 10)) (tVar 1)) (tC (.int 3))))) [10]) (gName 9)))
    (tSeq (tAsg (tCall (sp_law_draw K) [] E (tCons (tVar 0) (tCons (tOp rAddI (tVar 1) (tC (.int 1))) (tCons (tVar 5) tNil)))) (gName 11))
    (tSeq (tAsg (tTrimE (tOp (rIxL K) (tLst (tCons (tC (.str "")) (tCons (tC (.str "A")) (tCons (tC (.str "a b")) (tCons (tC (.str "abcdefghijklm")) (tCons (tC (.str "-")) tNil)))))) (tCall (sp_law_draw K) [] E (tCons (tVar 0) (tCons (tOp rAddI (tVar 1) (tC (.int 2))) (tCons (tC (.int 5)) tNil)))))) (gName 12))
    (tSeq (tAsg (tC (.bl false)) (gName 13))
    (tMeet (tTryT K (.ref (He.ga K "NoThing")) 14 (tAsg (tNotV (tCB (rIsT K) (tCons (tVar 14) (tCons (tC (.ref (He.ga K "NoPlace"))) tNil)))) (gName 13)) (fun c d _ H => E c d H) (fun W => (tDrop (tTrimE (tMethSD (He.ga K "Shelf") "put_row" (sp_Shelf_put_row K) (fun σ c d H => W c d σ H) (tVar 3) (tCons (tVar 8) (tCons (tOp rCat (tOp rCat (tSl (rSlL K) (tVar 9) tNoPart (tPart (tVar 11))) (tLst (tCons (tVar 12) tNil))) (tSl (rSlL K) (tVar 9) (tPart (tOp rAddI (tVar 11) (tC (.int 1)))) tNoPart)) tNil)))))))
    (tSeq (tIfS (tOr (tNot (tB (tVar 13))) (tNot (tB (tCall (sp_law_shown K) [] E (tCons (tVar 3) (tCons (tVar 6) (tCons (tVar 7) tNil)))))))
    (tRet (tC (.bl false)))
    tNext)
    (tSeq (tAsg (tCall (sp_law_spots K) [] E (tCons (tVar 0) (tCons (tOp rAddI (tVar 1) (tC (.int 3))) (tCons (tVar 5) tNil)))) (gName 15))
    (tSeq (tTrim (tAsg (tCall (sp_law_round K) [] E (tCons (tVar 7) (tCons (tVar 8) tNil))) (gTup K 2 (gCons (gName 16) (gCons (gName 17) gNil)))))
    (tSeq (tTrim (tAsg (tCall (sp_law_run K) [] E (tCons (tVar 2) (tCons (tVar 16) (tCons (tVar 17) (tCons (tVar 5) (tCons (tVar 15) tNil)))))) (gTup K 2 (gCons (gName 18) (gCons (gName 19) gNil)))))
    (tSeq (tAsg (tMeth (He.ga K "Shelf") "put_row" (sp_Shelf_put_row K) [] E (tVar 3) (tCons (tVar 8) (tCons (tVar 9) tNil))) (gName 20))
    (tSeq (tIfS (tOr (tNot (tB (tCB (rIsi K) (tCons (tVar 20) (tCons (tC (.ty "list")) tNil))))) (tOr (tTest (tOp rNe (tCB (rLenQ K) (tCons (tVar 20) tNil)) (tVar 5))) (tTrimT (tTest (tOp (rNeD K) (tLc (iList K (tVar 15)) (gName 10) tYes (tOp (rIxL K) (tVar 20) (tVar 10)) [10]) (tVar 18))))))
    (tRet (tC (.bl false)))
    tNext)
    (tSeq (tIfS (tTrimT (tTest (tOp (rNeD K) (tLc (iList K (tVar 20)) (gName 21) (tTest (tOp rNe (tCB rLenS1 (tCons (tVar 21) tNil)) (tVar 19))) (tVar 21) [21]) (tLst tNil))))
    (tRet (tC (.bl false)))
    tNext)
    (tSeq (tFor (iRng1 (tCons (tVar 5) tNil)) (gName 10)
    (tSeq (tDrop (tBM K "list" rInsert (tVar 7) (tCons (tOp rAddI (tVar 8) (tVar 10)) (tCons (tOp (rIxL K) (tVar 20) (tVar 10)) tNil))))
    (tDrop (tBM K "list" rInsert (tVar 6) (tCons (tOp rAddI (tVar 8) (tVar 10)) (tCons (tOp (rIxL K) (tVar 9) (tVar 10)) tNil))))))
    (tRet (tCall (sp_law_shown K) [] E (tCons (tVar 3) (tCons (tVar 6) (tCons (tVar 7) tNil)))))))))))))))))))))
theorem len_law_row_right {K : PySem.W.Frag} (vs : List V) (H : Hp) (Q : VK) (E : XK) : sp_law_row_right K vs H Q E → vs.length = (["script", "base", "letters", "shelf", "kept", "many"] : List Str).length := by
  walk_at "len"

theorem pure_law_row_right {K : PySem.W.Frag} (T : Kx K) (vs : List V) (H : Hp) (Q : VK) (E : XK) (h : sp_law_row_right K vs H Q E) : t_law_row_right K E { nx := fun _ H' => Q .non H', rt := Q } (start ["script", "base", "letters", "shelf", "kept", "many", "things", "marks", "place", "row", "k", "bad", "odd", "refused", "e", "spots", "low", "high", "due", "long", "found", "mark"] vs) H := by
  obtain ⟨H0, a, x, lt, lm, A, C, tt, ns, b, m, L, B, Ts, M, rfl, hS, hl, hb, st, htt, hB, hm1, hm, q⟩ := h
  have hSa := sqL_ex hS st.b.ex
  have hL := st.L2
  have hL2 := st.L26
  have hlen := st.len
  have eT : (strV Ts).length = Ts.length := List.length_map _
  have eM := mkV_len M
  have hSC : SqL K H C (mkV M) := .inl (.inl (st.own 1 rfl rfl))
  repeat walk_at "go1"
  refine gTupN2 (tup_sq htt) ?_
  refine ⟨_, Trim.all (Ex.refl H) st.b.clo, ?_⟩
  repeat walk_at "go1"
  rw [eM]
  repeat walk_at "go1"
  refine ⟨_, _, _, _, rfl, hSa, hl, (by omega), (by omega), (by omega), (by omega), ?_⟩
  intro d1 d10 d11
  obtain ⟨n, rfl⟩ := Int.eq_ofNat_of_zero_le d10
  have hn : n ≤ M.length := by omega
  have hnT : n ≤ Ts.length := by omega
  repeat walk_at "go1"
  refine ⟨by omega, by omega, fun D hD => ?_⟩
  refine lc_ex walk_range1 (fun v => ∃ t, isTh t = true ∧ v = .str t) (by rw [Int.toNat_natCast]; omega) (fun _ => trivial) ?_ (fun x σ0 H0 Q Q' mm z => mm _ _ z) ?_
  · intro j acc hj ha N hN
    have hj2 : j < m := by simpa using hj
    have hjj : j * j ≤ 300 * 300 := Nat.mul_le_mul (by omega) (by omega)
    have hjj2 : (j : Int) * (j : Int) = ((j * j : Nat) : Int) := by rw [Int.natCast_mul]
    repeat walk_at "go1"
    refine ⟨by rw [sz]; show 3 ≤ _; omega, fun p hp => ?_⟩
    repeat walk_at "go1"
    refine ⟨mulW64 (by omega) (by omega), ?_⟩
    repeat walk_at "go1"
    refine ⟨(by decide : (0 : Int) < 3), ?_⟩
    dsimp only
    obtain ⟨_, hat, t, ht, rfl⟩ := pick (xs := [V.str "a", .str "b7", .str "zzzzzzzzzzzz"]) (e := ((j : Int) * (j : Int) + (b : Int)) % 3) _ (Int.emod_nonneg _ (by decide)) (Int.emod_lt_of_pos _ (by decide)) three_th
    refine ⟨_, _, _, _, rfl, rfl, sqL_at, hat, ?_⟩
    refine ⟨_, Trim.back (Ex.new (Ex.refl _) hp) (clo_new st.b.clo hD rfl), ?_⟩
    exact ⟨acc, upd_same, by rw [sz]; omega, by rw [upd_upd]; exact hN _ ⟨t, ht, rfl⟩⟩
  intro acc ha hP
  obtain ⟨row, hrl, hrt, rfl⟩ := strs_of acc hP
  have hrw : row.length = m := by omega
  refine ⟨_, Trim.all (Ex.new (Ex.refl _) hD) (clo_new st.b.clo hD rfl), ?_⟩
  have kp1 := Kp.ex (Ex.new (o := .lst (strV row)) (Ex.refl H) hD) (clo_new st.b.clo hD rfl)
  have st := st.add (c := strV row) rfl hD (Ex.new (Ex.refl _) hD) upd_same (clo_new st.b.clo hD rfl)
  generalize upd H D (.lst (strV row)) = H1 at st kp1 ⊢
  have st : St1 K H0 H1 L x lt lm [A, C, D] [strV Ts, mkV M, strV row] B Ts M := st
  clear hSa hSC hP hrl
  have hSa := sqL_ex hS st.b.ex
  repeat walk_at "go1"
  refine ⟨_, _, _, _, rfl, hSa, hl, (by omega), (by omega), (by omega), (by omega), ?_⟩
  intro d2 d20 d21
  obtain ⟨bad, rfl⟩ := Int.eq_ofNat_of_zero_le d20
  have hbad : bad < m := by omega
  repeat walk_at "go1"
  refine ⟨by rw [sz]; show 5 ≤ _; omega, fun p hp => ?_⟩
  repeat walk_at "go1"
  refine ⟨_, _, _, _, rfl, sqL_new hSa hp, hl, (by omega), (by omega), (by omega), (by omega), ?_⟩
  intro d3 d30 d31
  obtain ⟨_, hat, odd, ⟨hodd, hodl⟩, rfl⟩ := pick (xs := [V.str "", .str "A", .str "a b", .str "abcdefghijklm", .str "-"]) _ d30 (by simpa using d31) odd_th
  refine ⟨_, _, _, _, rfl, rfl, sqL_at, hat, ?_⟩
  refine ⟨_, Trim.back (Ex.new (Ex.refl _) hp) st.b.clo, ?_⟩
  clear hp hat
  repeat walk_at "go1"
  have eR : (row.map V.str).length = m := by rw [List.length_map, hrw]
  refine ⟨fun σ1 H2 => Ex H1 H2 ∧ Clo H2 ∧ σ1 = [some (.ref a), some (.int b), some (.int L), some (.ref x), some (.ref tt), some (.int m), some (.ref A), some (.ref C), some (.int n), some (.ref D), none, some (.int bad), some (.str odd), some (.bl true), none, none, none, none, none, none, none, none], ?_, ?_⟩
  · have hSD : SqL K H1 D (row.map V.str) := .inl (.inl (st.own 2 rfl rfl))
    repeat walk_at "go1"
    refine St1.meth st (by decide +kernel) (by decide +kernel) (by decide +kernel) ?_
    repeat walk_at "go1"
    refine ⟨D, _, rfl, hSD, fun u1 hu1 => ?_⟩
    rw [cut_take (by omega)]
    have e1 := Ex.new (o := .lst ((row.map V.str).take bad)) (Ex.refl H1) hu1
    have c1 := clo_new (o := .lst ((row.map V.str).take bad)) st.b.clo hu1 rfl
    have k1 : (upd H1 u1 (.lst ((row.map V.str).take bad))) u1 = some (.lst ((row.map V.str).take bad)) := upd_same
    generalize upd H1 u1 (.lst ((row.map V.str).take bad)) = HA at e1 c1 k1 ⊢
    repeat walk_at "go1"
    refine ⟨by rw [sz]; show 1 ≤ _; omega, fun u2 hu2 => ?_⟩
    have e2 := Ex.new (o := .lst [.str odd]) e1 (e1.back hu2)
    have c2 := clo_new (o := .lst [.str odd]) c1 hu2 rfl
    have k2 : (upd HA u2 (.lst [.str odd])) u2 = some (.lst [.str odd]) := upd_same
    have k1 : (upd HA u2 (.lst [.str odd])) u1 = some (.lst ((row.map V.str).take bad)) := by rw [upd_ne (ne_of_none k1 hu2)]; exact k1
    generalize upd HA u2 (.lst [.str odd]) = HB at e2 c2 k1 k2 ⊢
    refine ⟨u1, u2, _, _, rfl, rfl, k1, k2, by rw [List.length_take, sz]; show _ + 1 ≤ _; omega, fun u3 hu3 => ?_⟩
    have e3 := Ex.new (o := .lst ((row.map V.str).take bad ++ [.str odd])) e2 (e2.back hu3)
    have c3 := clo_new (o := .lst ((row.map V.str).take bad ++ [.str odd])) c2 hu3 rfl
    have k3 : (upd HB u3 (.lst ((row.map V.str).take bad ++ [.str odd]))) u3 = some (.lst ((row.map V.str).take bad ++ [.str odd])) := upd_same
    generalize upd HB u3 (.lst ((row.map V.str).take bad ++ [.str odd])) = HC at e3 c3 k3 ⊢
    have hSD3 : SqL K HC D (row.map V.str) := sqL_ex hSD e3
    repeat walk_at "go1"
    refine ⟨D, _, rfl, hSD3, fun u4 hu4 => ?_⟩
    rw [show (bad : Int) + 1 = ((bad + 1 : Nat) : Int) by omega, cut_drop (by omega)]
    have e4 := Ex.new (o := .lst ((row.map V.str).drop (bad + 1))) e3 (e3.back hu4)
    have c4 := clo_new (o := .lst ((row.map V.str).drop (bad + 1))) c3 hu4 rfl
    have k4 : (upd HC u4 (.lst ((row.map V.str).drop (bad + 1)))) u4 = some (.lst ((row.map V.str).drop (bad + 1))) := upd_same
    have k3 : (upd HC u4 (.lst ((row.map V.str).drop (bad + 1)))) u3 = some (.lst ((row.map V.str).take bad ++ [.str odd])) := by rw [upd_ne (ne_of_none k3 hu4)]; exact k3
    generalize upd HC u4 (.lst ((row.map V.str).drop (bad + 1))) = HD at e4 c4 k3 k4 ⊢
    refine ⟨u3, u4, _, _, rfl, rfl, k3, k4, by rw [List.length_append, List.length_take, List.length_drop, sz]; show _ + 1 + _ ≤ _; omega, fun u5 hu5 => ?_⟩
    obtain ⟨som, hsom⟩ : ∃ som, som = row.take bad ++ [odd] ++ row.drop (bad + 1) := ⟨_, rfl⟩
    have esom : (row.map V.str).take bad ++ [V.str odd] ++ (row.map V.str).drop (bad + 1) = som.map V.str := by
      rw [hsom, List.map_append, List.map_append, List.map_take, List.map_drop]; rfl
    have hsl : som.length = m := by
      rw [hsom, List.length_append, List.length_append, List.length_take, List.length_drop]
      show _ + 1 + _ = _
      omega
    have hno : ¬ ThOk Ts.length som := fun z => by
      have := z.2.2 odd (by rw [hsom]; exact List.mem_append_left _ (List.mem_append_right _ List.mem_cons_self))
      rw [hodd] at this; cases this
    have hsle : ∀ t ∈ som, t.length ≤ 1000000 := fun t ht => by
      rw [hsom] at ht
      rcases List.mem_append.mp ht with z | z
      · rcases List.mem_append.mp z with z | z
        · have := isTh_len (hrt t (List.mem_of_mem_take z)); omega
        · rw [List.mem_singleton.mp z]; omega
      · have := isTh_len (hrt t (List.mem_of_mem_drop z)); omega
    rw [esom]
    have e5 := Ex.new (o := .lst (som.map V.str)) e4 (e4.back hu5)
    have c5 := clo_new (o := .lst (som.map V.str)) c4 hu5 rfl
    have k5 : (upd HD u5 (.lst (som.map V.str))) u5 = some (.lst (som.map V.str)) := upd_same
    generalize upd HD u5 (.lst (som.map V.str)) = HE at e5 c5 k5 ⊢
    have st5 := st.ext e5 c5
    walk_at "n"
    refine ⟨x, lt, lm, u5, L, B, n, Ts, som, M, rfl, st5.sh, st5.ne, k5, c5, hL, hL2, st5.gm, by omega, hlen, by omega, by omega, hsle, fun _ => ?_, fun y => absurd y hno, fun y => absurd y hno⟩
    refine ⟨true, T.m_NoThing_NoThing, fun _ e he => ?_, fun z => nomatch z⟩
    repeat walk_at "go1"
    walk_at "n"
    refine isT_to upd_same xdOk_none T.e_NoThing T.i_NoThing_NoPlace ?_
    refine ⟨_, rfl, ?_⟩
    exact ⟨e5.trans (Ex.new (Ex.refl _) he), clo_new c5 he rfl, rfl⟩
  rintro _ H2 ⟨ex2, hC2, rfl⟩
  have kp2 := kp1.trans (Kp.ex ex2 hC2)
  have st := st.ext ex2 hC2
  clear kp1 hSa ex2
  have hSa := sqL_ex hS st.b.ex
  have hok2 : ∀ y ∈ Ts, PyData.strOk y = true := fun y hy => isTh_ok (st.th y hy)
  repeat walk_at "go1"
  walk_at "n"
  refine ⟨x, lt, lm, A, C, L, Ts, M, rfl, st.sh, st.own 0 rfl rfl, st.own 1 rfl rfl, by omega, fun x hx => by have := (st.gm.all x hx).2.2; omega, hok2, st.gm.ok hL2, by omega, st.b.clo, ?_⟩
  refine ⟨_, rfl, ?_⟩
  refine iteF ?_
  repeat walk_at "go1"
  walk_at "n"
  rw [show (b : Int) + 3 = ((b + 3 : Nat) : Int) by omega]
  refine ⟨a, ns, b + 3, m, rfl, hSa, hl, by omega, hm1, by omega, st.b.clo, fun sp ps hsp hspl hps => ?_⟩
  have kp3 := kp2.trans (Kp.ex (Ex.new (o := .lst (ntsV sp)) (Ex.refl H2) hps) (clo_new st.b.clo hps rfl))
  have st := st.add (c := ntsV sp) rfl hps (Ex.new (Ex.refl _) hps) upd_same (clo_new st.b.clo hps rfl)
  generalize upd H2 ps (.lst (ntsV sp)) = H3 at st kp3 ⊢
  have st : St1 K H0 H3 L x lt lm [A, C, D, ps] [strV Ts, mkV M, strV row, ntsV sp] B Ts M := st
  clear hSa kp2
  have hSC : SqL K H3 C (mkV M) := .inl (.inl (st.own 1 rfl rfl))
  have hSs : SqL K H3 ps (ntsV sp) := .inl (.inl (st.own 3 rfl rfl))
  repeat walk_at "go1"
  walk_at "n"
  refine ⟨C, n, M, rfl, hSC, hn, by omega, st.b.clo, fun r hr => ?_⟩
  refine gTupN2 sqT_at ?_
  refine ⟨_, Trim.back (Ex.new (Ex.refl _) hr) st.b.clo, ?_⟩
  clear hr
  have hE := st.gm.ends3 (i := n) (by omega)
  have hrg := st.gm.right (i := n)
  have hrm := st.gm.rooms (i := n) (m := m) (j := 9) hL (by omega) (by omega)
  have hok : ThOk Ts.length row := ⟨fun z => by rw [z] at hrw; have : 0 = m := hrw; omega, by omega, hrt⟩
  repeat walk_at "go1"
  walk_at "n"
  refine ⟨L, m, lowAt M n, M[n]?, ps, sp, rfl, hSs, hspl, hsp, hL, hL2, hm1, by omega, hE, hrg, st.b.clo, ⟨_, by omega, by omega, hrm⟩, fun k p r H4 hk hk9 ex4 hC4 hp hp4 hr4 => ?_⟩
  refine gTupN2 (tup_sq hr4) ?_
  refine ⟨_, Trim.all ex4 hC4, ?_⟩
  obtain ⟨due, hdue⟩ : ∃ due, due = sp.map fun s => runAt L (lowAt M n) M[n]? k m s := ⟨_, rfl⟩
  rw [← hdue] at hp4
  have kp4 := kp3.trans (Kp.ex ex4 hC4)
  have st := st.add (c := mkV due) rfl hp ex4 hp4 hC4
  have st : St1 K H0 H4 L x lt lm [A, C, D, ps, p] [strV Ts, mkV M, strV row, ntsV sp, mkV due] B Ts M := st
  clear hr4 hp hp4 ex4 hC4 hSC hSs kp3
  repeat walk_at "go1"
  refine St1.meth st (by decide +kernel) (by decide +kernel) (by decide +kernel) ?_
  repeat walk_at "go1"
  walk_at "n"
  refine St1.row (n := n) (j := 9) st rfl (by omega) hn (st.own 2 rfl rfl) hok (by omega) fun k2 nt nm r H5 hk2 st5 hkp5 => ?_
  rw [hrw] at hk2 st5
  obtain rfl := hk.same hk2
  have kp5 := kp4.trans hkp5
  have hRl := runMk_len L (ends L 1 0) (lowAt M n) M[n]? k m
  have hgd : sp.map (fun s => (runMk L (ends L 1 0) (lowAt M n) M[n]? k m).getD s []) = due := by
    rw [hdue]
    refine List.map_congr_left fun s hs => ?_
    unfold runMk runAt
    rw [List.getD_eq_getElem?_getD, List.getElem?_map, List.getElem?_range (hsp s hs)]; rfl
  have hRk : ∀ x ∈ runMk L (ends L 1 0) (lowAt M n) M[n]? k m, x.length = k := fun x hx => by
    obtain ⟨i, hi, rfl⟩ := List.mem_map.mp hx
    exact (inMk_ok hL (show 0 < 1 by omega) (show 1 < L by omega) hE.e hk.one (runN_le hk.room (List.mem_range.mp hi)).2).len
  have hRok : ∀ y ∈ (runMk L (ends L 1 0) (lowAt M n) M[n]? k m).map txt, PyData.strOk y = true := fun y hy => by
    obtain ⟨z, hz, rfl⟩ := List.mem_map.mp hy
    refine st5.gm.ok hL2 (txt z) (List.mem_map.mpr ⟨z, ?_, rfl⟩)
    unfold insR
    exact List.mem_append_left _ (List.mem_append_right _ hz)
  generalize runMk L (ends L 1 0) (lowAt M n) M[n]? k m = R at *
  have st5 : St1 K H0 H5 L x nt nm [A, C, D, ps, p, r] [strV Ts, mkV M, strV row, ntsV sp, mkV due, mkV R] (B + 10) (insR Ts n row) (insR M n R) := st5
  have eRR := mkV_len R
  have hr5 := st5.own 5 rfl rfl
  have hSr : SqL K H5 r (mkV R) := .inl (.inl hr5)
  have hSs : SqL K H5 ps (ntsV sp) := .inl (.inl (st5.own 3 rfl rfl))
  have hp5 := st5.own 4 rfl rfl
  repeat walk_at "go1"
  rw [eRR, hRl]
  refine iteNI (fun c => absurd rfl c) fun _ => ?_
  repeat walk_at "go1"
  refine ⟨⟨_, hSs⟩, fun DD hD => ?_⟩
  refine lc_fn walk_listF (fun _ => true) (fun i => .str (txt (R.getD (sp.getD i 0) []))) (by rw [ntsV_len]; omega) (fun acc => sqL_new hSs hD) ?_ ?_
  · intro i acc hi ha N hN _
    rw [ntsV_len] at hi
    rw [ntsV_at hi]
    have hs := hsp _ (natD_mem hi)
    generalize sp.getD i 0 = s at hs hN ⊢
    have hSr5 : SqL K (upd H5 DD (.lst acc)) r (mkV R) := sqL_new hSr hD
    have hx5 : atI (mkV R) (s : Int) = some (.str (txt (R.getD s []))) := atI_nat (by rw [List.getElem?_map, List.getElem?_map, List.getD_eq_getElem?_getD, List.getElem?_eq_getElem (by omega)]; rfl)
    repeat walk_at "go1"
    exact lc_end ha (by omega) (hN rfl)
  rw [filt_all, ntsV_len, range_mapF sp 0 (fun s => V.str (txt (R.getD s []))), show (sp.map fun s => V.str (txt (R.getD s []))) = mkV (sp.map fun s => R.getD s []) by unfold mkV; rw [List.map_map, List.map_map]; rfl, hgd]
  repeat walk_at "go1"
  refine neD_same upd_same (by rw [upd_ne (ne_of_none hp5 hD)]; exact hp5) ?_ ?_
  · intro y hy
    rw [← hgd] at hy
    obtain ⟨z, hz, rfl⟩ := List.mem_map.mp hy
    obtain ⟨s, hs, rfl⟩ := List.mem_map.mp hz
    refine hRok _ (List.mem_map.mpr ⟨_, ?_, rfl⟩)
    rw [List.getD_eq_getElem?_getD, List.getElem?_eq_getElem (by have := hsp s hs; omega)]
    exact List.getElem_mem _
  refine ⟨_, rfl, _, Trim.back (Ex.new (Ex.refl _) hD) st5.b.clo, ?_⟩
  refine iteF ?_
  clear hD
  repeat walk_at "go1"
  refine ⟨⟨_, hSr⟩, fun D2 hD => ?_⟩
  refine lc_fn walk_listF (fun _ => false) (fun i => .non) (by omega) (fun acc => sqL_new hSr hD) ?_ ?_
  · intro i acc hi ha N _ hN
    have hi2 : i < R.length := by omega
    have hx := hRk _ (getD_memN hi2)
    have h4 := txt_len (R.getD i [])
    rw [marks_at hi2]
    repeat walk_at "go1"
    refine ⟨by rw [sz]; omega, ?_⟩
    repeat walk_at "go1"
    rw [h4, hx]
    exact iteNI (fun c => absurd rfl c) fun _ => hN rfl
  rw [show (List.range (mkV R).length).filter (fun _ => false) = [] from List.filter_eq_nil_iff.mpr fun _ _ => by simp]
  refine ⟨Nat.zero_le _, fun u hu => ?_⟩
  have exD := Ex.new (o := .lst []) (Ex.refl H5) hD
  refine neD_same (xs := []) (by rw [upd_ne (Ne.symm (fresh_ne hu))]; exact upd_same) upd_same (fun _ h => nomatch h) ?_
  refine ⟨_, rfl, _, Trim.back (Ex.new exD (exD.back hu)) st5.b.clo, ?_⟩
  refine iteF ?_
  clear hu exD hD hp5 hSs
  repeat walk_at "go1"
  refine ⟨by omega, by omega, ?_⟩
  refine for_fn walk_range1 (fun i σ' H' => ∃ x10, St1 K H0 H' L x nt nm [A, C, D, ps, p, r] [strV (insR Ts n (row.take i)), mkV (insR M n (R.take i)), strV row, ntsV sp, mkV due, mkV R] (B + 10) (insR Ts n row) (insR M n R) ∧ Kp H H' ∧ σ' = [some (.ref a), some (.int b), some (.int L), some (.ref x), some (.ref tt), some (.int m), some (.ref A), some (.ref C), some (.int n), some (.ref D), x10, some (.int bad), some (.str odd), some (.bl true), none, some (.ref ps), some (optV (lowAt M n)), some (optV M[n]?), some (.ref p), some (.int k), some (.ref r), none])
    ⟨_, by rw [List.take_zero, List.take_zero, insR_none, insR_none]; exact st5, kp5, rfl⟩ (fun _ _ _ _ _ => trivial) ?_ ?_
  · rintro i σ' H6 hi ⟨x10, st6, kp6, rfl⟩
    have hi2 : i < m := by simpa using hi
    have hiR : i < R.length := by omega
    have hiw : i < row.length := by omega
    have hSr6 : SqL K H6 r (mkV R) := .inl (.inl (st6.own 5 rfl rfl))
    have hx6 : atI (mkV R) (i : Int) = some (.str (txt R[i])) := atI_nat (by rw [List.getElem?_map, List.getElem?_map, List.getElem?_eq_getElem hiR]; rfl)
    have hC6 := st6.own 1 rfl rfl
    have hSw6 : SqL K H6 D (strV row) := .inl (.inl (st6.own 2 rfl rfl))
    have hw6 : atI (strV row) (i : Int) = some (.str row[i]) := atI_nat (by rw [List.getElem?_map, List.getElem?_eq_getElem hiw]; rfl)
    have hl1 : (insR M n (R.take i)).length = M.length + i := by rw [insR_len hn, List.length_take]; omega
    have hl2 : (insR Ts n (row.take i)).length = Ts.length + i := by rw [insR_len hnT, List.length_take]; omega
    have eC := mkV_len (insR M n (R.take i))
    repeat walk_at "go1"
    walk_at "n"
    rw [show (n : Int) + (i : Int) = ((n + i : Nat) : Int) by omega]
    refine ⟨C, _, ((n + i : Nat) : Int), _, rfl, rfl, hC6, by rw [eC, sz]; omega, by omega, by omega, ?_⟩
    rw [Int.toNat_natCast, insL_map, insL_map', insR_grow hn hiR]
    have st7 := st6.set (y := mkV (insR M n (R.take (i + 1)))) 1 rfl rfl
    have kp7 := kp6.trans (Kp.set (o := .lst (mkV (insR M n (R.take (i + 1))))) st6.b.clo hC6 rfl)
    generalize upd H6 C (.lst (mkV (insR M n (R.take (i + 1))))) = H7 at st7 kp7 ⊢
    have hA7 := st7.own 0 rfl rfl
    have hSw7 : SqL K H7 D (strV row) := .inl (.inl (st7.own 2 rfl rfl))
    repeat walk_at "go1"
    walk_at "n"
    rw [show (n : Int) + (i : Int) = ((n + i : Nat) : Int) by omega]
    refine ⟨A, _, ((n + i : Nat) : Int), _, rfl, rfl, hA7, by rw [List.length_map, sz]; omega, by omega, by omega, ?_⟩
    rw [Int.toNat_natCast, insL_map, insR_grow hnT hiw]
    have st8 := st7.set (y := strV (insR Ts n (row.take (i + 1)))) 0 rfl rfl
    have kp8 := kp7.trans (Kp.set (o := .lst (strV (insR Ts n (row.take (i + 1))))) st7.b.clo hA7 rfl)
    exact ⟨_, st8, kp8, rfl⟩
  rintro σ' H6 ⟨x10, st6, kp6, rfl⟩
  rw [Int.toNat_natCast] at st6
  rw [List.take_of_length_le (by omega), List.take_of_length_le (by omega)] at st6
  have hlT : (insR Ts n row).length = Ts.length + m := by rw [insR_len hnT, hrw]
  have hlM : (insR M n R).length = M.length + m := by rw [insR_len hn, hRl]
  have hok3 : ∀ y ∈ insR Ts n row, PyData.strOk y = true := fun y hy => isTh_ok (st6.th y hy)
  repeat walk_at "go1"
  walk_at "n"
  refine ⟨x, nt, nm, A, C, L, insR Ts n row, insR M n R, rfl, st6.sh, st6.own 0 rfl rfl, st6.own 1 rfl rfl, by omega, fun x hx => by have := (st6.gm.all x hx).2.2; omega, hok3, st6.gm.ok hL2, by omega, st6.b.clo, ?_⟩
  exact ⟨_, kp6, q nt nm _ _ _ (St1.pre (qs := [A, C]) (rs := [D, ps, p, r]) (cs := [strV (insR Ts n row), mkV (insR M n R)]) (ds := [strV row, ntsV sp, mkV due, mkV R]) rfl st6) hlT kp6⟩
/-! ### law_renewal_right -/
theorem renN_lt2 {L m k i : Nat} (x : Long L m k) : renN L m k i < renN L m k (i + 1) := by
  unfold renN
  have h := x.gt
  have : (i + 1) * L ^ k / (m + 1) + 1 ≤ (i + 1 + 1) * L ^ k / (m + 1) := by
    rw [← Nat.add_div_right _ (show 0 < m + 1 by omega)]
    refine Nat.div_le_div_right ?_
    rw [Nat.add_mul (i + 1) 1, Nat.one_mul]
    omega
  omega
theorem rens_good {L m k : Nat} (hL : 2 ≤ L) (x : Long L m k) : GoodMs L k (rens L m k) := by
  refine ⟨fun y hy => ?_, ?_⟩
  · obtain ⟨i, hi, rfl⟩ := List.mem_map.mp hy
    obtain ⟨h1, h2⟩ := renN_lt x (List.mem_range.mp hi)
    exact ⟨mk0_markOf (by omega), mark_ne h1 h2, markOf_len _ _ _⟩
  · unfold rens
    refine List.pairwise_map.mpr ?_
    refine List.Pairwise.imp_of_mem (R := (· < ·)) (fun {a b} ha hb hab => ?_) List.pairwise_lt_range
    have h1 := (renN_lt x (List.mem_range.mp ha)).2
    have h2 := (renN_lt x (List.mem_range.mp hb)).2
    refine (lt_whole (k := k) (show 0 < L by omega) (mk0_markOf (by omega)) (mk0_markOf (by omega)) (markOf_len _ _ _) (markOf_len _ _ _)).mpr ?_
    rw [whole_mark h1, whole_mark h2]
    exact Nat.lt_of_lt_of_le (renN_lt2 x) (renN_mono hab)
theorem St1.renew {K : PySem.W.Frag} {H H' : Hp} {L B : Nat} {x lt lm : Addr} {qs : List Addr} {cs : List (List V)} {T : List Str} {M : List (List Nat)} {Q : VK} {E : XK} (st : St1 K H H' L x lt lm qs cs B T M) (hl : qs.length = cs.length) (hT : T.length ≤ 90000)
    (q : ∀ k nm r H2, Long L T.length k → St1 K H H2 L x lt nm (qs ++ [r]) (cs ++ [mkV (rens L T.length k)]) k T (rens L T.length k) → H2 r = some (.lst (mkV (rens L T.length k))) → Kp H' H2 → Q (.ref r) H2) : sp_Shelf_renew K [.ref x] H' Q E := by
  refine ⟨x, lt, lm, L, T, M.map txt, rfl, st.sh, st.b.clo, st.L2, st.L26, hT, fun k nm r H2 hk hnm hr hnr hkeep hsh hr2 hC2 hkp => ?_⟩
  obtain ⟨dx, hp⟩ := st.at_
  have hl2 : (lt :: lm :: qs).length = (strV T :: mkV M :: cs).length := by simp only [List.length_cons, hl]
  have b1 := st.b.keep st.x0 hp hkeep hC2
  have b2 := b1.swap 1 (st.b.notin hl2 hnm) (st.b.ex.back hnm) hsh.lm
  have b3 := b2.put (by simp only [List.length_set, List.length_cons, hl]) (fun z hz => by
    rcases List.mem_or_eq_of_mem_set hz with w | w
    · exact st.b.notin hl2 hr z w
    · rw [w]; exact hnr) (st.b.ex.back hr) hr2
  exact q k nm r H2 hk ⟨b3, st.x0, hsh.at_, st.L2, st.L26, rens_good st.L2 hk, (rens_len _ _ _).symm, st.th⟩ hr2 hkp
def sp_law_renewal_right (K : PySem.W.Frag) : Sp := fun vs H Q E => ∃ (H0 : Hp) (a x lt lm A C tt : Addr) (ns : List Int) (b L B : Nat) (Ts : List Str) (M : List (List Nat)), vs = [.ref a, .int b, .int L, .ref x, .ref tt] ∧ SqL K H0 a (ns.map V.int) ∧ ns.length ≤ 63 ∧ b ≤ 1000 ∧ St1 K H0 H L x lt lm [A, C] [strV Ts, mkV M] B Ts M ∧ H tt = some (.tup [.ref A, .ref C]) ∧ B ≤ 20000 ∧ 1 ≤ Ts.length ∧ Ts.length ≤ 300 ∧
  ∀ nm M' H', St1 K H0 H' L x lt nm [A, C] [strV Ts, mkV M'] (B + 300) Ts M' → Kp H H' → Q (.bl true) H'
def t_law_renewal_right (K : PySem.W.Frag) (E : XK) : TS :=
  (tTrim (tSeq (tTrim (tAsg (tVar 4) (gTup K 2 (gCons (gName 5) (gCons (gName 6) gNil)))))
    (tSeq (tAsg (tCall (sp_law_spots K) [] E (tCons (tVar 0) (tCons (tVar 1) (tCons (tCB (rLenQ K) (tCons (tVar 5) tNil)) tNil)))) (gName 7))
    (tSeq (tTrim (tAsg (tCall (sp_law_renewed K) [] E (tCons (tVar 2) (tCons (tCB (rLenQ K) (tCons (tVar 5) tNil)) (tCons (tVar 7) tNil)))) (gTup K 2 (gCons (gName 8) (gCons (gName 9) gNil)))))
    (tSeq (tFor (iRng1 (tCons (tC (.int 2)) tNil)) (gName 10)
    (tSeq (tAsg (tMeth (He.ga K "Shelf") "renew" (sp_Shelf_renew K) [] E (tVar 3) tNil) (gName 11))
    (tSeq (tIfS (tOr (tNot (tB (tCB (rIsi K) (tCons (tVar 11) (tCons (tC (.ty "list")) tNil))))) (tOr (tTest (tOp rNe (tCB (rLenQ K) (tCons (tVar 11) tNil)) (tCB (rLenQ K) (tCons (tVar 5) tNil)))) (tTrimT (tTest (tOp (rNeD K) (tLc (iList K (tVar 7)) (gName 12) tYes (tOp (rIxL K) (tVar 11) (tVar 12)) [12]) (tVar 8))))))
    (tRet (tC (.bl false)))
    tNext)
    (tSeq (tIfS (tOr (tTrimT (tTest (tOp rNe (tCB (rMax K) (tCons (tLc (iList K (tVar 11)) (gName 13) tYes (tCB rLenS1 (tCons (tVar 13) tNil)) [13]) tNil)) (tVar 9)))) (tTrimT (tTest (tOp (rNeD K) (tSortSetS K (tVar 11)) (tVar 11)))))
    (tRet (tC (.bl false)))
    tNext)
    (tSeq (tDrop (tBM0 K "list" rClear (tVar 6)))
    (tSeq (tDrop (tBM K "list" rExtend (tVar 6) (tCons (tVar 11) tNil)))
    (tSeq (tDrop (tBM K "list" rAppend (tVar 11) (tCons (tC (.str "b")) tNil)))
    (tIfS (tNot (tB (tCall (sp_law_shown K) [] E (tCons (tVar 3) (tCons (tVar 5) (tCons (tVar 6) tNil))))))
    (tRet (tC (.bl false)))
    tNext))))))))
    (tRet (tC (.bl true))))))))
theorem len_law_renewal_right {K : PySem.W.Frag} (vs : List V) (H : Hp) (Q : VK) (E : XK) : sp_law_renewal_right K vs H Q E → vs.length = (["script", "base", "letters", "shelf", "kept"] : List Str).length := by
  walk_at "len"

theorem pure_law_renewal_right {K : PySem.W.Frag} (T : Kx K) (vs : List V) (H : Hp) (Q : VK) (E : XK) (h : sp_law_renewal_right K vs H Q E) : t_law_renewal_right K E { nx := fun _ H' => Q .non H', rt := Q } (start ["script", "base", "letters", "shelf", "kept", "things", "marks", "spots", "due", "long", "turn", "found", "k", "mark"] vs) H := by
  obtain ⟨H0, a, x, lt, lm, A, C, tt, ns, b, L, B, Ts, M, rfl, hS, hl, hb, st, htt, hB, hT1, hT, q⟩ := h
  have hSa := sqL_ex hS st.b.ex
  have hL := st.L2
  have hL2 := st.L26
  have eT : (strV Ts).length = Ts.length := List.length_map _
  have hSA : SqL K H A (strV Ts) := .inl (.inl (st.own 0 rfl rfl))
  repeat walk_at "go1"
  refine gTupN2 (tup_sq htt) ?_
  refine ⟨_, Trim.all (Ex.refl H) st.b.clo, ?_⟩
  repeat walk_at "go1"
  rw [eT]
  walk_at "n"
  refine ⟨a, ns, b, Ts.length, rfl, hSa, hl, hb, hT1, by omega, st.b.clo, fun sp ps hsp hspl hps => ?_⟩
  have kp1 := Kp.ex (Ex.new (o := .lst (ntsV sp)) (Ex.refl H) hps) (clo_new st.b.clo hps rfl)
  have st := st.add (c := ntsV sp) rfl hps (Ex.new (Ex.refl _) hps) upd_same (clo_new st.b.clo hps rfl)
  generalize upd H ps (.lst (ntsV sp)) = H1 at st kp1 ⊢
  have st : St1 K H0 H1 L x lt lm [A, C, ps] [strV Ts, mkV M, ntsV sp] B Ts M := st
  clear hSA
  have hSA : SqL K H1 A (strV Ts) := .inl (.inl (st.own 0 rfl rfl))
  have hSs : SqL K H1 ps (ntsV sp) := .inl (.inl (st.own 2 rfl rfl))
  repeat walk_at "go1"
  rw [eT]
  walk_at "n"
  refine ⟨L, Ts.length, ps, sp, rfl, hSs, hspl, hsp, hL, hL2, by omega, st.b.clo, fun k p r H2 hk ex2 hC2 hp hp2 hr2 => ?_⟩
  refine gTupN2 (tup_sq hr2) ?_
  refine ⟨_, Trim.all ex2 hC2, ?_⟩
  have kp2 := kp1.trans (Kp.ex ex2 hC2)
  obtain ⟨due, hdue⟩ : ∃ due, due = sp.map fun s => markOf L (renN L Ts.length k s) k := ⟨_, rfl⟩
  rw [← hdue] at hp2
  have st := st.add (c := mkV due) rfl hp ex2 hp2 hC2
  have st : St1 K H0 H2 L x lt lm [A, C, ps, p] [strV Ts, mkV M, ntsV sp, mkV due] (B + 300) Ts M := st.mono (by omega)
  have hkm := hk.le_m hL
  clear hSA hSs hr2 ex2 hC2 hp hp2
  repeat walk_at "go1"
  refine ⟨by omega, by omega, ?_⟩
  refine for_fn (walk_range1 (n := Int.toNat 2)) (fun i σ' H' => ∃ nm M x10 x11, St1 K H0 H' L x lt nm [A, C, ps, p] [strV Ts, mkV M, ntsV sp, mkV due] (B + 300) Ts M ∧ Kp H H' ∧ σ' = [some (.ref a), some (.int b), some (.int L), some (.ref x), some (.ref tt), some (.ref A), some (.ref C), some (.ref ps), some (.ref p), some (.int k), x10, x11, none, none])
    ⟨lm, M, _, _, st, kp2, rfl⟩ (fun _ _ _ _ _ => trivial) ?_ ?_
  · rintro i σ' H3 _ ⟨nm, M3, x10, x11, st, kp3, rfl⟩
    repeat walk_at "go1"
    refine St1.meth st (by decide +kernel) (by decide +kernel) (by decide +kernel) ?_
    repeat walk_at "go1"
    walk_at "n"
    refine St1.renew st rfl (by omega) fun k2 nm4 r H4 hk2 st4 hr4 kp4 => ?_
    obtain rfl := hk.uniq hk2
    have hRl := rens_len L Ts.length k
    obtain ⟨y0, hy0, hy1⟩ := rens_long hL hk hT1
    have hgd : sp.map (fun s => (rens L Ts.length k).getD s []) = due := by
      rw [hdue]
      refine List.map_congr_left fun s hs => ?_
      unfold rens
      rw [List.getD_eq_getElem?_getD, List.getElem?_map, List.getElem?_range (hsp s hs)]; rfl
    have hpw := rens_pw (show 0 < L by omega) hk
    have hupR := rens_up (show 0 < L by omega) hk
    have hlk : ∀ x ∈ rens L Ts.length k, x.length ≤ k := fun x hx => (rens_mk (show 0 < L by omega) hk x hx).2.2
    generalize rens L Ts.length k = R at *
    have st4 : St1 K H0 H4 L x lt nm4 [A, C, ps, p, r] [strV Ts, mkV M3, ntsV sp, mkV due, mkV R] k Ts R := st4
    have hkp4 := kp3.trans kp4
    have eR := mkV_len R
    have hokR := st4.gm.ok hL2
    have hSr : SqL K H4 r (mkV R) := .inl (.inl hr4)
    have hSA : SqL K H4 A (strV Ts) := .inl (.inl (st4.own 0 rfl rfl))
    have hSs : SqL K H4 ps (ntsV sp) := .inl (.inl (st4.own 2 rfl rfl))
    have hp4 := st4.own 3 rfl rfl
    repeat walk_at "go1"
    rw [eR, eT, hRl]
    refine iteNI (fun c => absurd rfl c) fun _ => ?_
    repeat walk_at "go1"
    refine ⟨⟨_, hSs⟩, fun D hD => ?_⟩
    refine lc_fn walk_listF (fun _ => true) (fun i => .str (txt (R.getD (sp.getD i 0) []))) (by rw [ntsV_len]; omega) (fun acc => sqL_new hSs hD) ?_ ?_
    · intro i acc hi ha N hN _
      rw [ntsV_len] at hi
      rw [ntsV_at hi]
      have hs := hsp _ (natD_mem hi)
      generalize sp.getD i 0 = s at hs hN ⊢
      have hSr5 : SqL K (upd H4 D (.lst acc)) r (mkV R) := sqL_new hSr hD
      have hx5 : atI (mkV R) (s : Int) = some (.str (txt (R.getD s []))) := atI_nat (by rw [List.getElem?_map, List.getElem?_map, List.getD_eq_getElem?_getD, List.getElem?_eq_getElem (by omega)]; rfl)
      repeat walk_at "go1"
      exact lc_end ha (by omega) (hN rfl)
    rw [filt_all, ntsV_len, range_mapF sp 0 (fun s => V.str (txt (R.getD s []))), show (sp.map fun s => V.str (txt (R.getD s []))) = mkV (sp.map fun s => R.getD s []) by unfold mkV; rw [List.map_map, List.map_map]; rfl, hgd]
    repeat walk_at "go1"
    refine neD_same upd_same (by rw [upd_ne (ne_of_none hp4 hD)]; exact hp4) ?_ ?_
    · intro y hy
      rw [← hgd] at hy
      obtain ⟨z, hz, rfl⟩ := List.mem_map.mp hy
      obtain ⟨s, hs, rfl⟩ := List.mem_map.mp hz
      refine hokR _ (List.mem_map.mpr ⟨_, ?_, rfl⟩)
      rw [List.getD_eq_getElem?_getD, List.getElem?_eq_getElem (by have := hsp s hs; omega)]
      exact List.getElem_mem _
    refine ⟨_, rfl, _, Trim.back (Ex.new (Ex.refl _) hD) st4.b.clo, ?_⟩
    refine iteF ?_
    clear hD
    repeat walk_at "go1"
    refine ⟨⟨_, hSr⟩, fun D hD => ?_⟩
    refine lc_fn walk_listF (fun _ => true) (fun i => .int (((R.getD i []).length : Nat) : Int)) (by omega) (fun acc => sqL_new hSr hD) ?_ ?_
    · intro i acc hi ha N hN _
      have hi2 : i < R.length := by omega
      have hx := hlk _ (getD_memN hi2)
      have h4 := txt_len (R.getD i [])
      rw [marks_at hi2]
      walk_at "go"
      rw [show ((txt (R.getD i [])).length : Int) = ((R.getD i []).length : Int) by omega]
      exact lc_end ha (by omega) (hN rfl)
    rw [filt_all, lens_V]
    walk_at "b"
    refine ⟨D, _, rfl, sqL_at, by rw [List.length_map]; omega, fun m2 hm2 hm3 => ?_⟩
    obtain rfl : m2 = (k : Int) := by
      obtain ⟨x, hx, e⟩ := List.mem_map.mp hm2
      have h1 := hlk x hx
      have h2 := hm3 (y0.length : Int) (List.mem_map.mpr ⟨y0, hy0, rfl⟩)
      have h3 : (x.length : Int) = m2 := e
      omega
    repeat walk_at "go1"
    refine ⟨_, Trim.back (Ex.new (Ex.refl _) hD) st4.b.clo, ?_⟩
    refine iteNI (fun c => absurd rfl c) fun _ => ?_
    clear hD
    repeat walk_at "go1"
    refine ⟨r, R.map txt, rfl, hSr, by rw [List.length_map]; omega, fun ys q2 h1 h2 h3 h4 => ?_⟩
    have hndR : (R.map txt).Nodup := nodup_map (fun _ _ e => txt_inj e) (hupR.imp fun {a b} h => fun e => by rw [e] at h; exact absurd h (List.lt_irrefl b))
    obtain rfl : ys = R.map txt := strs_uniq h1 h2 hpw hndR h3
    repeat walk_at "go1"
    refine neD_same upd_same (by rw [upd_ne (ne_of_none hr4 h4)]; exact hr4) hokR ?_
    refine ⟨_, rfl, _, Trim.back (Ex.new (Ex.refl _) h4) st4.b.clo, ?_⟩
    refine iteF ?_
    clear h4 h1 h2 h3
    have hC4 := st4.own 1 rfl rfl
    repeat walk_at "go1"
    refine ⟨C, _, rfl, rfl, hC4, ?_⟩
    have st5 := st4.set (y := []) 1 rfl rfl
    have kp5 := hkp4.trans (Kp.set (o := .lst []) st4.b.clo hC4 rfl)
    generalize upd H4 C (.lst []) = H5 at st5 kp5 ⊢
    have hC5 := st5.own 1 rfl rfl
    have hr5 := st5.own 4 rfl rfl
    clear hSr hSA hSs hp4 hr4
    repeat walk_at "go1"
    walk_at "b"
    refine ⟨C, r, _, _, rfl, rfl, hC5, hr5, by rw [eR, sz]; show 0 + _ ≤ _; omega, ?_⟩
    have st6 := st5.set (y := mkV R) 1 rfl rfl
    have kp6 := kp5.trans (Kp.set (o := .lst (mkV R)) st5.b.clo hC5 rfl)
    show tSeq _ _ _ _ (upd H5 C (.lst (mkV R)))
    generalize upd H5 C (.lst (mkV R)) = H6 at st6 kp6 ⊢
    have hr6 := st6.own 4 rfl rfl
    repeat walk_at "go1"
    walk_at "b"
    refine app_to hr6 (by rw [eR, sz]; omega) ?_
    have st7 := st6.set (y := mkV R ++ [.str "b"]) 4 rfl rfl
    have kp7 := kp6.trans (Kp.set (o := .lst (mkV R ++ [.str "b"])) st6.b.clo hr6 rfl)
    generalize upd H6 r (.lst (mkV R ++ [.str "b"])) = H7 at st7 kp7 ⊢
    have st8 := St1.pre (qs := [A, C, ps, p]) (rs := [r]) (cs := [strV Ts, mkV R, ntsV sp, mkV due]) (ds := [mkV R ++ [.str "b"]]) rfl st7
    have hok2 : ∀ y ∈ Ts, PyData.strOk y = true := fun y hy => isTh_ok (st8.th y hy)
    repeat walk_at "go1"
    walk_at "n"
    refine ⟨x, lt, nm4, A, C, L, Ts, R, rfl, st8.sh, st8.own 0 rfl rfl, st8.own 1 rfl rfl, by omega, fun x hx => by have := hlk x hx; omega, hok2, hokR, by omega, st8.b.clo, ?_⟩
    refine ⟨_, rfl, ?_⟩
    refine iteF ?_
    exact ⟨nm4, R, _, _, st8.mono (by omega), kp7, rfl⟩
  rintro σ' H' ⟨nm, M3, x10, x11, st, kp3, rfl⟩
  repeat walk_at "go1"
  exact ⟨_, kp3, q nm M3 _ (St1.pre (qs := [A, C]) (rs := [ps, p]) (cs := [strV Ts, mkV M3]) (ds := [ntsV sp, mkV due]) rfl st) kp3⟩
/-- what lies between at a length is not empty, at none less -/
structure LeastS (L : Nat) (lo hi : Option (List Nat)) (k : Nat) : Prop where
  one : 1 ≤ k
  some : lowN L lo k < pastN L hi k
  none : ∀ j, 1 ≤ j → j < k → pastN L hi j ≤ lowN L lo j
theorem mem_ends1 {L f : Nat} : f ∈ ends L 1 0 ↔ 1 ≤ f ∧ f < L := by
  rw [ends_mem, Nat.mod_one]
  exact ⟨fun h => ⟨h.1, h.2.1⟩, fun h => ⟨h.1, h.2, rfl⟩⟩
/-- all that lies between at the least length ends with no a -/
theorem LeastS.nomult {L k : Nat} {lo hi : Option (List Nat)} (hL : 2 ≤ L) (he : Ends2 L lo hi) (h : LeastS L lo hi k) : ∀ n, lowN L lo k ≤ n → n < pastN L hi k → n % L ∈ ends L 1 0 := by
  intro n h1 h2
  rw [mem_ends1]
  refine ⟨Nat.pos_of_ne_zero fun z => ?_, Nat.mod_lt _ (by omega)⟩
  have hp := past_le (k := k) (show 0 < L by omega) he
  have hn0 : 0 < n := Nat.lt_of_lt_of_le (low_pos L lo k) h1
  obtain ⟨m, rfl⟩ : ∃ m, n = m * L := ⟨n / L, (Nat.div_mul_cancel (Nat.dvd_of_mod_eq_zero z)).symm⟩
  have hm0 : 0 < m := Nat.pos_of_ne_zero fun e => by rw [e, Nat.zero_mul] at hn0; omega
  obtain ⟨j, rfl⟩ : ∃ j, k = j + 1 := ⟨k - 1, by have := h.one; omega⟩
  have hmj : m < L ^ j := by
    have e : L ^ (j + 1) = L ^ j * L := Nat.pow_succ ..
    have : m * L < L ^ j * L := by omega
    exact Nat.lt_of_mul_lt_mul_right this
  have hj : 1 ≤ j := by
    rcases Nat.eq_zero_or_pos j with e | e
    · rw [e, Nat.pow_zero] at hmj; omega
    · exact e
  have x0 := mk0_markOf (L := L) (n := m) (k := j) (by omega)
  have xl := markOf_len L m j
  have xw := whole_mark hmj
  have xne : markOf L m j ≠ [] := mark_ne hm0 hmj
  have w2 : whole L (markOf L m j) (j + 1) = m * L := by
    show whole L (markOf L m j) j * L + (markOf L m j).getD j 0 = _
    rw [xw, List.getD_eq_getElem?_getD, List.getElem?_eq_none xl]; rfl
  have b := (betw_iff (k := j + 1) (by omega) he x0 (by omega) xne).mpr ⟨by rw [w2]; exact h1, by rw [w2]; exact h2⟩
  have c := (betw_iff (k := j) (by omega) he x0 xl xne).mp b
  have := h.none j hj (by omega)
  omega
theorem below_run {L : Nat} {F : List Nat} (hF : Figs L F) (hL : 0 < L) {a : Nat} : ∀ i, (∀ n, a ≤ n → n < a + i → n % L ∈ F) → below L F (a + i) = below L F a + i
  | 0, _ => rfl
  | i + 1, h => by
    rw [← Nat.add_assoc, below_succ hF hL, if_pos (h (a + i) (by omega) (by omega)), below_run hF hL i fun n h1 h2 => h n h1 (by omega)]
    omega
theorem LeastS.room {L k : Nat} {lo hi : Option (List Nat)} (hL : 2 ≤ L) (he : Ends2 L lo hi) (h : LeastS L lo hi k) : roomN L (ends L 1 0) lo hi k = pastN L hi k - lowN L lo k := by
  have hF := figs_ends (show 0 < 1 by omega) (show 1 < L by omega)
  have := below_run hF (show 0 < L by omega) (a := lowN L lo k) (pastN L hi k - lowN L lo k) fun n h1 h2 => h.nomult hL he n h1 (by omega)
  have hs := h.some
  rw [show lowN L lo k + (pastN L hi k - lowN L lo k) = pastN L hi k by omega] at this
  unfold roomN
  omega
theorem LeastS.nth {L k i : Nat} {lo hi : Option (List Nat)} (hL : 2 ≤ L) (he : Ends2 L lo hi) (h : LeastS L lo hi k) (hi2 : i < pastN L hi k - lowN L lo k) : nth L (ends L 1 0) (below L (ends L 1 0) (lowN L lo k) + i) = lowN L lo k + i := by
  have hF := figs_ends (show 0 < 1 by omega) (show 1 < L by omega)
  rw [← below_run hF (show 0 < L by omega) (a := lowN L lo k) i fun n h1 h2 => h.nomult hL he n h1 (by omega)]
  exact nth_below hF (h.nomult hL he _ (by omega) (by omega))
theorem LeastS.least {L k : Nat} {lo hi : Option (List Nat)} (hL : 2 ≤ L) (he : Ends2 L lo hi) (h : LeastS L lo hi k) : LeastK L (ends L 1 0) lo hi 1 k := by
  have hF := figs_ends (show 0 < 1 by omega) (show 1 < L by omega)
  refine ⟨h.one, ?_, fun j h1 h2 => ?_⟩
  · rw [h.room hL he]
    have := h.some
    omega
  · have := below_mono hF (show 0 < L by omega) (h.none j h1 h2)
    unfold roomN
    omega
/-- the number that the law takes -/
def spanN (L : Nat) (lo hi : Option (List Nat)) (k : Nat) : Nat := match lo, hi with
  | some _, none => lowN L lo k
  | none, some _ => pastN L hi k - 1
  | _, _ => (lowN L lo k + pastN L hi k - 1) / 2
theorem LeastS.mark {L k : Nat} {lo hi : Option (List Nat)} (hL : 2 ≤ L) (he : Ends2 L lo hi) (h : LeastS L lo hi k) : betwMk L (ends L 1 0) lo hi k = markOf L (spanN L lo hi k) k := by
  have hs := h.some
  unfold betwMk
  rw [h.room hL he, h.nth hL he (by unfold pickN; split <;> omega)]
  congr 1
  unfold pickN spanN
  split <;> (try dsimp only) <;> omega
/-! ### law_single_right -/
theorem insL_at {α : Type} {l : List α} {n : Nat} {y : α} (h : n ≤ l.length) : (insL l n y)[n]? = some y := by
  unfold insL
  rw [List.append_assoc, List.getElem?_append_right (by rw [List.length_take]; omega), List.length_take, Nat.min_eq_left h, Nat.sub_self]; rfl
theorem insL_erase {α : Type} {l : List α} {n : Nat} {y : α} (h : n ≤ l.length) : (insL l n y).eraseIdx n = l := by
  unfold insL
  rw [List.append_assoc, List.eraseIdx_append_of_length_le (by rw [List.length_take]; omega), List.length_take, Nat.min_eq_left h, Nat.sub_self]
  show l.take n ++ l.drop n = l
  exact List.take_append_drop n l
def sp_law_single_right (K : PySem.W.Frag) : Sp := fun vs H Q E => ∃ (H0 : Hp) (a x lt lm A C tt : Addr) (ns : List Int) (b L B : Nat) (Ts : List Str) (M : List (List Nat)), vs = [.ref a, .int b, .int L, .ref x, .ref tt] ∧ SqL K H0 a (ns.map V.int) ∧ ns.length ≤ 63 ∧ b ≤ 1000 ∧ St1 K H0 H L x lt lm [A, C] [strV Ts, mkV M] B Ts M ∧ H tt = some (.tup [.ref A, .ref C]) ∧ B ≤ 20000 ∧ Ts.length < 300 ∧
  ∀ H', St1 K H0 H' L x lt lm [A, C] [strV Ts, mkV M] (B + 1) Ts M → Kp H H' → Q (.bl true) H'
def t_law_single_right (K : PySem.W.Frag) (E : XK) : TS :=
  (tTrim (tSeq (tTrim (tAsg (tVar 4) (gTup K 2 (gCons (gName 5) (gCons (gName 6) gNil)))))
    (tSeq (tAsg (tCall (sp_law_draw K) [] E (tCons (tVar 0) (tCons (tVar 1) (tCons (tOp rAddI (tCB (rLenQ K) (tCons (tVar 6) tNil)) (tC (.int 1))) tNil)))) (gName 7))
    (tSeq (tTrim (tAsg (tCall (sp_law_round K) [] E (tCons (tVar 6) (tCons (tVar 7) tNil))) (gTup K 2 (gCons (gName 8) (gCons (gName 9) gNil)))))
    (tSeq (tAsg (tC (.int 1)) (gName 10))
    (tSeq (tTrim (tAsg (tCall (sp_law_span K) [] E (tCons (tVar 2) (tCons (tVar 8) (tCons (tVar 9) (tCons (tVar 10) tNil))))) (gTup K 2 (gCons (gName 11) (gCons (gName 12) gNil)))))
    (tSeq (tWhile (tTest (tOp rGtI (tVar 11) (tVar 12))) (tSeq (tAsg (tOp rAddI (tVar 10) (tC (.int 1))) (gName 10))
    (tTrim (tAsg (tCall (sp_law_span K) [] E (tCons (tVar 2) (tCons (tVar 8) (tCons (tVar 9) (tCons (tVar 10) tNil))))) (gTup K 2 (gCons (gName 11) (gCons (gName 12) gNil)))))))
    (tSeq (tAsg (tOp rDivW (tOp rAddI (tVar 11) (tVar 12)) (tC (.int 2))) (gName 13))
    (tMeet (tIfS (tAnd (tTest (tOp rNotN (tVar 8) (tC .non))) (tTest (tOp rIsN (tVar 9) (tC .non))))
    (tAsg (tVar 11) (gName 13))
    tNext)
    (tMeet (tIfS (tAnd (tTest (tOp rIsN (tVar 8) (tC .non))) (tTest (tOp rNotN (tVar 9) (tC .non))))
    (tAsg (tVar 12) (gName 13))
    tNext)
    (tSeq (tAsg (tCall (sp_law_text K) [] E (tCons (tVar 2) (tCons (tVar 13) (tCons (tVar 10) tNil)))) (gName 14))
    (tSeq (tIfS (tOr (tTest (tOp rNe (tMeth (He.ga K "Shelf") "put" (sp_Shelf_put K) [] E (tVar 3) (tCons (tVar 7) (tCons (tC (.str "one")) tNil))) (tVar 14))) (tOr (tTrimT (tTest (tOp rNe (tOp (rIxL K) (tMeth (He.ga K "Shelf") "things" (sp_Shelf_things K) [] E (tVar 3) tNil) (tVar 7)) (tC (.str "one"))))) (tTrimT (tTest (tOp rNe (tOp (rIxL K) (tMeth (He.ga K "Shelf") "marks" (sp_Shelf_marks K) [] E (tVar 3) tNil) (tVar 7)) (tVar 14))))))
    (tRet (tC (.bl false)))
    tNext)
    (tRet (tAndV (tOp rEq (tMeth (He.ga K "Shelf") "take" (sp_Shelf_take K) [] E (tVar 3) (tCons (tVar 7) tNil)) (tC (.str "one"))) (tCall (sp_law_shown K) [] E (tCons (tVar 3) (tCons (tVar 5) (tCons (tVar 6) tNil))))))))))))))))))
theorem len_law_single_right {K : PySem.W.Frag} (vs : List V) (H : Hp) (Q : VK) (E : XK) : sp_law_single_right K vs H Q E → vs.length = (["script", "base", "letters", "shelf", "kept"] : List Str).length := by
  walk_at "len"

theorem pure_law_single_right {K : PySem.W.Frag} (T : Kx K) (vs : List V) (H : Hp) (Q : VK) (E : XK) (h : sp_law_single_right K vs H Q E) : t_law_single_right K E { nx := fun _ H' => Q .non H', rt := Q } (start ["script", "base", "letters", "shelf", "kept", "things", "marks", "place", "low", "high", "long", "least", "most", "number", "due"] vs) H := by
  obtain ⟨H0, a, x, lt, lm, A, C, tt, ns, b, L, B, Ts, M, rfl, hS, hl, hb, st, htt, hB, hT, q⟩ := h
  have hSa := sqL_ex hS st.b.ex
  have hL := st.L2
  have hL2 := st.L26
  have hlen := st.len
  have hC := st.b.clo
  have hCm := st.own 1 rfl rfl
  have hSC : SqL K H C (mkV M) := .inl (.inl hCm)
  have eM := mkV_len M
  repeat walk_at "go1"
  refine gTupN2 (tup_sq htt) ?_
  refine ⟨_, Trim.all (Ex.refl H) hC, ?_⟩
  repeat walk_at "go1"
  rw [eM]
  repeat walk_at "go1"
  refine ⟨_, _, _, _, rfl, hSa, hl, (by omega), (by omega), (by omega), (by omega), ?_⟩
  intro d1 d10 d11
  obtain ⟨n, rfl⟩ := Int.eq_ofNat_of_zero_le d10
  have hn : n ≤ M.length := by omega
  repeat walk_at "go1"
  refine ⟨C, n, M, rfl, hSC, hn, by omega, hC, fun r hr => ?_⟩
  refine gTupN2 sqT_at ?_
  refine ⟨_, Trim.back (Ex.new (Ex.refl _) hr) hC, ?_⟩
  clear hr
  have hE := st.gm.ends3 (i := n) (by omega)
  have hrg := st.gm.right (i := n)
  have hrm := st.gm.room (i := n) hL (by omega)
  obtain ⟨N, hNe⟩ : ∃ N, N = B + 1 := ⟨_, rfl⟩
  rw [← hNe] at hrm
  have hF := figs_ends (show 0 < 1 by omega) (show 1 < L by omega)
  have put := fun (Q : VK) (E : XK) => St1.putK (n := n) (t := "one") (Q := Q) (E := E) st (by omega) hn (by omega) (by decide +kernel)
  generalize hlo : lowAt M n = lo at hE hrg hrm put ⊢
  generalize hhi : M[n]? = hi at hE hrg hrm put ⊢
  have hNs : lowN L lo N < pastN L hi N := Nat.not_le.mp fun z => by
    have := below_mono hF (show 0 < L by omega) z
    unfold roomN at hrm
    omega
  repeat walk_at "go1"
  refine ⟨L, 1, lo, hi, rfl, hL, hL2, by omega, hE, hC, fun p hp => ?_⟩
  refine gTupN2 sqT_at ?_
  refine ⟨_, Trim.back (Ex.new (Ex.refl _) hp) hC, ?_⟩
  clear hp
  refine ⟨fun μ σ' H' => ∃ (k : Nat), 1 ≤ k ∧ k ≤ N ∧ (∀ j, 1 ≤ j → j < k → pastN L hi j ≤ lowN L lo j) ∧ μ = N - k ∧ H' = H ∧ σ' = [some (.ref a), some (.int b), some (.int L), some (.ref x), some (.ref tt), some (.ref A), some (.ref C), some (.int n), some (optV lo), some (optV hi), some (.int k), some (.int (lowN L lo k : Nat)), some (.int ((pastN L hi k : Nat) - 1 : Int)), none, none],
    ⟨_, 1, Nat.le_refl _, by omega, fun j h1 h2 => by omega, rfl, rfl, rfl⟩, ?_⟩
  rintro μ σ' H1 ⟨k, hk1, hkN, hkl, rfl, e, rfl⟩
  subst e
  walk_at "go"
  refine iteD (fun c => ?_) fun c => ?_
  · have hkN2 : k < N := by
      rcases Nat.lt_or_eq_of_le hkN with z | z
      · exact z
      · rw [z] at c; omega
    refine ⟨_, fun _ _ z => z, ?_⟩
    repeat walk_at "go1"
    refine ⟨L, k + 1, lo, hi, rfl, hL, hL2, by omega, hE, hC, fun p hp => ?_⟩
    refine gTupN2 sqT_at ?_
    refine ⟨_, Trim.back (Ex.new (Ex.refl _) hp) hC, ?_⟩
    refine ⟨N - (k + 1), by omega, k + 1, by omega, by omega, fun j h1 h2 => ?_, rfl, rfl, rfl⟩
    rcases Nat.lt_succ_iff_lt_or_eq.mp h2 with z | z
    · exact hkl j h1 z
    · rw [z]; omega
  · have hls : LeastS L lo hi k := ⟨hk1, by omega, hkl⟩
    have hj := hls.least hL hE.e
    have hmk := hls.mark hL hE.e
    have hlow := low_pos L lo k
    have hs := hls.some
    have eD : (((lowN L lo k : Nat) : Int) + ((pastN L hi k : Nat) - 1 : Int)) / 2 = (((lowN L lo k + pastN L hi k - 1) / 2 : Nat) : Int) := by omega
    walk_at "go"
    dsimp only
    rw [eD]
    refine meet_fix (fun σ' => σ' = [some (.ref a), some (.int b), some (.int L), some (.ref x), some (.ref tt), some (.ref A), some (.ref C), some (.int n), some (optV lo), some (optV hi), some (.int k), some (.int (lowN L lo k : Nat)), some (.int ((pastN L hi k : Nat) - 1 : Int)), some (.int (if lo.isSome && hi.isNone then lowN L lo k else (lowN L lo k + pastN L hi k - 1) / 2 : Nat)), none]) ?_ ?_
    · walk_at "go"
      cases lo with
      | none =>
        refine iteF ?_
        exact ⟨rfl, rfl⟩
      | some a0 =>
        refine iteT ?_
        walk_at "go"
        cases hi with
        | some b0 =>
          refine iteF ?_
          exact ⟨rfl, rfl⟩
        | none =>
          refine iteT ?_
          walk_at "go"
          rfl
    rintro _ rfl
    refine meet_fix (fun σ' => σ' = [some (.ref a), some (.int b), some (.int L), some (.ref x), some (.ref tt), some (.ref A), some (.ref C), some (.int n), some (optV lo), some (optV hi), some (.int k), some (.int (lowN L lo k : Nat)), some (.int ((pastN L hi k : Nat) - 1 : Int)), some (.int (spanN L lo hi k : Nat)), none]) ?_ ?_
    · walk_at "go"
      cases lo with
      | some a0 =>
        refine iteF ?_
        refine ⟨rfl, ?_⟩
        cases hi with
        | none => rfl
        | some b0 => rfl
      | none =>
        refine iteT ?_
        walk_at "go"
        cases hi with
        | none =>
          refine iteF ?_
          exact ⟨rfl, rfl⟩
        | some b0 =>
          refine iteT ?_
          walk_at "go"
          show _ = [_, _, _, _, _, _, _, _, _, _, _, _, _, some (V.int ((pastN L (some b0) k - 1 : Nat) : Int)), _]
          rw [show ((pastN L (some b0) k - 1 : Nat) : Int) = (pastN L (some b0) k : Int) - 1 by omega]
          rfl
    rintro _ rfl
    repeat walk_at "go1"
    refine ⟨by omega, hL2, by omega, ?_⟩
    rw [← hmk]
    repeat walk_at "go1"
    refine St1.meth st (by decide +kernel) (by decide +kernel) (by decide +kernel) ?_
    repeat walk_at "go1"
    walk_at "n"
    refine put _ _ fun j H2 hj2 st2 hk2 => ?_
    obtain rfl := hj.same hj2
    repeat walk_at "go1"
    generalize betwMk L (ends L 1 0) lo hi k = mk at st2 ⊢
    refine iteNS' (fun c => absurd rfl c) fun _ => ?_
    have hTn : n ≤ Ts.length := by omega
    have hT2 := insL_at (y := ("one" : Str)) hTn
    have hM2 := insL_at (y := mk) hn
    have hTl2 := insL_len (y := ("one" : Str)) hTn
    have hMl2 := insL_len (y := mk) hn
    have hTe := insL_erase (y := ("one" : Str)) hTn
    have hMe := insL_erase (y := mk) hn
    generalize insL Ts n "one" = T2 at st2 hT2 hTl2 hTe ⊢
    generalize insL M n mk = M2 at st2 hM2 hMl2 hMe ⊢
    repeat walk_at "go1"
    refine St1.meth st2 (by decide +kernel) (by decide +kernel) (by decide +kernel) ?_
    repeat walk_at "go1"
    refine ⟨x, lt, lm, L, T2, M2.map txt, rfl, st2.sh, st2.b.clo, fun f hf => ?_⟩
    have hx1 : atI (T2.map V.str) (n : Int) = some (.str "one") := atI_nat (by rw [List.getElem?_map, hT2]; rfl)
    have hsq : SqL K (upd H2 f (.lst (T2.map V.str))) f (T2.map V.str) := sqL_at
    repeat walk_at "go1"
    refine ⟨_, Trim.back (Ex.new (Ex.refl _) hf) st2.b.clo, ?_⟩
    refine iteNS' (fun c => absurd rfl c) fun _ => ?_
    repeat walk_at "go1"
    refine St1.meth st2 (by decide +kernel) (by decide +kernel) (by decide +kernel) ?_
    repeat walk_at "go1"
    refine ⟨x, lt, lm, L, T2, M2.map txt, rfl, st2.sh, st2.b.clo, fun f2 hf2 => ?_⟩
    have hx2 : atI ((M2.map txt).map V.str) (n : Int) = some (.str (txt mk)) := atI_nat (by rw [List.getElem?_map, List.getElem?_map, hM2]; rfl)
    have hsq2 : SqL K (upd H2 f2 (.lst ((M2.map txt).map V.str))) f2 ((M2.map txt).map V.str) := sqL_at
    clear hx1 hsq
    repeat walk_at "go1"
    refine ⟨_, Trim.back (Ex.new (Ex.refl _) hf2) st2.b.clo, ?_⟩
    refine iteNS' (fun c => absurd rfl c) fun _ => ?_
    repeat walk_at "go1"
    refine St1.meth st2 (by decide +kernel) (by decide +kernel) (by decide +kernel) ?_
    repeat walk_at "go1"
    walk_at "n"
    refine St1.takeK (n := n) st2 (by omega) (by omega) fun H3 hm st3 hk3 => ?_
    have e3 : T2[n] = "one" := by
      have := hT2
      rw [List.getElem?_eq_getElem hm] at this
      exact Option.some.inj this
    rw [e3]
    rw [hTe, hMe] at st3
    have hkp := hk2.trans hk3
    repeat walk_at "go1"
    walk_at "n"
    have hok2 : ∀ y ∈ Ts, PyData.strOk y = true := fun y hy => isTh_ok (st.th y hy)
    refine ⟨x, lt, lm, A, C, L, Ts, M, rfl, st3.sh, st3.own 0 rfl rfl, st3.own 1 rfl rfl, by omega, fun x hx => by have := (st.gm.all x hx).2.2; omega, hok2, st.gm.ok hL2, by omega, st3.b.clo, ?_⟩
    exact ⟨_, hkp, q _ st3 hkp⟩
/-! ### law -/

def t_law (K : PySem.W.Frag) (E : XK) : TS :=
  (tSeq (tAsg (tTrimE (tOp (rIxL K) (tLst (tCons (tC (.int 2)) (tCons (tC (.int 3)) (tCons (tC (.int 10)) (tCons (tC (.int 26)) (tCons (tOp rAddI (tC (.int 2)) (tCall (sp_law_draw K) [] E (tCons (tVar 0) (tCons (tC (.int 1)) (tCons (tC (.int 25)) tNil))))) tNil)))))) (tCall (sp_law_draw K) [] E (tCons (tVar 0) (tCons (tC (.int 0)) (tCons (tC (.int 5)) tNil)))))) (gName 1))
    (tSeq (tAsg (tMake (He.ga K "Shelf") (sp_Shelf___init__ K) [] E (tCons (tVar 1) tNil)) (gName 2))
    (tSeq (tAsg (tTrimE (tTup (tCons (tLst tNil) (tCons (tLst tNil) tNil)))) (gName 3))
    (tMeet (tIfS (tTest (tOp rEq (tCall (sp_law_draw K) [] E (tCons (tVar 0) (tCons (tC (.int 2)) (tCons (tC (.int 2)) tNil)))) (tC (.int 0))))
    (tSeq (tDrop (tBM K "list" rAppend (tOp (rIxT K) (tVar 3) (tC (.int 1))) (tCons (tMeth (He.ga K "Shelf") "put" (sp_Shelf_put K) [] E (tVar 2) (tCons (tC (.int 0)) (tCons (tC (.str "first")) tNil))) tNil)))
    (tDrop (tBM K "list" rAppend (tOp (rIxT K) (tVar 3) (tC (.int 0))) (tCons (tC (.str "first")) tNil))))
    tNext)
    (tSeq (tIfS (tNot (tB (tCall (sp_law_row_right K) [] E (tCons (tVar 0) (tCons (tC (.int 10)) (tCons (tVar 1) (tCons (tVar 2) (tCons (tVar 3) (tCons (tOp rAddI (tC (.int 100)) (tCall (sp_law_draw K) [] E (tCons (tVar 0) (tCons (tC (.int 3)) (tCons (tC (.int 100)) tNil))))) tNil)))))))))
    (tRet (tC (.bl false)))
    tNext)
    (tSeq (tIfS (tNot (tB (tCall (sp_law_single_right K) [] E (tCons (tVar 0) (tCons (tC (.int 40)) (tCons (tVar 1) (tCons (tVar 2) (tCons (tVar 3) tNil))))))))
    (tRet (tC (.bl false)))
    tNext)
    (tSeq (tAsg (tCB (rLenQ K) (tCons (tOp (rIxT K) (tVar 3) (tC (.int 0))) tNil)) (gName 4))
    (tSeq (tAsg (tCB rMax2 (tCons (tC (.int 1)) (tCons (tOp rSubI (tC (.int 200)) (tVar 4)) tNil))) (gName 5))
    (tSeq (tIfS (tNot (tB (tCall (sp_law_row_right K) [] E (tCons (tVar 0) (tCons (tC (.int 50)) (tCons (tVar 1) (tCons (tVar 2) (tCons (tVar 3) (tCons (tOp rAddI (tVar 5) (tCall (sp_law_draw K) [] E (tCons (tVar 0) (tCons (tC (.int 4)) (tCons (tOp rSubI (tOp rSubI (tC (.int 301)) (tVar 4)) (tVar 5)) tNil))))) tNil)))))))))
    (tRet (tC (.bl false)))
    tNext)
    (tSeq (tIfS (tNot (tB (tCall (sp_law_renewal_right K) [] E (tCons (tVar 0) (tCons (tC (.int 80)) (tCons (tVar 1) (tCons (tVar 2) (tCons (tVar 3) tNil))))))))
    (tRet (tC (.bl false)))
    tNext)
    (tRet (tOrV (tOp rEq (tCB (rLenQ K) (tCons (tOp (rIxT K) (tVar 3) (tC (.int 0))) tNil)) (tC (.int 300))) (tCall (sp_law_single_right K) [] E (tCons (tVar 0) (tCons (tC (.int 100)) (tCons (tVar 1) (tCons (tVar 2) (tCons (tVar 3) tNil))))))))))))))))))
theorem len_law {K : PySem.W.Frag} (vs : List V) (H : Hp) (Q : VK) (E : XK) : sp_law K vs H Q E → vs.length = (["script"] : List Str).length := by
  walk_at "len"

theorem pure_law {K : PySem.W.Frag} (T : Kx K) (vs : List V) (H : Hp) (Q : VK) (E : XK) (h : sp_law K vs H Q E) : t_law K E { nx := fun _ H' => Q .non H', rt := Q } (start ["script", "letters", "shelf", "kept", "there", "least"] vs) H := by
  obtain ⟨a, ns, rfl, hS, hl, hO, q⟩ := h
  have hC := clo_only hO
  have b0 := Box.nil hC
  repeat walk_at "go1"
  walk_at "draw"
  intro d1 d10 d11
  repeat walk_at "go1"
  refine ⟨by rw [sz]; show 5 ≤ _; omega, fun p1 hp1 => ?_⟩
  repeat walk_at "go1"
  refine ⟨_, _, _, _, rfl, sqL_new hS hp1, hl, (by omega), (by omega), (by omega), (by omega), ?_⟩
  intro d2 d20 d21
  obtain ⟨_, hat, L, rfl, hL, hL2⟩ := pick (xs := [.int 2, .int 3, .int 10, .int 26, .int (2 + d1)]) (NatIn 2 26) d20 (by simpa using d21)
    (all1 (natIn (by omega) (by omega)) (all1 (natIn (by omega) (by omega)) (all1 (natIn (by omega) (by omega)) (all1 (natIn (by omega) (by omega)) (all1 (natIn (by omega) (by omega)) all0)))))
  refine ⟨_, _, _, _, rfl, rfl, sqL_at, hat, ?_⟩
  refine ⟨_, Trim.back (Ex.new (Ex.refl _) hp1) hC, ?_⟩
  clear hat hp1
  repeat walk_at "go1"
  intro x dx nx ndx nd
  refine sp_make (K := K) (B := 0) b0 rfl hL hL2 nx ndx nd fun lt lm H1 ex1 st => ?_
  refine ⟨Nat.zero_le _, fun A hA => ?_⟩
  have st := st.add (c := []) rfl hA (Ex.new (Ex.refl _) hA) upd_same (clo_new st.b.clo hA rfl)
  have exA := Ex.new (o := .lst []) (Ex.refl H1) hA
  generalize upd H1 A (.lst []) = H2 at st exA ⊢
  refine ⟨Nat.zero_le _, fun C hCn => ?_⟩
  have st := st.add (c := []) rfl hCn (Ex.new (Ex.refl _) hCn) upd_same (clo_new st.b.clo hCn rfl)
  have exC := Ex.new (o := .lst []) exA (exA.back hCn)
  generalize upd H2 C (.lst []) = H3 at st exC ⊢
  refine ⟨by rw [sz]; show 2 ≤ _; omega, fun tt htt => ?_⟩
  have st := st.ext (Ex.new (o := .tup [.ref A, .ref C]) (Ex.refl _) htt) (clo_new st.b.clo htt rfl)
  have ht4 : (upd H3 tt (.tup [.ref A, .ref C])) tt = some (.tup [.ref A, .ref C]) := upd_same
  have exT := Ex.new (o := .tup [.ref A, .ref C]) exC (exC.back htt)
  generalize upd H3 tt (.tup [.ref A, .ref C]) = H4 at st ht4 exT ⊢
  have st : St1 K H H4 L x lt lm [A, C] [strV [], mkV []] 0 [] [] := st
  refine ⟨_, Trim.all exT st.b.clo, ?_⟩
  clear exT exC exA htt hCn hA ex1 nx ndx nd
  have at1 : atI [V.ref A, .ref C] 1 = some (.ref C) := rfl
  have at0 : atI [V.ref A, .ref C] 0 = some (.ref A) := rfl
  have grow : ∀ (H H' : Hp), Kp H H' → H tt = some (.tup [.ref A, .ref C]) → H' tt = some (.tup [.ref A, .ref C]) := fun H H' k e => k.tup _ _ e
  refine ⟨fun σ1 H5 => ∃ T M, St1 K H H5 L x lt lm [A, C] [strV T, mkV M] 1 T M ∧ T.length ≤ 1 ∧ H5 tt = some (.tup [.ref A, .ref C]) ∧ σ1 = [some (.ref a), some (.int L), some (.ref x), some (.ref tt), none, none], ?_, ?_⟩
  · have hSa := sqL_ex hS st.b.ex
    have hSt : SqT K H4 tt [.ref A, .ref C] := tup_sq ht4
    repeat walk_at "go1"
    refine ⟨_, _, _, _, rfl, hSa, hl, (by omega), (by omega), (by omega), (by omega), ?_⟩
    intro d3 d30 d31
    repeat walk_at "go1"
    refine iteEI (fun c => ?_) fun c => ?_
    · repeat walk_at "go1"
      refine ⟨_, _, _, _, rfl, rfl, hSt, at1, ?_⟩
      refine ⟨tyV_list (st.own 1 rfl rfl), ?_⟩
      repeat walk_at "go1"
      refine St1.meth st (by decide +kernel) (by decide +kernel) (by decide +kernel) ?_
      repeat walk_at "go1"
      walk_at "n"
      refine St1.putK (n := 0) (t := "first") st (by omega) (by decide) (by decide) (by decide +kernel) fun j H5 hj st5 kp5 => ?_
      generalize betwMk L (ends L 1 0) (lowAt [] 0) [][0]? j = mk at st5 ⊢
      have hC5 := st5.own 1 rfl rfl
      refine app_to hC5 (by rw [sz]; show 0 < _; omega) ?_
      have st6 := st5.set (y := mkV [mk]) 1 rfl rfl
      have ht6 := grow _ _ (kp5.trans (Kp.set (o := .lst (mkV [mk])) st5.b.clo hC5 rfl)) ht4
      show (fun _ H => _) _ (upd H5 C (.lst (mkV [mk])))
      generalize upd H5 C (.lst (mkV [mk])) = H6 at st6 ht6 ⊢
      have hSt6 : SqT K H6 tt [.ref A, .ref C] := tup_sq ht6
      have hA6 := st6.own 0 rfl rfl
      repeat walk_at "go1"
      refine ⟨_, _, _, _, rfl, rfl, hSt6, at0, ?_⟩
      refine ⟨tyV_list hA6, ?_⟩
      walk_at "b"
      refine app_to hA6 (by rw [sz]; show 0 < _; omega) ?_
      have st7 := st6.set (y := strV ["first"]) 0 rfl rfl
      have ht7 := grow _ _ (Kp.set (o := .lst (strV ["first"])) st6.b.clo hA6 rfl) ht6
      exact ⟨["first"], [mk], st7, by decide, ht7, rfl⟩
    · exact ⟨[], [], st.mono (by omega), by decide, ht4, rfl⟩
  rintro σ1 H5 ⟨T5, M5, st5, hT5, ht5, rfl⟩
  have hSa := sqL_ex hS st5.b.ex
  repeat walk_at "go1"
  refine ⟨_, _, _, _, rfl, hSa, hl, (by omega), (by omega), (by omega), (by omega), ?_⟩
  intro d4 d40 d41
  obtain ⟨m4, rfl⟩ := Int.eq_ofNat_of_zero_le d40
  repeat walk_at "go1"
  walk_at "n"
  rw [show (100 : Int) + (m4 : Int) = ((100 + m4 : Nat) : Int) by omega]
  refine ⟨H, a, x, lt, lm, A, C, tt, ns, 10, 100 + m4, L, 1, T5, M5, rfl, hS, hl, by omega, st5, ht5, by omega, by omega, by omega, fun nt nm T6 M6 H6 st6 hT6 kp6 => ?_⟩
  have ht6 := grow _ _ kp6 ht5
  refine ⟨_, rfl, ?_⟩
  refine iteF ?_
  repeat walk_at "go1"
  walk_at "n"
  refine ⟨H, a, x, nt, nm, A, C, tt, ns, 40, L, 1 + 10, T6, M6, rfl, hS, hl, by omega, st6, ht6, by omega, by omega, fun H7 st7 kp7 => ?_⟩
  have ht7 := grow _ _ kp7 ht6
  refine ⟨_, rfl, ?_⟩
  refine iteF ?_
  clear hSa
  have hSa := sqL_ex hS st7.b.ex
  have hSt7 : SqT K H7 tt [.ref A, .ref C] := tup_sq ht7
  have hSA7 : SqL K H7 A (strV T6) := .inl (.inl (st7.own 0 rfl rfl))
  have eT6 : (strV T6).length = T6.length := List.length_map _
  repeat walk_at "go1"
  refine ⟨_, _, _, _, rfl, rfl, hSt7, at0, ?_⟩
  repeat walk_at "go1"
  rw [eT6]
  repeat walk_at "go1"
  obtain ⟨w, hw, hw1, hw2, hw3⟩ : ∃ w : Nat, (if (200 : Int) - (T6.length : Int) > 1 then (200 : Int) - (T6.length : Int) else 1) = (w : Int) ∧ 1 ≤ w ∧ w + T6.length ≤ 300 ∧ w ≤ 200 := by
    by_cases c : (200 : Int) - (T6.length : Int) > 1
    · refine ⟨200 - T6.length, ?_, by omega, by omega, by omega⟩
      rw [if_pos c]; omega
    · refine ⟨1, ?_, by omega, by omega, by omega⟩
      rw [if_neg c]; rfl
  rw [hw]
  repeat walk_at "go1"
  refine ⟨_, _, _, _, rfl, hSa, hl, (by omega), (by omega), (by omega), (by omega), ?_⟩
  intro d5 d50 d51
  obtain ⟨m5, rfl⟩ := Int.eq_ofNat_of_zero_le d50
  repeat walk_at "go1"
  walk_at "n"
  rw [show (w : Int) + (m5 : Int) = ((w + m5 : Nat) : Int) by omega]
  refine ⟨H, a, x, nt, nm, A, C, tt, ns, 50, w + m5, L, 1 + 10 + 1, T6, M6, rfl, hS, hl, by omega, st7, ht7, by omega, by omega, by omega, fun nt8 nm8 T8 M8 H8 st8 hT8 kp8 => ?_⟩
  have ht8 := grow _ _ kp8 ht7
  refine ⟨_, rfl, ?_⟩
  refine iteF ?_
  repeat walk_at "go1"
  walk_at "n"
  refine ⟨H, a, x, nt8, nm8, A, C, tt, ns, 80, L, 1 + 10 + 1 + 10, T8, M8, rfl, hS, hl, by omega, st8, ht8, by omega, by omega, by omega, fun nm9 M9 H9 st9 kp9 => ?_⟩
  have ht9 := grow _ _ kp9 ht8
  refine ⟨_, rfl, ?_⟩
  refine iteF ?_
  have hSt9 : SqT K H9 tt [.ref A, .ref C] := tup_sq ht9
  have hSA9 : SqL K H9 A (strV T8) := .inl (.inl (st9.own 0 rfl rfl))
  have eT8 : (strV T8).length = T8.length := List.length_map _
  clear hSA7
  repeat walk_at "go1"
  refine ⟨_, _, _, _, rfl, rfl, hSt9, at0, ?_⟩
  repeat walk_at "go1"
  rw [eT8]
  refine iteEI (fun c => q _) fun c => ?_
  repeat walk_at "go1"
  walk_at "n"
  exact ⟨H, a, x, nt8, nm9, A, C, tt, ns, 100, L, 1 + 10 + 1 + 10 + 300, T8, M9, rfl, hS, hl, by omega, st9, ht9, by omega, by omega, fun H10 _ _ => q _⟩
end Sm
namespace Sm
open PySem PySem.Spec PyProof.Rows L2
def top (i : Nat) : Stmt := PySem.Challenge.pw_shelfmark_k34_long_rows_and_renewals.main.body.getD i (.Pass ⟨0, 0, 0, 0⟩)
abbrev s_ask_letters : Stmt := top 8
theorem sc_ask_letters : FnScope ["letters", "hands"] ["letters", "hands"] (defScope s_ask_letters) := ⟨rfl, rfl, rfl, by decide +kernel, rfl, by decide +kernel, by decide +kernel⟩
abbrev s_whole_of : Stmt := top 9
theorem sc_whole_of : FnScope ["letters", "mark", "long", "whole", "k"] ["letters", "mark", "long"] (defScope s_whole_of) := ⟨rfl, rfl, rfl, by decide +kernel, rfl, by decide +kernel, by decide +kernel⟩
abbrev s_mark_of : Stmt := top 10
theorem sc_mark_of : FnScope ["letters", "number", "long", "signs", "k", "rest"] ["letters", "number", "long"] (defScope s_mark_of) := ⟨rfl, rfl, rfl, by decide +kernel, rfl, by decide +kernel, by decide +kernel⟩
abbrev s_ends_of : Stmt := top 12
theorem sc_ends_of : FnScope ["letters", "hands", "hand", "k"] ["letters", "hands", "hand"] (defScope s_ends_of) := ⟨rfl, rfl, rfl, by decide +kernel, rfl, by decide +kernel, by decide +kernel⟩
abbrev s_numbers_between : Stmt := top 13
theorem sc_numbers_between : FnScope ["letters", "low", "high", "long", "least", "most", "k"] ["letters", "low", "high", "long"] (defScope s_numbers_between) := ⟨rfl, rfl, rfl, by decide +kernel, rfl, by decide +kernel, by decide +kernel⟩
abbrev s_figures_of : Stmt := top 14
theorem sc_figures_of : FnScope ["letters", "hands", "hand", "sign"] ["letters", "hands", "hand"] (defScope s_figures_of) := ⟨rfl, rfl, rfl, by decide +kernel, rfl, by decide +kernel, by decide +kernel⟩
abbrev s_many_below : Stmt := top 15
theorem sc_many_below : FnScope ["letters", "figures", "number", "rounds", "rest", "one"] ["letters", "figures", "number"] (defScope s_many_below) := ⟨rfl, rfl, rfl, by decide +kernel, rfl, by decide +kernel, by decide +kernel⟩
abbrev s_room_at : Stmt := top 16
theorem sc_room_at : FnScope ["letters", "hands", "hand", "low", "high", "long", "least", "most", "figures"] ["letters", "hands", "hand", "low", "high", "long"] (defScope s_room_at) := ⟨rfl, rfl, rfl, by decide +kernel, rfl, by decide +kernel, by decide +kernel⟩
abbrev s_nth_mark : Stmt := top 17
theorem sc_nth_mark : FnScope ["letters", "hands", "hand", "low", "high", "long", "number", "least", "figures", "rounds", "rest"] ["letters", "hands", "hand", "low", "high", "long", "number"] (defScope s_nth_mark) := ⟨rfl, rfl, rfl, by decide +kernel, rfl, by decide +kernel, by decide +kernel⟩
abbrev s_least_long : Stmt := top 19
theorem sc_least_long : FnScope ["letters", "hands", "hand", "low", "high", "many", "long"] ["letters", "hands", "hand", "low", "high", "many"] (defScope s_least_long) := ⟨rfl, rfl, rfl, by decide +kernel, rfl, by decide +kernel, by decide +kernel⟩
abbrev s_mark_between : Stmt := top 20
theorem sc_mark_between : FnScope ["letters", "hands", "hand", "low", "high", "long", "many", "number"] ["letters", "hands", "hand", "low", "high"] (defScope s_mark_between) := ⟨rfl, rfl, rfl, by decide +kernel, rfl, by decide +kernel, by decide +kernel⟩
abbrev s_run_between : Stmt := top 22
theorem sc_run_between : FnScope ["letters", "hands", "hand", "low", "high", "many", "long", "room", "marks", "k", "number"] ["letters", "hands", "hand", "low", "high", "many"] (defScope s_run_between) := ⟨rfl, rfl, rfl, by decide +kernel, rfl, by decide +kernel, by decide +kernel⟩
abbrev s_renewed_long : Stmt := top 23
theorem sc_renewed_long : FnScope ["letters", "many", "long", "count"] ["letters", "many"] (defScope s_renewed_long) := ⟨rfl, rfl, rfl, by decide +kernel, rfl, by decide +kernel, by decide +kernel⟩
abbrev s_renewed : Stmt := top 24
theorem sc_renewed : FnScope ["letters", "many", "long", "count", "k"] ["letters", "many"] (defScope s_renewed) := ⟨rfl, rfl, rfl, by decide +kernel, rfl, by decide +kernel, by decide +kernel⟩
abbrev s_is_thing : Stmt := top 29
theorem sc_is_thing : FnScope ["text", "sign"] ["text"] (defScope s_is_thing) := ⟨rfl, rfl, rfl, by decide +kernel, rfl, by decide +kernel, by decide +kernel⟩
abbrev s_Shelf___init__ : Stmt := inClass (top 30) 0
theorem sc_Shelf___init__ : FnScope ["self", "letters"] ["self", "letters"] (defScope s_Shelf___init__) := ⟨rfl, rfl, rfl, by decide +kernel, rfl, by decide +kernel, by decide +kernel⟩
abbrev s_Shelf_ask_put : Stmt := inClass (top 30) 1
theorem sc_Shelf_ask_put : FnScope ["self", "place", "some", "thing"] ["self", "place", "some"] (defScope s_Shelf_ask_put) := ⟨rfl, rfl, rfl, by decide +kernel, rfl, by decide +kernel, by decide +kernel⟩
abbrev s_Shelf_marks_round : Stmt := inClass (top 30) 2
theorem sc_Shelf_marks_round : FnScope ["self", "place", "low", "high"] ["self", "place"] (defScope s_Shelf_marks_round) := ⟨rfl, rfl, rfl, by decide +kernel, rfl, by decide +kernel, by decide +kernel⟩
abbrev s_Shelf_put : Stmt := inClass (top 30) 3
theorem sc_Shelf_put : FnScope ["self", "place", "thing", "low", "high", "mark"] ["self", "place", "thing"] (defScope s_Shelf_put) := ⟨rfl, rfl, rfl, by decide +kernel, rfl, by decide +kernel, by decide +kernel⟩
abbrev s_Shelf_put_row : Stmt := inClass (top 30) 4
theorem sc_Shelf_put_row : FnScope ["self", "place", "some", "low", "high", "fresh"] ["self", "place", "some"] (defScope s_Shelf_put_row) := ⟨rfl, rfl, rfl, by decide +kernel, rfl, by decide +kernel, by decide +kernel⟩
abbrev s_Shelf_take : Stmt := inClass (top 30) 5
theorem sc_Shelf_take : FnScope ["self", "place"] ["self", "place"] (defScope s_Shelf_take) := ⟨rfl, rfl, rfl, by decide +kernel, rfl, by decide +kernel, by decide +kernel⟩
abbrev s_Shelf_renew : Stmt := inClass (top 30) 6
theorem sc_Shelf_renew : FnScope ["self"] ["self"] (defScope s_Shelf_renew) := ⟨rfl, rfl, rfl, by decide +kernel, rfl, by decide +kernel, by decide +kernel⟩
abbrev s_Shelf_marks : Stmt := inClass (top 30) 7
theorem sc_Shelf_marks : FnScope ["self"] ["self"] (defScope s_Shelf_marks) := ⟨rfl, rfl, rfl, by decide +kernel, rfl, by decide +kernel, by decide +kernel⟩
abbrev s_Shelf_things : Stmt := inClass (top 30) 8
theorem sc_Shelf_things : FnScope ["self"] ["self"] (defScope s_Shelf_things) := ⟨rfl, rfl, rfl, by decide +kernel, rfl, by decide +kernel, by decide +kernel⟩
abbrev s_Shelf_longest : Stmt := inClass (top 30) 9
theorem sc_Shelf_longest : FnScope ["self", "mark"] ["self"] (defScope s_Shelf_longest) := ⟨rfl, rfl, rfl, by decide +kernel, rfl, by decide +kernel, by decide +kernel⟩
abbrev s_law_draw : Stmt := top 32
theorem sc_law_draw : FnScope ["script", "k", "many", "cell", "seed"] ["script", "k", "many"] (defScope s_law_draw) := ⟨rfl, rfl, rfl, by decide +kernel, rfl, by decide +kernel, by decide +kernel⟩
abbrev s_law_whole : Stmt := top 33
theorem sc_law_whole : FnScope ["letters", "mark", "long", "whole", "k"] ["letters", "mark", "long"] (defScope s_law_whole) := ⟨rfl, rfl, rfl, by decide +kernel, rfl, by decide +kernel, by decide +kernel⟩
abbrev s_law_text : Stmt := top 34
theorem sc_law_text : FnScope ["letters", "number", "long", "text", "k"] ["letters", "number", "long"] (defScope s_law_text) := ⟨rfl, rfl, rfl, by decide +kernel, rfl, by decide +kernel, by decide +kernel⟩
abbrev s_law_span : Stmt := top 35
theorem sc_law_span : FnScope ["letters", "low", "high", "long", "least", "power", "k", "most"] ["letters", "low", "high", "long"] (defScope s_law_span) := ⟨rfl, rfl, rfl, by decide +kernel, rfl, by decide +kernel, by decide +kernel⟩
abbrev s_law_run : Stmt := top 36
theorem sc_law_run : FnScope ["letters", "low", "high", "many", "spots", "long", "room", "below", "least", "most", "found", "k", "count", "number"] ["letters", "low", "high", "many", "spots"] (defScope s_law_run) := ⟨rfl, rfl, rfl, by decide +kernel, rfl, by decide +kernel, by decide +kernel⟩
abbrev s_law_renewed : Stmt := top 37
theorem sc_law_renewed : FnScope ["letters", "many", "spots", "long", "count", "k"] ["letters", "many", "spots"] (defScope s_law_renewed) := ⟨rfl, rfl, rfl, by decide +kernel, rfl, by decide +kernel, by decide +kernel⟩
abbrev s_law_spots : Stmt := top 38
theorem sc_law_spots : FnScope ["script", "base", "many", "k"] ["script", "base", "many"] (defScope s_law_spots) := ⟨rfl, rfl, rfl, by decide +kernel, rfl, by decide +kernel, by decide +kernel⟩
abbrev s_law_round : Stmt := top 39
theorem sc_law_round : FnScope ["marks", "place", "low"] ["marks", "place"] (defScope s_law_round) := ⟨rfl, rfl, rfl, by decide +kernel, rfl, by decide +kernel, by decide +kernel⟩
abbrev s_law_shown : Stmt := top 40
theorem sc_law_shown : FnScope ["shelf", "things", "marks", "turn", "told", "mark"] ["shelf", "things", "marks"] (defScope s_law_shown) := ⟨rfl, rfl, rfl, by decide +kernel, rfl, by decide +kernel, by decide +kernel⟩
abbrev s_law_row_right : Stmt := top 41
theorem sc_law_row_right : FnScope ["script", "base", "letters", "shelf", "kept", "many", "things", "marks", "place", "row", "k", "bad", "odd", "refused", "e", "spots", "low", "high", "due", "long", "found", "mark"] ["script", "base", "letters", "shelf", "kept", "many"] (defScope s_law_row_right) := ⟨rfl, rfl, rfl, by decide +kernel, rfl, by decide +kernel, by decide +kernel⟩
abbrev s_law_renewal_right : Stmt := top 42
theorem sc_law_renewal_right : FnScope ["script", "base", "letters", "shelf", "kept", "things", "marks", "spots", "due", "long", "turn", "found", "k", "mark"] ["script", "base", "letters", "shelf", "kept"] (defScope s_law_renewal_right) := ⟨rfl, rfl, rfl, by decide +kernel, rfl, by decide +kernel, by decide +kernel⟩
abbrev s_law_single_right : Stmt := top 43
theorem sc_law_single_right : FnScope ["script", "base", "letters", "shelf", "kept", "things", "marks", "place", "low", "high", "long", "least", "most", "number", "due"] ["script", "base", "letters", "shelf", "kept"] (defScope s_law_single_right) := ⟨rfl, rfl, rfl, by decide +kernel, rfl, by decide +kernel, by decide +kernel⟩
abbrev s_law : Stmt := top 44
theorem sc_law : FnScope ["script", "letters", "shelf", "kept", "there", "least"] ["script"] (defScope s_law) := ⟨rfl, rfl, rfl, by decide +kernel, rfl, by decide +kernel, by decide +kernel⟩
structure Tx (K : PySem.W.Frag) (mg : Str → Option Value) : Prop where
  n_divmod : mg "divmod" = none
  n_int : mg "int" = none
  n_isinstance : mg "isinstance" = none
  n_len : mg "len" = none
  n_list : mg "list" = none
  n_max : mg "max" = none
  n_range : mg "range" = none
  n_set : mg "set" = none
  n_sorted : mg "sorted" = none
  g_LETTERS : ∃ t, mg "LETTERS" = some (.str "abcdefghijklmnopqrstuvwxyz" t)
  g_LONGEST_THING : ∃ t, mg "LONGEST_THING" = some (.int 12 t)
  g_MOST_THINGS : ∃ t, mg "MOST_THINGS" = some (.int 300 t)
  g_SIGNS : ∃ t, mg "SIGNS" = some (.str "abcdefghijklmnopqrstuvwxyz0123456789" t)
  x_NoLetters : PySem.W.excIn K (He.ga K "NoLetters") He.veBase "ValueError.__new__" = true
  k_NoLetters : PySem.W.keepIn K (.ref (He.ga K "NoLetters")) = true
  b_NoLetters : PySem.W.subIn K (.ref (He.ga K "NoLetters")) (.type "BaseException") = some true
  t_NoLetters : PySem.W.typeIn K (.ref (He.ga K "NoLetters")) = some (.type "type")
  x_NoPlace : PySem.W.excIn K (He.ga K "NoPlace") He.veBase "ValueError.__new__" = true
  k_NoPlace : PySem.W.keepIn K (.ref (He.ga K "NoPlace")) = true
  b_NoPlace : PySem.W.subIn K (.ref (He.ga K "NoPlace")) (.type "BaseException") = some true
  t_NoPlace : PySem.W.typeIn K (.ref (He.ga K "NoPlace")) = some (.type "type")
  x_NoRoom : PySem.W.excIn K (He.ga K "NoRoom") He.veBase "ValueError.__new__" = true
  k_NoRoom : PySem.W.keepIn K (.ref (He.ga K "NoRoom")) = true
  b_NoRoom : PySem.W.subIn K (.ref (He.ga K "NoRoom")) (.type "BaseException") = some true
  t_NoRoom : PySem.W.typeIn K (.ref (He.ga K "NoRoom")) = some (.type "type")
  x_NoThing : PySem.W.excIn K (He.ga K "NoThing") He.veBase "ValueError.__new__" = true
  k_NoThing : PySem.W.keepIn K (.ref (He.ga K "NoThing")) = true
  b_NoThing : PySem.W.subIn K (.ref (He.ga K "NoThing")) (.type "BaseException") = some true
  t_NoThing : PySem.W.typeIn K (.ref (He.ga K "NoThing")) = some (.type "type")
  g_NoLetters : mg "NoLetters" = some (.ref (He.ga K "NoLetters"))
  g_NoPlace : mg "NoPlace" = some (.ref (He.ga K "NoPlace"))
  g_NoRoom : mg "NoRoom" = some (.ref (He.ga K "NoRoom"))
  g_NoThing : mg "NoThing" = some (.ref (He.ga K "NoThing"))
  g_Shelf : mg "Shelf" = some (.ref (He.ga K "Shelf"))
  kx : Kx K
section
variable {P : Program} {w : World} {K : PySem.W.Frag} {mg : Str → Option Value} {base : Heap}
theorem ok_ask_letters {f : Addr} {fd : FuncData} (F : FunD K "ask_letters" "ask_letters" (defArgs s_ask_letters) (defBody s_ask_letters) (defScope s_ask_letters) [] [] f fd) (T : Tx K mg) : FnOk P w K mg base (L2.CX P w) 1 f fd ["letters", "hands"] (sp_ask_letters K) := by
  refine F.ok sc_ask_letters len_ask_letters (fun cdv A outer s H vs Q E hr h => ⟨t_ask_letters K E, ?_, pure_ask_letters T.kx vs H Q E h⟩)
  have nd := sc_ask_letters.nd
  have hu := hu_of hr
  have htk : Takes (cxOf (L2.CX P w) P w K mg base ["letters", "hands"] "ask_letters" (defScope s_ask_letters) f cdv A outer s H E) (fun c d _ H => E c d H) := takes_of rfl rfl rfl rfl
  have hpx : Passes (L2.CX P w) (cxOf (L2.CX P w) P w K mg base ["letters", "hands"] "ask_letters" (defScope s_ask_letters) f cdv A outer s H E) E := passes_call htk fun _ _ _ _ z => z
  have hps : PassesOwn (model P w) (A.deeper (envOfC "ask_letters" (defScope s_ask_letters) s.heap.objs.size f cdv)) (envOfC "ask_letters" (defScope s_ask_letters) s.heap.objs.size f cdv) (cxOf (L2.CX P w) P w K mg base ["letters", "hands"] "ask_letters" (defScope s_ask_letters) f cdv A outer s H E).xe := passes_of (X := cxOf (L2.CX P w) P w K mg base ["letters", "hands"] "ask_letters" (defScope s_ask_letters) f cdv A outer s H E) rfl
  exact (pss_one (ps_if (PW.pt (pw_or (pt_cmpR op_lt (pv 0) pe_int (nomark _)) (pw_or (pt_cmpR op_gt (pv 0) (pe_callB call_len_str (by rfl) T.n_len (by decide +kernel) (pa_cons (pe_glob (by rfl) T.g_LETTERS.choose_spec ⟨_, rfl⟩) pa_nil)) (nomark _)) (pw_or (pt_cmpR op_lt (pv 1) pe_int (nomark _)) (pw_or1 (pt_cmpR op_ge (pv 1) (pv 0) (nomark _)))))))
    (pss_one (ps_raise rfl htk (pmk_own PySem.F.excBase_ValueError T.x_NoLetters T.g_NoLetters T.k_NoLetters (raises_own T.b_NoLetters T.t_NoLetters) rfl)))
    pss_nil))
theorem ok_whole_of {f : Addr} {fd : FuncData} (F : FunD K "whole_of" "whole_of" (defArgs s_whole_of) (defBody s_whole_of) (defScope s_whole_of) [] [] f fd) (T : Tx K mg) : FnOk P w K mg base (L2.CX P w) 1 f fd ["letters", "mark", "long"] (sp_whole_of K) := by
  refine F.ok sc_whole_of len_whole_of (fun cdv A outer s H vs Q E hr h => ⟨t_whole_of K E, ?_, pure_whole_of T.kx vs H Q E h⟩)
  have nd := sc_whole_of.nd
  have hu := hu_of hr
  have htk : Takes (cxOf (L2.CX P w) P w K mg base ["letters", "mark", "long", "whole", "k"] "whole_of" (defScope s_whole_of) f cdv A outer s H E) (fun c d _ H => E c d H) := takes_of rfl rfl rfl rfl
  have hpx : Passes (L2.CX P w) (cxOf (L2.CX P w) P w K mg base ["letters", "mark", "long", "whole", "k"] "whole_of" (defScope s_whole_of) f cdv A outer s H E) E := passes_call htk fun _ _ _ _ z => z
  have hps : PassesOwn (model P w) (A.deeper (envOfC "whole_of" (defScope s_whole_of) s.heap.objs.size f cdv)) (envOfC "whole_of" (defScope s_whole_of) s.heap.objs.size f cdv) (cxOf (L2.CX P w) P w K mg base ["letters", "mark", "long", "whole", "k"] "whole_of" (defScope s_whole_of) f cdv A outer s H E).xe := passes_of (X := cxOf (L2.CX P w) P w K mg base ["letters", "mark", "long", "whole", "k"] "whole_of" (defScope s_whole_of) f cdv A outer s H E) rfl
  exact (pss_cons (ps_set (i := 3) nd rfl (by first | exact Or.inl rfl | exact Or.inr rfl) pe_int)
    (pss_cons (ps_for hps rfl (pi_range1 (by rfl) T.n_range (pa_cons (pv 2) pa_nil)) (pg_name (i := 4) nd rfl (by first | exact Or.inl rfl | exact Or.inr rfl))
    (pss_cons (ps_set (i := 3) nd rfl (by first | exact Or.inl rfl | exact Or.inr rfl) (pe_op op_mulW (pv 3) (pv 0)))
    (pss_one (ps_if (pt_cmpR op_lt (pv 4) (pe_callB call_len_str (by rfl) T.n_len (by decide +kernel) (pa_cons (pv 1) pa_nil)) (nomark _))
    (pss_one (ps_set (i := 3) nd rfl (by first | exact Or.inl rfl | exact Or.inr rfl) (pe_op op_add (pv 3) (pe_bmS PySem.F.plainAttrs_str PySem.F.slot_str_index PySem.F.type_str_index (mt_indexS rfl) (pe_glob (by rfl) T.g_LETTERS.choose_spec ⟨_, rfl⟩) (pa_cons (pe_ix ix_str (pv 1) (pv 4) (fun _ _ => rfl)) pa_nil)))))
    pss_nil))))
    (pss_one (ps_ret (pv 3)))))
theorem ok_mark_of {f : Addr} {fd : FuncData} (F : FunD K "mark_of" "mark_of" (defArgs s_mark_of) (defBody s_mark_of) (defScope s_mark_of) [] [] f fd) (T : Tx K mg) : FnOk P w K mg base (L2.CX P w) 1 f fd ["letters", "number", "long"] (sp_mark_of K) := by
  refine F.ok sc_mark_of len_mark_of (fun cdv A outer s H vs Q E hr h => ⟨t_mark_of K E, ?_, pure_mark_of T.kx vs H Q E h⟩)
  have nd := sc_mark_of.nd
  have hu := hu_of hr
  have htk : Takes (cxOf (L2.CX P w) P w K mg base ["letters", "number", "long", "signs", "k", "rest"] "mark_of" (defScope s_mark_of) f cdv A outer s H E) (fun c d _ H => E c d H) := takes_of rfl rfl rfl rfl
  have hpx : Passes (L2.CX P w) (cxOf (L2.CX P w) P w K mg base ["letters", "number", "long", "signs", "k", "rest"] "mark_of" (defScope s_mark_of) f cdv A outer s H E) E := passes_call htk fun _ _ _ _ z => z
  have hps : PassesOwn (model P w) (A.deeper (envOfC "mark_of" (defScope s_mark_of) s.heap.objs.size f cdv)) (envOfC "mark_of" (defScope s_mark_of) s.heap.objs.size f cdv) (cxOf (L2.CX P w) P w K mg base ["letters", "number", "long", "signs", "k", "rest"] "mark_of" (defScope s_mark_of) f cdv A outer s H E).xe := passes_of (X := cxOf (L2.CX P w) P w K mg base ["letters", "number", "long", "signs", "k", "rest"] "mark_of" (defScope s_mark_of) f cdv A outer s H E) rfl
  exact (pss_trim (pss_cons (ps_set (i := 3) nd rfl (by first | exact Or.inl rfl | exact Or.inr rfl) (pe_lst pa_nil))
    (pss_cons (ps_for hps rfl (pi_range1 (by rfl) T.n_range (pa_cons (pv 2) pa_nil)) (pg_name (i := 4) nd rfl (by first | exact Or.inl rfl | exact Or.inr rfl))
    (pss_cons (ps_trim (ps_asg (pe_callB call_divmod (by rfl) T.n_divmod (by decide +kernel) (pa_cons (pv 1) (pa_cons (pv 0) pa_nil))) (pg_tup rfl (pgs_cons (pg_name (i := 1) nd rfl (by first | exact Or.inl rfl | exact Or.inr rfl)) (pgs_cons (pg_name (i := 5) nd rfl (by first | exact Or.inl rfl | exact Or.inr rfl)) pgs_nil)))))
    (pss_one (ps_expr (pe_bm PySem.F.plainAttrs_list PySem.F.slot_list_append PySem.F.type_list_append mt_append (pv 3) (pa_cons (pe_ix ix_str (pe_glob (by rfl) T.g_LETTERS.choose_spec ⟨_, rfl⟩) (pv 5) (fun _ _ => rfl)) pa_nil))))))
    (pss_cons (ps_expr (pe_bm0 PySem.F.plainAttrs_list PySem.F.slot_list_reverse PySem.F.type_list_reverse mt_reverse (pv 3)))
    (pss_one (ps_ret (pe_bm PySem.F.plainAttrs_str PySem.F.slot_str_rstrip PySem.F.type_str_rstrip mt_rstripChars (pe_bm PySem.F.plainAttrs_str PySem.F.slot_str_join PySem.F.type_str_join mt_join pe_str (pa_cons (pv 3) pa_nil)) (pa_cons pe_str pa_nil))))))))
theorem ok_ends_of {f : Addr} {fd : FuncData} (F : FunD K "ends_of" "ends_of" (defArgs s_ends_of) (defBody s_ends_of) (defScope s_ends_of) [] [] f fd) (T : Tx K mg) : FnOk P w K mg base (L2.CX P w) 1 f fd ["letters", "hands", "hand"] (sp_ends_of K) := by
  refine F.ok sc_ends_of len_ends_of (fun cdv A outer s H vs Q E hr h => ⟨t_ends_of K E, ?_, pure_ends_of T.kx vs H Q E h⟩)
  have nd := sc_ends_of.nd
  have hu := hu_of hr
  have htk : Takes (cxOf (L2.CX P w) P w K mg base ["letters", "hands", "hand", "k"] "ends_of" (defScope s_ends_of) f cdv A outer s H E) (fun c d _ H => E c d H) := takes_of rfl rfl rfl rfl
  have hpx : Passes (L2.CX P w) (cxOf (L2.CX P w) P w K mg base ["letters", "hands", "hand", "k"] "ends_of" (defScope s_ends_of) f cdv A outer s H E) E := passes_call htk fun _ _ _ _ z => z
  have hps : PassesOwn (model P w) (A.deeper (envOfC "ends_of" (defScope s_ends_of) s.heap.objs.size f cdv)) (envOfC "ends_of" (defScope s_ends_of) s.heap.objs.size f cdv) (cxOf (L2.CX P w) P w K mg base ["letters", "hands", "hand", "k"] "ends_of" (defScope s_ends_of) f cdv A outer s H E).xe := passes_of (X := cxOf (L2.CX P w) P w K mg base ["letters", "hands", "hand", "k"] "ends_of" (defScope s_ends_of) f cdv A outer s H E) rfl
  exact (pss_trim (pss_one (ps_ret (pe_trim (pe_bm PySem.F.plainAttrs_str PySem.F.slot_str_join PySem.F.type_str_join mt_join pe_str (pa_cons (pe_lc (own := [("k", 3)]) rfl nd (pi_range2 (by rfl) T.n_range (pa_cons pe_int (pa_cons (pv 0) pa_nil))) (blkOk_by (own := [("k", 3)]) (N := ["letters", "hands", "hand", "k"]) (sc := defScope s_ends_of) (by decide +kernel)) (fun _ _ _ _ _ => (pg_name (i := 3) nd rfl (by first | exact Or.inl rfl | exact Or.inr rfl))) (fun _ _ _ _ _ => (pts_one (pt_cmpR op_eq (pe_op op_mod (pe_op op_sub (pv 3) pe_int) (pv 1)) (pv 2) (nomark _)))) (fun _ _ _ _ _ => (pe_ix ix_str (pe_glob (by rfl) T.g_LETTERS.choose_spec ⟨_, rfl⟩) (pv 3) (fun _ _ => rfl)))) pa_nil))))))
theorem ok_numbers_between {f : Addr} {fd : FuncData} (F : FunD K "numbers_between" "numbers_between" (defArgs s_numbers_between) (defBody s_numbers_between) (defScope s_numbers_between) [] [] f fd) (T : Tx K mg) (G_whole_of : FnG P w K mg base (L2.CX P w) "whole_of" ["letters", "mark", "long"] 1 (sp_whole_of K)) : FnOk P w K mg base (L2.CX P w) 2 f fd ["letters", "low", "high", "long"] (sp_numbers_between K) := by
  refine F.ok sc_numbers_between len_numbers_between (fun cdv A outer s H vs Q E hr h => ⟨t_numbers_between K E, ?_, pure_numbers_between T.kx vs H Q E h⟩)
  have nd := sc_numbers_between.nd
  have hu := hu_of hr
  have htk : Takes (cxOf (L2.CX P w) P w K mg base ["letters", "low", "high", "long", "least", "most", "k"] "numbers_between" (defScope s_numbers_between) f cdv A outer s H E) (fun c d _ H => E c d H) := takes_of rfl rfl rfl rfl
  have hpx : Passes (L2.CX P w) (cxOf (L2.CX P w) P w K mg base ["letters", "low", "high", "long", "least", "most", "k"] "numbers_between" (defScope s_numbers_between) f cdv A outer s H E) E := passes_call htk fun _ _ _ _ z => z
  have hps : PassesOwn (model P w) (A.deeper (envOfC "numbers_between" (defScope s_numbers_between) s.heap.objs.size f cdv)) (envOfC "numbers_between" (defScope s_numbers_between) s.heap.objs.size f cdv) (cxOf (L2.CX P w) P w K mg base ["letters", "low", "high", "long", "least", "most", "k"] "numbers_between" (defScope s_numbers_between) f cdv A outer s H E).xe := passes_of (X := cxOf (L2.CX P w) P w K mg base ["letters", "low", "high", "long", "least", "most", "k"] "numbers_between" (defScope s_numbers_between) f cdv A outer s H E) rfl
  exact (pss_trim (pss_meet (ps_if (PW.pt (pw_and (pt_cmpR op_notN (pv 1) pe_non (nomark _)) (pw_and (pt_cmpR op_notN (pv 2) pe_non (nomark _)) (pw_and1 (pt_not (pt_cmpR op_lt_str (pv 1) (pv 2) (nomark _)))))))
    (pss_one (ps_raise rfl htk (pmk_own PySem.F.excBase_ValueError T.x_NoRoom T.g_NoRoom T.k_NoRoom (raises_own T.b_NoRoom T.t_NoRoom) rfl)))
    pss_nil)
    (pss_cons (ps_set (i := 4) nd rfl (by first | exact Or.inl rfl | exact Or.inr rfl) pe_int)
    (pss_meet (ps_if (pt_cmpR op_notN (pv 1) pe_non (nomark _))
    (pss_one (ps_set (i := 4) nd rfl (by first | exact Or.inl rfl | exact Or.inr rfl) (pe_op op_add (pe_G G_whole_of hr (by decide) rfl hpx (pa_cons (pv 0) (pa_cons (pv 1) (pa_cons (pv 3) pa_nil)))) pe_int)))
    pss_nil)
    (pss_cons (ps_set (i := 5) nd rfl (by first | exact Or.inl rfl | exact Or.inr rfl) pe_int)
    (pss_cons (ps_for hps rfl (pi_range1 (by rfl) T.n_range (pa_cons (pv 3) pa_nil)) (pg_name (i := 6) nd rfl (by first | exact Or.inl rfl | exact Or.inr rfl))
    (pss_one (ps_set (i := 5) nd rfl (by first | exact Or.inl rfl | exact Or.inr rfl) (pe_op op_mulW (pv 5) (pv 0)))))
    (pss_cons (ps_set (i := 5) nd rfl (by first | exact Or.inl rfl | exact Or.inr rfl) (pe_op op_sub (pv 5) pe_int))
    (pss_meet (ps_if (pt_cmpR op_notN (pv 2) pe_non (nomark _))
    (pss_cons (ps_set (i := 5) nd rfl (by first | exact Or.inl rfl | exact Or.inr rfl) (pe_G G_whole_of hr (by decide) rfl hpx (pa_cons (pv 0) (pa_cons (pv 2) (pa_cons (pv 3) pa_nil)))))
    (pss_one (ps_if (pt_cmpR op_le (pe_callB call_len_str (by rfl) T.n_len (by decide +kernel) (pa_cons (pv 2) pa_nil)) (pv 3) (nomark _))
    (pss_one (ps_set (i := 5) nd rfl (by first | exact Or.inl rfl | exact Or.inr rfl) (pe_op op_sub (pv 5) pe_int)))
    pss_nil)))
    pss_nil)
    (pss_one (ps_ret (pe_tup (pa_cons (pv 4) (pa_cons (pv 5) pa_nil)))))))))))))
theorem ok_figures_of {f : Addr} {fd : FuncData} (F : FunD K "figures_of" "figures_of" (defArgs s_figures_of) (defBody s_figures_of) (defScope s_figures_of) [] [] f fd) (T : Tx K mg) (G_ends_of : FnG P w K mg base (L2.CX P w) "ends_of" ["letters", "hands", "hand"] 1 (sp_ends_of K)) : FnOk P w K mg base (L2.CX P w) 2 f fd ["letters", "hands", "hand"] (sp_figures_of K) := by
  refine F.ok sc_figures_of len_figures_of (fun cdv A outer s H vs Q E hr h => ⟨t_figures_of K E, ?_, pure_figures_of T.kx vs H Q E h⟩)
  have nd := sc_figures_of.nd
  have hu := hu_of hr
  have htk : Takes (cxOf (L2.CX P w) P w K mg base ["letters", "hands", "hand", "sign"] "figures_of" (defScope s_figures_of) f cdv A outer s H E) (fun c d _ H => E c d H) := takes_of rfl rfl rfl rfl
  have hpx : Passes (L2.CX P w) (cxOf (L2.CX P w) P w K mg base ["letters", "hands", "hand", "sign"] "figures_of" (defScope s_figures_of) f cdv A outer s H E) E := passes_call htk fun _ _ _ _ z => z
  have hps : PassesOwn (model P w) (A.deeper (envOfC "figures_of" (defScope s_figures_of) s.heap.objs.size f cdv)) (envOfC "figures_of" (defScope s_figures_of) s.heap.objs.size f cdv) (cxOf (L2.CX P w) P w K mg base ["letters", "hands", "hand", "sign"] "figures_of" (defScope s_figures_of) f cdv A outer s H E).xe := passes_of (X := cxOf (L2.CX P w) P w K mg base ["letters", "hands", "hand", "sign"] "figures_of" (defScope s_figures_of) f cdv A outer s H E) rfl
  exact (pss_trim (pss_one (ps_ret (pe_lc (own := [("sign", 3)]) rfl nd (pi_str (pe_G G_ends_of hr (by decide) rfl hpx (pa_cons (pv 0) (pa_cons (pv 1) (pa_cons (pv 2) pa_nil))))) (blkOk_by (own := [("sign", 3)]) (N := ["letters", "hands", "hand", "sign"]) (sc := defScope s_figures_of) (by decide +kernel)) (fun _ _ _ _ _ => (pg_name (i := 3) nd rfl (by first | exact Or.inl rfl | exact Or.inr rfl))) (fun _ _ _ _ _ => pts_nil) (fun _ _ _ _ _ => (pe_bmS PySem.F.plainAttrs_str PySem.F.slot_str_index PySem.F.type_str_index (mt_indexS rfl) (pe_glob (by rfl) T.g_LETTERS.choose_spec ⟨_, rfl⟩) (pa_cons (pv 3) pa_nil)))))))
theorem ok_many_below {f : Addr} {fd : FuncData} (F : FunD K "many_below" "many_below" (defArgs s_many_below) (defBody s_many_below) (defScope s_many_below) [] [] f fd) (T : Tx K mg) : FnOk P w K mg base (L2.CX P w) 1 f fd ["letters", "figures", "number"] (sp_many_below K) := by
  refine F.ok sc_many_below len_many_below (fun cdv A outer s H vs Q E hr h => ⟨t_many_below K E, ?_, pure_many_below T.kx vs H Q E h⟩)
  have nd := sc_many_below.nd
  have hu := hu_of hr
  have htk : Takes (cxOf (L2.CX P w) P w K mg base ["letters", "figures", "number", "rounds", "rest", "one"] "many_below" (defScope s_many_below) f cdv A outer s H E) (fun c d _ H => E c d H) := takes_of rfl rfl rfl rfl
  have hpx : Passes (L2.CX P w) (cxOf (L2.CX P w) P w K mg base ["letters", "figures", "number", "rounds", "rest", "one"] "many_below" (defScope s_many_below) f cdv A outer s H E) E := passes_call htk fun _ _ _ _ z => z
  have hps : PassesOwn (model P w) (A.deeper (envOfC "many_below" (defScope s_many_below) s.heap.objs.size f cdv)) (envOfC "many_below" (defScope s_many_below) s.heap.objs.size f cdv) (cxOf (L2.CX P w) P w K mg base ["letters", "figures", "number", "rounds", "rest", "one"] "many_below" (defScope s_many_below) f cdv A outer s H E).xe := passes_of (X := cxOf (L2.CX P w) P w K mg base ["letters", "figures", "number", "rounds", "rest", "one"] "many_below" (defScope s_many_below) f cdv A outer s H E) rfl
  exact (pss_trim (pss_cons (ps_trim (ps_asg (pe_callB call_divmod (by rfl) T.n_divmod (by decide +kernel) (pa_cons (pv 2) (pa_cons (pv 0) pa_nil))) (pg_tup rfl (pgs_cons (pg_name (i := 3) nd rfl (by first | exact Or.inl rfl | exact Or.inr rfl)) (pgs_cons (pg_name (i := 4) nd rfl (by first | exact Or.inl rfl | exact Or.inr rfl)) pgs_nil)))))
    (pss_one (ps_ret (pe_trim (pe_op op_add (pe_op op_mulW (pv 3) (pe_callB call_len_seq (by rfl) T.n_len (by decide +kernel) (pa_cons (pv 1) pa_nil))) (pe_callB call_len_seq (by rfl) T.n_len (by decide +kernel) (pa_cons (pe_lc (own := [("one", 5)]) rfl nd (pi_list (pv 1)) (blkOk_by (own := [("one", 5)]) (N := ["letters", "figures", "number", "rounds", "rest", "one"]) (sc := defScope s_many_below) (by decide +kernel)) (fun _ _ _ _ _ => (pg_name (i := 5) nd rfl (by first | exact Or.inl rfl | exact Or.inr rfl))) (fun _ _ _ _ _ => (pts_one (pt_cmpR op_lt (pv 5) (pv 4) (nomark _)))) (fun _ _ _ _ _ => (pv 5))) pa_nil))))))))
theorem ok_room_at {f : Addr} {fd : FuncData} (F : FunD K "room_at" "room_at" (defArgs s_room_at) (defBody s_room_at) (defScope s_room_at) [] [] f fd) (T : Tx K mg) (G_numbers_between : FnG P w K mg base (L2.CX P w) "numbers_between" ["letters", "low", "high", "long"] 2 (sp_numbers_between K)) (G_figures_of : FnG P w K mg base (L2.CX P w) "figures_of" ["letters", "hands", "hand"] 2 (sp_figures_of K)) (G_many_below : FnG P w K mg base (L2.CX P w) "many_below" ["letters", "figures", "number"] 1 (sp_many_below K)) : FnOk P w K mg base (L2.CX P w) 3 f fd ["letters", "hands", "hand", "low", "high", "long"] (sp_room_at K) := by
  refine F.ok sc_room_at len_room_at (fun cdv A outer s H vs Q E hr h => ⟨t_room_at K E, ?_, pure_room_at T.kx vs H Q E h⟩)
  have nd := sc_room_at.nd
  have hu := hu_of hr
  have htk : Takes (cxOf (L2.CX P w) P w K mg base ["letters", "hands", "hand", "low", "high", "long", "least", "most", "figures"] "room_at" (defScope s_room_at) f cdv A outer s H E) (fun c d _ H => E c d H) := takes_of rfl rfl rfl rfl
  have hpx : Passes (L2.CX P w) (cxOf (L2.CX P w) P w K mg base ["letters", "hands", "hand", "low", "high", "long", "least", "most", "figures"] "room_at" (defScope s_room_at) f cdv A outer s H E) E := passes_call htk fun _ _ _ _ z => z
  have hps : PassesOwn (model P w) (A.deeper (envOfC "room_at" (defScope s_room_at) s.heap.objs.size f cdv)) (envOfC "room_at" (defScope s_room_at) s.heap.objs.size f cdv) (cxOf (L2.CX P w) P w K mg base ["letters", "hands", "hand", "low", "high", "long", "least", "most", "figures"] "room_at" (defScope s_room_at) f cdv A outer s H E).xe := passes_of (X := cxOf (L2.CX P w) P w K mg base ["letters", "hands", "hand", "low", "high", "long", "least", "most", "figures"] "room_at" (defScope s_room_at) f cdv A outer s H E) rfl
  exact (pss_trim (pss_cons (ps_trim (ps_asg (pe_G G_numbers_between hr (by decide) rfl hpx (pa_cons (pv 0) (pa_cons (pv 3) (pa_cons (pv 4) (pa_cons (pv 5) pa_nil))))) (pg_tup rfl (pgs_cons (pg_name (i := 6) nd rfl (by first | exact Or.inl rfl | exact Or.inr rfl)) (pgs_cons (pg_name (i := 7) nd rfl (by first | exact Or.inl rfl | exact Or.inr rfl)) pgs_nil)))))
    (pss_cons (ps_if (pt_cmpR op_lt (pv 7) (pv 6) (nomark _))
    (pss_one (ps_ret pe_int))
    pss_nil)
    (pss_cons (ps_set (i := 8) nd rfl (by first | exact Or.inl rfl | exact Or.inr rfl) (pe_G G_figures_of hr (by decide) rfl hpx (pa_cons (pv 0) (pa_cons (pv 1) (pa_cons (pv 2) pa_nil)))))
    (pss_one (ps_ret (pe_op op_sub (pe_G G_many_below hr (by decide) rfl hpx (pa_cons (pv 0) (pa_cons (pv 8) (pa_cons (pe_op op_add (pv 7) pe_int) pa_nil)))) (pe_G G_many_below hr (by decide) rfl hpx (pa_cons (pv 0) (pa_cons (pv 8) (pa_cons (pv 6) pa_nil)))))))))))
theorem ok_nth_mark {f : Addr} {fd : FuncData} (F : FunD K "nth_mark" "nth_mark" (defArgs s_nth_mark) (defBody s_nth_mark) (defScope s_nth_mark) [] [] f fd) (T : Tx K mg) (G_numbers_between : FnG P w K mg base (L2.CX P w) "numbers_between" ["letters", "low", "high", "long"] 2 (sp_numbers_between K)) (G_figures_of : FnG P w K mg base (L2.CX P w) "figures_of" ["letters", "hands", "hand"] 2 (sp_figures_of K)) (G_many_below : FnG P w K mg base (L2.CX P w) "many_below" ["letters", "figures", "number"] 1 (sp_many_below K)) (G_mark_of : FnG P w K mg base (L2.CX P w) "mark_of" ["letters", "number", "long"] 1 (sp_mark_of K)) : FnOk P w K mg base (L2.CX P w) 3 f fd ["letters", "hands", "hand", "low", "high", "long", "number"] (sp_nth_mark K) := by
  refine F.ok sc_nth_mark len_nth_mark (fun cdv A outer s H vs Q E hr h => ⟨t_nth_mark K E, ?_, pure_nth_mark T.kx vs H Q E h⟩)
  have nd := sc_nth_mark.nd
  have hu := hu_of hr
  have htk : Takes (cxOf (L2.CX P w) P w K mg base ["letters", "hands", "hand", "low", "high", "long", "number", "least", "figures", "rounds", "rest"] "nth_mark" (defScope s_nth_mark) f cdv A outer s H E) (fun c d _ H => E c d H) := takes_of rfl rfl rfl rfl
  have hpx : Passes (L2.CX P w) (cxOf (L2.CX P w) P w K mg base ["letters", "hands", "hand", "low", "high", "long", "number", "least", "figures", "rounds", "rest"] "nth_mark" (defScope s_nth_mark) f cdv A outer s H E) E := passes_call htk fun _ _ _ _ z => z
  have hps : PassesOwn (model P w) (A.deeper (envOfC "nth_mark" (defScope s_nth_mark) s.heap.objs.size f cdv)) (envOfC "nth_mark" (defScope s_nth_mark) s.heap.objs.size f cdv) (cxOf (L2.CX P w) P w K mg base ["letters", "hands", "hand", "low", "high", "long", "number", "least", "figures", "rounds", "rest"] "nth_mark" (defScope s_nth_mark) f cdv A outer s H E).xe := passes_of (X := cxOf (L2.CX P w) P w K mg base ["letters", "hands", "hand", "low", "high", "long", "number", "least", "figures", "rounds", "rest"] "nth_mark" (defScope s_nth_mark) f cdv A outer s H E) rfl
  exact (pss_trim (pss_cons (ps_set (i := 7) nd rfl (by first | exact Or.inl rfl | exact Or.inr rfl) (pe_trim (pe_ix ix_tup (pe_G G_numbers_between hr (by decide) rfl hpx (pa_cons (pv 0) (pa_cons (pv 3) (pa_cons (pv 4) (pa_cons (pv 5) pa_nil))))) pe_int (fun _ _ => rfl))))
    (pss_cons (ps_set (i := 8) nd rfl (by first | exact Or.inl rfl | exact Or.inr rfl) (pe_G G_figures_of hr (by decide) rfl hpx (pa_cons (pv 0) (pa_cons (pv 1) (pa_cons (pv 2) pa_nil)))))
    (pss_cons (ps_trim (ps_asg (pe_callB call_divmod (by rfl) T.n_divmod (by decide +kernel) (pa_cons (pe_op op_add (pe_G G_many_below hr (by decide) rfl hpx (pa_cons (pv 0) (pa_cons (pv 8) (pa_cons (pv 7) pa_nil)))) (pv 6)) (pa_cons (pe_callB call_len_seq (by rfl) T.n_len (by decide +kernel) (pa_cons (pv 8) pa_nil)) pa_nil))) (pg_tup rfl (pgs_cons (pg_name (i := 9) nd rfl (by first | exact Or.inl rfl | exact Or.inr rfl)) (pgs_cons (pg_name (i := 10) nd rfl (by first | exact Or.inl rfl | exact Or.inr rfl)) pgs_nil)))))
    (pss_one (ps_ret (pe_G G_mark_of hr (by decide) rfl hpx (pa_cons (pv 0) (pa_cons (pe_op op_add (pe_op op_mulW (pv 9) (pv 0)) (pe_ix ix_list (pv 8) (pv 10) (fun _ _ => rfl))) (pa_cons (pv 5) pa_nil))))))))))
theorem ok_least_long {f : Addr} {fd : FuncData} (F : FunD K "least_long" "least_long" (defArgs s_least_long) (defBody s_least_long) (defScope s_least_long) [] [] f fd) (T : Tx K mg) (G_room_at : FnG P w K mg base (L2.CX P w) "room_at" ["letters", "hands", "hand", "low", "high", "long"] 3 (sp_room_at K)) : FnOk P w K mg base (L2.CX P w) 4 f fd ["letters", "hands", "hand", "low", "high", "many"] (sp_least_long K) := by
  refine F.ok sc_least_long len_least_long (fun cdv A outer s H vs Q E hr h => ⟨t_least_long K E, ?_, pure_least_long T.kx vs H Q E h⟩)
  have nd := sc_least_long.nd
  have hu := hu_of hr
  have htk : Takes (cxOf (L2.CX P w) P w K mg base ["letters", "hands", "hand", "low", "high", "many", "long"] "least_long" (defScope s_least_long) f cdv A outer s H E) (fun c d _ H => E c d H) := takes_of rfl rfl rfl rfl
  have hpx : Passes (L2.CX P w) (cxOf (L2.CX P w) P w K mg base ["letters", "hands", "hand", "low", "high", "many", "long"] "least_long" (defScope s_least_long) f cdv A outer s H E) E := passes_call htk fun _ _ _ _ z => z
  have hps : PassesOwn (model P w) (A.deeper (envOfC "least_long" (defScope s_least_long) s.heap.objs.size f cdv)) (envOfC "least_long" (defScope s_least_long) s.heap.objs.size f cdv) (cxOf (L2.CX P w) P w K mg base ["letters", "hands", "hand", "low", "high", "many", "long"] "least_long" (defScope s_least_long) f cdv A outer s H E).xe := passes_of (X := cxOf (L2.CX P w) P w K mg base ["letters", "hands", "hand", "low", "high", "many", "long"] "least_long" (defScope s_least_long) f cdv A outer s H E) rfl
  exact (pss_cons (ps_set (i := 6) nd rfl (by first | exact Or.inl rfl | exact Or.inr rfl) pe_int)
    (pss_cons (ps_while hps (pt_cmpR op_lt (pe_G G_room_at hr (by decide) rfl hpx (pa_cons (pv 0) (pa_cons (pv 1) (pa_cons (pv 2) (pa_cons (pv 3) (pa_cons (pv 4) (pa_cons (pv 6) pa_nil))))))) (pv 5) (nomark _)) (pss_one (ps_set (i := 6) nd rfl (by first | exact Or.inl rfl | exact Or.inr rfl) (pe_op op_add (pv 6) pe_int))))
    (pss_one (ps_ret (pv 6)))))
theorem ok_mark_between {f : Addr} {fd : FuncData} (F : FunD K "mark_between" "mark_between" (defArgs s_mark_between) (defBody s_mark_between) (defScope s_mark_between) [] [] f fd) (T : Tx K mg) (G_least_long : FnG P w K mg base (L2.CX P w) "least_long" ["letters", "hands", "hand", "low", "high", "many"] 4 (sp_least_long K)) (G_room_at : FnG P w K mg base (L2.CX P w) "room_at" ["letters", "hands", "hand", "low", "high", "long"] 3 (sp_room_at K)) (G_nth_mark : FnG P w K mg base (L2.CX P w) "nth_mark" ["letters", "hands", "hand", "low", "high", "long", "number"] 3 (sp_nth_mark K)) : FnOk P w K mg base (L2.CX P w) 5 f fd ["letters", "hands", "hand", "low", "high"] (sp_mark_between K) := by
  refine F.ok sc_mark_between len_mark_between (fun cdv A outer s H vs Q E hr h => ⟨t_mark_between K E, ?_, pure_mark_between T.kx vs H Q E h⟩)
  have nd := sc_mark_between.nd
  have hu := hu_of hr
  have htk : Takes (cxOf (L2.CX P w) P w K mg base ["letters", "hands", "hand", "low", "high", "long", "many", "number"] "mark_between" (defScope s_mark_between) f cdv A outer s H E) (fun c d _ H => E c d H) := takes_of rfl rfl rfl rfl
  have hpx : Passes (L2.CX P w) (cxOf (L2.CX P w) P w K mg base ["letters", "hands", "hand", "low", "high", "long", "many", "number"] "mark_between" (defScope s_mark_between) f cdv A outer s H E) E := passes_call htk fun _ _ _ _ z => z
  have hps : PassesOwn (model P w) (A.deeper (envOfC "mark_between" (defScope s_mark_between) s.heap.objs.size f cdv)) (envOfC "mark_between" (defScope s_mark_between) s.heap.objs.size f cdv) (cxOf (L2.CX P w) P w K mg base ["letters", "hands", "hand", "low", "high", "long", "many", "number"] "mark_between" (defScope s_mark_between) f cdv A outer s H E).xe := passes_of (X := cxOf (L2.CX P w) P w K mg base ["letters", "hands", "hand", "low", "high", "long", "many", "number"] "mark_between" (defScope s_mark_between) f cdv A outer s H E) rfl
  exact (pss_cons (ps_set (i := 5) nd rfl (by first | exact Or.inl rfl | exact Or.inr rfl) (pe_G G_least_long hr (by decide) rfl hpx (pa_cons (pv 0) (pa_cons (pv 1) (pa_cons (pv 2) (pa_cons (pv 3) (pa_cons (pv 4) (pa_cons pe_int pa_nil))))))))
    (pss_cons (ps_set (i := 6) nd rfl (by first | exact Or.inl rfl | exact Or.inr rfl) (pe_G G_room_at hr (by decide) rfl hpx (pa_cons (pv 0) (pa_cons (pv 1) (pa_cons (pv 2) (pa_cons (pv 3) (pa_cons (pv 4) (pa_cons (pv 5) pa_nil))))))))
    (pss_cons (ps_set (i := 7) nd rfl (by first | exact Or.inl rfl | exact Or.inr rfl) (pe_op op_fdivW (pe_op op_sub (pv 6) pe_int) pe_int))
    (pss_meet (ps_if (PW.pt (pw_and (pt_cmpR op_isN (pv 4) pe_non (nomark _)) (pw_and1 (pt_cmpR op_notN (pv 3) pe_non (nomark _)))))
    (pss_one (ps_set (i := 7) nd rfl (by first | exact Or.inl rfl | exact Or.inr rfl) pe_int))
    pss_nil)
    (pss_meet (ps_if (PW.pt (pw_and (pt_cmpR op_isN (pv 3) pe_non (nomark _)) (pw_and1 (pt_cmpR op_notN (pv 4) pe_non (nomark _)))))
    (pss_one (ps_set (i := 7) nd rfl (by first | exact Or.inl rfl | exact Or.inr rfl) (pe_op op_sub (pv 6) pe_int)))
    pss_nil)
    (pss_one (ps_ret (pe_G G_nth_mark hr (by decide) rfl hpx (pa_cons (pv 0) (pa_cons (pv 1) (pa_cons (pv 2) (pa_cons (pv 3) (pa_cons (pv 4) (pa_cons (pv 5) (pa_cons (pv 7) pa_nil)))))))))))))))
theorem ok_run_between {f : Addr} {fd : FuncData} (F : FunD K "run_between" "run_between" (defArgs s_run_between) (defBody s_run_between) (defScope s_run_between) [] [] f fd) (T : Tx K mg) (G_least_long : FnG P w K mg base (L2.CX P w) "least_long" ["letters", "hands", "hand", "low", "high", "many"] 4 (sp_least_long K)) (G_room_at : FnG P w K mg base (L2.CX P w) "room_at" ["letters", "hands", "hand", "low", "high", "long"] 3 (sp_room_at K)) (G_nth_mark : FnG P w K mg base (L2.CX P w) "nth_mark" ["letters", "hands", "hand", "low", "high", "long", "number"] 3 (sp_nth_mark K)) : FnOk P w K mg base (L2.CX P w) 5 f fd ["letters", "hands", "hand", "low", "high", "many"] (sp_run_between K) := by
  refine F.ok sc_run_between len_run_between (fun cdv A outer s H vs Q E hr h => ⟨t_run_between K E, ?_, pure_run_between T.kx vs H Q E h⟩)
  have nd := sc_run_between.nd
  have hu := hu_of hr
  have htk : Takes (cxOf (L2.CX P w) P w K mg base ["letters", "hands", "hand", "low", "high", "many", "long", "room", "marks", "k", "number"] "run_between" (defScope s_run_between) f cdv A outer s H E) (fun c d _ H => E c d H) := takes_of rfl rfl rfl rfl
  have hpx : Passes (L2.CX P w) (cxOf (L2.CX P w) P w K mg base ["letters", "hands", "hand", "low", "high", "many", "long", "room", "marks", "k", "number"] "run_between" (defScope s_run_between) f cdv A outer s H E) E := passes_call htk fun _ _ _ _ z => z
  have hps : PassesOwn (model P w) (A.deeper (envOfC "run_between" (defScope s_run_between) s.heap.objs.size f cdv)) (envOfC "run_between" (defScope s_run_between) s.heap.objs.size f cdv) (cxOf (L2.CX P w) P w K mg base ["letters", "hands", "hand", "low", "high", "many", "long", "room", "marks", "k", "number"] "run_between" (defScope s_run_between) f cdv A outer s H E).xe := passes_of (X := cxOf (L2.CX P w) P w K mg base ["letters", "hands", "hand", "low", "high", "many", "long", "room", "marks", "k", "number"] "run_between" (defScope s_run_between) f cdv A outer s H E) rfl
  exact (pss_trim (pss_cons (ps_set (i := 6) nd rfl (by first | exact Or.inl rfl | exact Or.inr rfl) (pe_G G_least_long hr (by decide) rfl hpx (pa_cons (pv 0) (pa_cons (pv 1) (pa_cons (pv 2) (pa_cons (pv 3) (pa_cons (pv 4) (pa_cons (pv 5) pa_nil))))))))
    (pss_cons (ps_set (i := 7) nd rfl (by first | exact Or.inl rfl | exact Or.inr rfl) (pe_G G_room_at hr (by decide) rfl hpx (pa_cons (pv 0) (pa_cons (pv 1) (pa_cons (pv 2) (pa_cons (pv 3) (pa_cons (pv 4) (pa_cons (pv 6) pa_nil))))))))
    (pss_cons (ps_set (i := 8) nd rfl (by first | exact Or.inl rfl | exact Or.inr rfl) (pe_lst pa_nil))
    (pss_cons (ps_for hps rfl (pi_range1 (by rfl) T.n_range (pa_cons (pv 5) pa_nil)) (pg_name (i := 9) nd rfl (by first | exact Or.inl rfl | exact Or.inr rfl))
    (pss_cons (ps_set (i := 10) nd rfl (by first | exact Or.inl rfl | exact Or.inr rfl) (pe_op op_sub (pe_op op_fdivW (pe_op op_mulW (pe_op op_add (pv 9) pe_int) (pe_op op_add (pv 7) pe_int)) (pe_op op_add (pv 5) pe_int)) pe_int))
    (pss_one (ps_expr (pe_bm PySem.F.plainAttrs_list PySem.F.slot_list_append PySem.F.type_list_append mt_append (pv 8) (pa_cons (pe_G G_nth_mark hr (by decide) rfl hpx (pa_cons (pv 0) (pa_cons (pv 1) (pa_cons (pv 2) (pa_cons (pv 3) (pa_cons (pv 4) (pa_cons (pv 6) (pa_cons (pv 10) pa_nil)))))))) pa_nil))))))
    (pss_one (ps_ret (pv 8))))))))
theorem ok_renewed_long {f : Addr} {fd : FuncData} (F : FunD K "renewed_long" "renewed_long" (defArgs s_renewed_long) (defBody s_renewed_long) (defScope s_renewed_long) [] [] f fd) (T : Tx K mg) : FnOk P w K mg base (L2.CX P w) 1 f fd ["letters", "many"] (sp_renewed_long K) := by
  refine F.ok sc_renewed_long len_renewed_long (fun cdv A outer s H vs Q E hr h => ⟨t_renewed_long K E, ?_, pure_renewed_long T.kx vs H Q E h⟩)
  have nd := sc_renewed_long.nd
  have hu := hu_of hr
  have htk : Takes (cxOf (L2.CX P w) P w K mg base ["letters", "many", "long", "count"] "renewed_long" (defScope s_renewed_long) f cdv A outer s H E) (fun c d _ H => E c d H) := takes_of rfl rfl rfl rfl
  have hpx : Passes (L2.CX P w) (cxOf (L2.CX P w) P w K mg base ["letters", "many", "long", "count"] "renewed_long" (defScope s_renewed_long) f cdv A outer s H E) E := passes_call htk fun _ _ _ _ z => z
  have hps : PassesOwn (model P w) (A.deeper (envOfC "renewed_long" (defScope s_renewed_long) s.heap.objs.size f cdv)) (envOfC "renewed_long" (defScope s_renewed_long) s.heap.objs.size f cdv) (cxOf (L2.CX P w) P w K mg base ["letters", "many", "long", "count"] "renewed_long" (defScope s_renewed_long) f cdv A outer s H E).xe := passes_of (X := cxOf (L2.CX P w) P w K mg base ["letters", "many", "long", "count"] "renewed_long" (defScope s_renewed_long) f cdv A outer s H E) rfl
  exact (pss_cons (ps_set (i := 2) nd rfl (by first | exact Or.inl rfl | exact Or.inr rfl) pe_int)
    (pss_cons (ps_set (i := 3) nd rfl (by first | exact Or.inl rfl | exact Or.inr rfl) pe_int)
    (pss_cons (ps_while hps (pt_cmpR op_lt (pe_op op_sub (pv 3) pe_int) (pv 1) (nomark _)) (pss_cons (ps_set (i := 2) nd rfl (by first | exact Or.inl rfl | exact Or.inr rfl) (pe_op op_add (pv 2) pe_int))
    (pss_one (ps_set (i := 3) nd rfl (by first | exact Or.inl rfl | exact Or.inr rfl) (pe_op op_mulW (pv 3) (pv 0))))))
    (pss_one (ps_ret (pv 2))))))
theorem ok_renewed {f : Addr} {fd : FuncData} (F : FunD K "renewed" "renewed" (defArgs s_renewed) (defBody s_renewed) (defScope s_renewed) [] [] f fd) (T : Tx K mg) (G_renewed_long : FnG P w K mg base (L2.CX P w) "renewed_long" ["letters", "many"] 1 (sp_renewed_long K)) (G_mark_of : FnG P w K mg base (L2.CX P w) "mark_of" ["letters", "number", "long"] 1 (sp_mark_of K)) : FnOk P w K mg base (L2.CX P w) 2 f fd ["letters", "many"] (sp_renewed K) := by
  refine F.ok sc_renewed len_renewed (fun cdv A outer s H vs Q E hr h => ⟨t_renewed K E, ?_, pure_renewed T.kx vs H Q E h⟩)
  have nd := sc_renewed.nd
  have hu := hu_of hr
  have htk : Takes (cxOf (L2.CX P w) P w K mg base ["letters", "many", "long", "count", "k"] "renewed" (defScope s_renewed) f cdv A outer s H E) (fun c d _ H => E c d H) := takes_of rfl rfl rfl rfl
  have hpx : Passes (L2.CX P w) (cxOf (L2.CX P w) P w K mg base ["letters", "many", "long", "count", "k"] "renewed" (defScope s_renewed) f cdv A outer s H E) E := passes_call htk fun _ _ _ _ z => z
  have hps : PassesOwn (model P w) (A.deeper (envOfC "renewed" (defScope s_renewed) s.heap.objs.size f cdv)) (envOfC "renewed" (defScope s_renewed) s.heap.objs.size f cdv) (cxOf (L2.CX P w) P w K mg base ["letters", "many", "long", "count", "k"] "renewed" (defScope s_renewed) f cdv A outer s H E).xe := passes_of (X := cxOf (L2.CX P w) P w K mg base ["letters", "many", "long", "count", "k"] "renewed" (defScope s_renewed) f cdv A outer s H E) rfl
  exact (pss_trim (pss_cons (ps_set (i := 2) nd rfl (by first | exact Or.inl rfl | exact Or.inr rfl) (pe_G G_renewed_long hr (by decide) rfl hpx (pa_cons (pv 0) (pa_cons (pv 1) pa_nil))))
    (pss_cons (ps_set (i := 3) nd rfl (by first | exact Or.inl rfl | exact Or.inr rfl) pe_int)
    (pss_cons (ps_for hps rfl (pi_range1 (by rfl) T.n_range (pa_cons (pv 2) pa_nil)) (pg_name (i := 4) nd rfl (by first | exact Or.inl rfl | exact Or.inr rfl))
    (pss_one (ps_set (i := 3) nd rfl (by first | exact Or.inl rfl | exact Or.inr rfl) (pe_op op_mulW (pv 3) (pv 0)))))
    (pss_one (ps_ret (pe_lc (own := [("k", 4)]) rfl nd (pi_range1 (by rfl) T.n_range (pa_cons (pv 1) pa_nil)) (blkOk_by (own := [("k", 4)]) (N := ["letters", "many", "long", "count", "k"]) (sc := defScope s_renewed) (by decide +kernel)) (fun _ _ _ _ _ => (pg_name (i := 4) nd rfl (by first | exact Or.inl rfl | exact Or.inr rfl))) (fun _ _ _ _ _ => pts_nil) (fun _ _ _ _ _ => (pe_G G_mark_of hr (by decide) rfl passL (pa_cons (pv 0) (pa_cons (pe_op op_fdivW (pe_op op_mulW (pe_op op_add (pv 4) pe_int) (pv 3)) (pe_op op_add (pv 1) pe_int)) (pa_cons (pv 2) pa_nil))))))))))))
theorem ok_is_thing {f : Addr} {fd : FuncData} (F : FunD K "is_thing" "is_thing" (defArgs s_is_thing) (defBody s_is_thing) (defScope s_is_thing) [] [] f fd) (T : Tx K mg) : FnOk P w K mg base (L2.CX P w) 1 f fd ["text"] (sp_is_thing K) := by
  refine F.ok sc_is_thing len_is_thing (fun cdv A outer s H vs Q E hr h => ⟨t_is_thing K E, ?_, pure_is_thing T.kx vs H Q E h⟩)
  have nd := sc_is_thing.nd
  have hu := hu_of hr
  have htk : Takes (cxOf (L2.CX P w) P w K mg base ["text", "sign"] "is_thing" (defScope s_is_thing) f cdv A outer s H E) (fun c d _ H => E c d H) := takes_of rfl rfl rfl rfl
  have hpx : Passes (L2.CX P w) (cxOf (L2.CX P w) P w K mg base ["text", "sign"] "is_thing" (defScope s_is_thing) f cdv A outer s H E) E := passes_call htk fun _ _ _ _ z => z
  have hps : PassesOwn (model P w) (A.deeper (envOfC "is_thing" (defScope s_is_thing) s.heap.objs.size f cdv)) (envOfC "is_thing" (defScope s_is_thing) s.heap.objs.size f cdv) (cxOf (L2.CX P w) P w K mg base ["text", "sign"] "is_thing" (defScope s_is_thing) f cdv A outer s H E).xe := passes_of (X := cxOf (L2.CX P w) P w K mg base ["text", "sign"] "is_thing" (defScope s_is_thing) f cdv A outer s H E) rfl
  exact (pss_cons (ps_if (PW.pt (pw_or (pt_cmpR op_eq (pe_callB call_len_str (by rfl) T.n_len (by decide +kernel) (pa_cons (pv 0) pa_nil)) pe_int (nomark _)) (pw_or1 (pt_cmpR op_gt (pe_callB call_len_str (by rfl) T.n_len (by decide +kernel) (pa_cons (pv 0) pa_nil)) (pe_glob (by rfl) T.g_LONGEST_THING.choose_spec ⟨_, rfl⟩) (nomark _)))))
    (pss_one (ps_ret pe_bl))
    pss_nil)
    (pss_cons (ps_for hps rfl (pi_str (pv 0)) (pg_name (i := 1) nd rfl (by first | exact Or.inl rfl | exact Or.inr rfl))
    (pss_one (ps_if (pt_cmpR op_notIn_sign (pv 1) (pe_glob (by rfl) T.g_SIGNS.choose_spec ⟨_, rfl⟩) (by rfl))
    (pss_one (ps_ret pe_bl))
    pss_nil)))
    (pss_one (ps_ret pe_bl))))
theorem ok_Shelf___init__ {f : Addr} {fd : FuncData} (F : FunD K "__init__" "Shelf.__init__" (defArgs s_Shelf___init__) (defBody s_Shelf___init__) (defScope s_Shelf___init__) [] [] f fd) (T : Tx K mg) (G_ask_letters : FnG P w K mg base (L2.CX P w) "ask_letters" ["letters", "hands"] 1 (sp_ask_letters K)) : FnOk P w K mg base (L2.CX P w) 2 f fd ["self", "letters"] (sp_Shelf___init__ K) := by
  refine F.ok sc_Shelf___init__ len_Shelf___init__ (fun cdv A outer s H vs Q E hr h => ⟨t_Shelf___init__ K E, ?_, pure_Shelf___init__ T.kx vs H Q E h⟩)
  have nd := sc_Shelf___init__.nd
  have hu := hu_of hr
  have htk : Takes (cxOf (L2.CX P w) P w K mg base ["self", "letters"] "Shelf.__init__" (defScope s_Shelf___init__) f cdv A outer s H E) (fun c d _ H => E c d H) := takes_of rfl rfl rfl rfl
  have hpx : Passes (L2.CX P w) (cxOf (L2.CX P w) P w K mg base ["self", "letters"] "Shelf.__init__" (defScope s_Shelf___init__) f cdv A outer s H E) E := passes_call htk fun _ _ _ _ z => z
  have hps : PassesOwn (model P w) (A.deeper (envOfC "Shelf.__init__" (defScope s_Shelf___init__) s.heap.objs.size f cdv)) (envOfC "Shelf.__init__" (defScope s_Shelf___init__) s.heap.objs.size f cdv) (cxOf (L2.CX P w) P w K mg base ["self", "letters"] "Shelf.__init__" (defScope s_Shelf___init__) f cdv A outer s H E).xe := passes_of (X := cxOf (L2.CX P w) P w K mg base ["self", "letters"] "Shelf.__init__" (defScope s_Shelf___init__) f cdv A outer s H E) rfl
  exact (pss_trim (pss_cons (ps_expr (pe_G G_ask_letters hr (by decide) rfl hpx (pa_cons (pv 1) (pa_cons pe_int pa_nil))))
    (pss_cons (ps_fld (pv 0) (pv 1) rfl)
    (pss_cons (ps_fld (pv 0) (pe_lst pa_nil) rfl)
    (pss_one (ps_fld (pv 0) (pe_lst pa_nil) rfl))))))
theorem ok_Shelf_ask_put {f : Addr} {fd : FuncData} (F : FunD K "ask_put" "Shelf.ask_put" (defArgs s_Shelf_ask_put) (defBody s_Shelf_ask_put) (defScope s_Shelf_ask_put) [] [] f fd) (T : Tx K mg) (G_is_thing : FnG P w K mg base (L2.CX P w) "is_thing" ["text"] 1 (sp_is_thing K)) : FnOk P w K mg base (L2.CX P w) 2 f fd ["self", "place", "some"] (sp_Shelf_ask_put K) := by
  refine F.ok sc_Shelf_ask_put len_Shelf_ask_put (fun cdv A outer s H vs Q E hr h => ⟨t_Shelf_ask_put K E, ?_, pure_Shelf_ask_put T.kx vs H Q E h⟩)
  have nd := sc_Shelf_ask_put.nd
  have hu := hu_of hr
  have htk : Takes (cxOf (L2.CX P w) P w K mg base ["self", "place", "some", "thing"] "Shelf.ask_put" (defScope s_Shelf_ask_put) f cdv A outer s H E) (fun c d _ H => E c d H) := takes_of rfl rfl rfl rfl
  have hpx : Passes (L2.CX P w) (cxOf (L2.CX P w) P w K mg base ["self", "place", "some", "thing"] "Shelf.ask_put" (defScope s_Shelf_ask_put) f cdv A outer s H E) E := passes_call htk fun _ _ _ _ z => z
  have hps : PassesOwn (model P w) (A.deeper (envOfC "Shelf.ask_put" (defScope s_Shelf_ask_put) s.heap.objs.size f cdv)) (envOfC "Shelf.ask_put" (defScope s_Shelf_ask_put) s.heap.objs.size f cdv) (cxOf (L2.CX P w) P w K mg base ["self", "place", "some", "thing"] "Shelf.ask_put" (defScope s_Shelf_ask_put) f cdv A outer s H E).xe := passes_of (X := cxOf (L2.CX P w) P w K mg base ["self", "place", "some", "thing"] "Shelf.ask_put" (defScope s_Shelf_ask_put) f cdv A outer s H E) rfl
  exact (pss_cons (ps_if (PW.pt (pw_or (pt_cmpR op_eq (pe_callB call_len_seq (by rfl) T.n_len (by decide +kernel) (pa_cons (pv 2) pa_nil)) pe_int (nomark _)) (pw_or1 (pt_cmpR op_gt (pe_op op_add (pe_callB call_len_seq (by rfl) T.n_len (by decide +kernel) (pa_cons (pe_fld (pv 0) rfl) pa_nil)) (pe_callB call_len_seq (by rfl) T.n_len (by decide +kernel) (pa_cons (pv 2) pa_nil))) (pe_glob (by rfl) T.g_MOST_THINGS.choose_spec ⟨_, rfl⟩) (nomark _)))))
    (pss_one (ps_raise rfl htk (pmk_own PySem.F.excBase_ValueError T.x_NoThing T.g_NoThing T.k_NoThing (raises_own T.b_NoThing T.t_NoThing) rfl)))
    pss_nil)
    (pss_cons (ps_for hps rfl (pi_list (pv 2)) (pg_name (i := 3) nd rfl (by first | exact Or.inl rfl | exact Or.inr rfl))
    (pss_one (ps_if (pt_not (pt_val (pe_G G_is_thing hr (by decide) rfl hpx (pa_cons (pv 3) pa_nil))))
    (pss_one (ps_raise rfl htk (pmk_own PySem.F.excBase_ValueError T.x_NoThing T.g_NoThing T.k_NoThing (raises_own T.b_NoThing T.t_NoThing) rfl)))
    pss_nil)))
    (pss_one (ps_if (PW.pt (pw_or (pt_cmpR op_lt (pv 1) pe_int (nomark _)) (pw_or1 (pt_cmpR op_gt (pv 1) (pe_callB call_len_seq (by rfl) T.n_len (by decide +kernel) (pa_cons (pe_fld (pv 0) rfl) pa_nil)) (nomark _)))))
    (pss_one (ps_raise rfl htk (pmk_own PySem.F.excBase_ValueError T.x_NoPlace T.g_NoPlace T.k_NoPlace (raises_own T.b_NoPlace T.t_NoPlace) rfl)))
    pss_nil))))
theorem ok_Shelf_marks_round {f : Addr} {fd : FuncData} (F : FunD K "marks_round" "Shelf.marks_round" (defArgs s_Shelf_marks_round) (defBody s_Shelf_marks_round) (defScope s_Shelf_marks_round) [] [] f fd) (T : Tx K mg) : FnOk P w K mg base (L2.CX P w) 1 f fd ["self", "place"] (sp_Shelf_marks_round K) := by
  refine F.ok sc_Shelf_marks_round len_Shelf_marks_round (fun cdv A outer s H vs Q E hr h => ⟨t_Shelf_marks_round K E, ?_, pure_Shelf_marks_round T.kx vs H Q E h⟩)
  have nd := sc_Shelf_marks_round.nd
  have hu := hu_of hr
  have htk : Takes (cxOf (L2.CX P w) P w K mg base ["self", "place", "low", "high"] "Shelf.marks_round" (defScope s_Shelf_marks_round) f cdv A outer s H E) (fun c d _ H => E c d H) := takes_of rfl rfl rfl rfl
  have hpx : Passes (L2.CX P w) (cxOf (L2.CX P w) P w K mg base ["self", "place", "low", "high"] "Shelf.marks_round" (defScope s_Shelf_marks_round) f cdv A outer s H E) E := passes_call htk fun _ _ _ _ z => z
  have hps : PassesOwn (model P w) (A.deeper (envOfC "Shelf.marks_round" (defScope s_Shelf_marks_round) s.heap.objs.size f cdv)) (envOfC "Shelf.marks_round" (defScope s_Shelf_marks_round) s.heap.objs.size f cdv) (cxOf (L2.CX P w) P w K mg base ["self", "place", "low", "high"] "Shelf.marks_round" (defScope s_Shelf_marks_round) f cdv A outer s H E).xe := passes_of (X := cxOf (L2.CX P w) P w K mg base ["self", "place", "low", "high"] "Shelf.marks_round" (defScope s_Shelf_marks_round) f cdv A outer s H E) rfl
  exact (pss_trim (pss_cons (ps_set (i := 2) nd rfl (by first | exact Or.inl rfl | exact Or.inr rfl) pe_non)
    (pss_cons (ps_set (i := 3) nd rfl (by first | exact Or.inl rfl | exact Or.inr rfl) pe_non)
    (pss_meet (ps_if (pt_cmpR op_gt (pv 1) pe_int (nomark _))
    (pss_one (ps_set (i := 2) nd rfl (by first | exact Or.inl rfl | exact Or.inr rfl) (pe_ix ix_list (pe_fld (pv 0) rfl) (pe_op op_sub (pv 1) pe_int) (fun _ _ => rfl))))
    pss_nil)
    (pss_meet (ps_if (pt_cmpR op_lt (pv 1) (pe_callB call_len_seq (by rfl) T.n_len (by decide +kernel) (pa_cons (pe_fld (pv 0) rfl) pa_nil)) (nomark _))
    (pss_one (ps_set (i := 3) nd rfl (by first | exact Or.inl rfl | exact Or.inr rfl) (pe_ix ix_list (pe_fld (pv 0) rfl) (pv 1) (fun _ _ => rfl))))
    pss_nil)
    (pss_one (ps_ret (pe_tup (pa_cons (pv 2) (pa_cons (pv 3) pa_nil))))))))))
theorem ok_Shelf_put {f : Addr} {fd : FuncData} (F : FunD K "put" "Shelf.put" (defArgs s_Shelf_put) (defBody s_Shelf_put) (defScope s_Shelf_put) [] [] f fd) (T : Tx K mg) (G_Shelf_ask_put : FnM P w K mg base (L2.CX P w) (He.ga K "Shelf") "ask_put" ["self", "place", "some"] 2 (sp_Shelf_ask_put K)) (G_Shelf_marks_round : FnM P w K mg base (L2.CX P w) (He.ga K "Shelf") "marks_round" ["self", "place"] 1 (sp_Shelf_marks_round K)) (G_mark_between : FnG P w K mg base (L2.CX P w) "mark_between" ["letters", "hands", "hand", "low", "high"] 5 (sp_mark_between K)) : FnOk P w K mg base (L2.CX P w) 6 f fd ["self", "place", "thing"] (sp_Shelf_put K) := by
  refine F.ok sc_Shelf_put len_Shelf_put (fun cdv A outer s H vs Q E hr h => ⟨t_Shelf_put K E, ?_, pure_Shelf_put T.kx vs H Q E h⟩)
  have nd := sc_Shelf_put.nd
  have hu := hu_of hr
  have htk : Takes (cxOf (L2.CX P w) P w K mg base ["self", "place", "thing", "low", "high", "mark"] "Shelf.put" (defScope s_Shelf_put) f cdv A outer s H E) (fun c d _ H => E c d H) := takes_of rfl rfl rfl rfl
  have hpx : Passes (L2.CX P w) (cxOf (L2.CX P w) P w K mg base ["self", "place", "thing", "low", "high", "mark"] "Shelf.put" (defScope s_Shelf_put) f cdv A outer s H E) E := passes_call htk fun _ _ _ _ z => z
  have hps : PassesOwn (model P w) (A.deeper (envOfC "Shelf.put" (defScope s_Shelf_put) s.heap.objs.size f cdv)) (envOfC "Shelf.put" (defScope s_Shelf_put) s.heap.objs.size f cdv) (cxOf (L2.CX P w) P w K mg base ["self", "place", "thing", "low", "high", "mark"] "Shelf.put" (defScope s_Shelf_put) f cdv A outer s H E).xe := passes_of (X := cxOf (L2.CX P w) P w K mg base ["self", "place", "thing", "low", "high", "mark"] "Shelf.put" (defScope s_Shelf_put) f cdv A outer s H E) rfl
  exact (pss_trim (pss_cons (ps_expr (pe_trim (pe_Gm G_Shelf_ask_put hr (by decide) (pv 0) T.kx.c_Shelf hpx (pa_cons (pv 1) (pa_cons (pe_lst (pa_cons (pv 2) pa_nil)) pa_nil)))))
    (pss_cons (ps_trim (ps_asg (pe_Gm G_Shelf_marks_round hr (by decide) (pv 0) T.kx.c_Shelf hpx (pa_cons (pv 1) pa_nil)) (pg_tup rfl (pgs_cons (pg_name (i := 3) nd rfl (by first | exact Or.inl rfl | exact Or.inr rfl)) (pgs_cons (pg_name (i := 4) nd rfl (by first | exact Or.inl rfl | exact Or.inr rfl)) pgs_nil)))))
    (pss_cons (ps_set (i := 5) nd rfl (by first | exact Or.inl rfl | exact Or.inr rfl) (pe_G G_mark_between hr (by decide) rfl hpx (pa_cons (pe_fld (pv 0) rfl) (pa_cons pe_int (pa_cons pe_int (pa_cons (pv 3) (pa_cons (pv 4) pa_nil)))))))
    (pss_cons (ps_expr (pe_bm PySem.F.plainAttrs_list PySem.F.slot_list_insert PySem.F.type_list_insert mt_insert (pe_fld (pv 0) rfl) (pa_cons (pv 1) (pa_cons (pv 2) pa_nil))))
    (pss_cons (ps_expr (pe_bm PySem.F.plainAttrs_list PySem.F.slot_list_insert PySem.F.type_list_insert mt_insert (pe_fld (pv 0) rfl) (pa_cons (pv 1) (pa_cons (pv 5) pa_nil))))
    (pss_one (ps_ret (pv 5)))))))))
theorem ok_Shelf_put_row {f : Addr} {fd : FuncData} (F : FunD K "put_row" "Shelf.put_row" (defArgs s_Shelf_put_row) (defBody s_Shelf_put_row) (defScope s_Shelf_put_row) [] [] f fd) (T : Tx K mg) (G_Shelf_ask_put : FnM P w K mg base (L2.CX P w) (He.ga K "Shelf") "ask_put" ["self", "place", "some"] 2 (sp_Shelf_ask_put K)) (G_Shelf_marks_round : FnM P w K mg base (L2.CX P w) (He.ga K "Shelf") "marks_round" ["self", "place"] 1 (sp_Shelf_marks_round K)) (G_run_between : FnG P w K mg base (L2.CX P w) "run_between" ["letters", "hands", "hand", "low", "high", "many"] 5 (sp_run_between K)) : FnOk P w K mg base (L2.CX P w) 6 f fd ["self", "place", "some"] (sp_Shelf_put_row K) := by
  refine F.ok sc_Shelf_put_row len_Shelf_put_row (fun cdv A outer s H vs Q E hr h => ⟨t_Shelf_put_row K E, ?_, pure_Shelf_put_row T.kx vs H Q E h⟩)
  have nd := sc_Shelf_put_row.nd
  have hu := hu_of hr
  have htk : Takes (cxOf (L2.CX P w) P w K mg base ["self", "place", "some", "low", "high", "fresh"] "Shelf.put_row" (defScope s_Shelf_put_row) f cdv A outer s H E) (fun c d _ H => E c d H) := takes_of rfl rfl rfl rfl
  have hpx : Passes (L2.CX P w) (cxOf (L2.CX P w) P w K mg base ["self", "place", "some", "low", "high", "fresh"] "Shelf.put_row" (defScope s_Shelf_put_row) f cdv A outer s H E) E := passes_call htk fun _ _ _ _ z => z
  have hps : PassesOwn (model P w) (A.deeper (envOfC "Shelf.put_row" (defScope s_Shelf_put_row) s.heap.objs.size f cdv)) (envOfC "Shelf.put_row" (defScope s_Shelf_put_row) s.heap.objs.size f cdv) (cxOf (L2.CX P w) P w K mg base ["self", "place", "some", "low", "high", "fresh"] "Shelf.put_row" (defScope s_Shelf_put_row) f cdv A outer s H E).xe := passes_of (X := cxOf (L2.CX P w) P w K mg base ["self", "place", "some", "low", "high", "fresh"] "Shelf.put_row" (defScope s_Shelf_put_row) f cdv A outer s H E) rfl
  exact (pss_trim (pss_cons (ps_expr (pe_Gm G_Shelf_ask_put hr (by decide) (pv 0) T.kx.c_Shelf hpx (pa_cons (pv 1) (pa_cons (pv 2) pa_nil))))
    (pss_cons (ps_trim (ps_asg (pe_Gm G_Shelf_marks_round hr (by decide) (pv 0) T.kx.c_Shelf hpx (pa_cons (pv 1) pa_nil)) (pg_tup rfl (pgs_cons (pg_name (i := 3) nd rfl (by first | exact Or.inl rfl | exact Or.inr rfl)) (pgs_cons (pg_name (i := 4) nd rfl (by first | exact Or.inl rfl | exact Or.inr rfl)) pgs_nil)))))
    (pss_cons (ps_set (i := 5) nd rfl (by first | exact Or.inl rfl | exact Or.inr rfl) (pe_G G_run_between hr (by decide) rfl hpx (pa_cons (pe_fld (pv 0) rfl) (pa_cons pe_int (pa_cons pe_int (pa_cons (pv 3) (pa_cons (pv 4) (pa_cons (pe_callB call_len_seq (by rfl) T.n_len (by decide +kernel) (pa_cons (pv 2) pa_nil)) pa_nil))))))))
    (pss_cons (ps_fld (pv 0) (pe_trim (pe_op op_cat (pe_op op_cat (pe_slice sl_list (pe_fld (pv 0) rfl) po_none (po_some (pv 1))) (pe_callTy call_list_of (by rfl) T.n_list (by decide +kernel) (pa_cons (pv 2) pa_nil))) (pe_slice sl_list (pe_fld (pv 0) rfl) (po_some (pv 1)) po_none))) rfl)
    (pss_cons (ps_fld (pv 0) (pe_trim (pe_op op_cat (pe_op op_cat (pe_slice sl_list (pe_fld (pv 0) rfl) po_none (po_some (pv 1))) (pv 5)) (pe_slice sl_list (pe_fld (pv 0) rfl) (po_some (pv 1)) po_none))) rfl)
    (pss_one (ps_ret (pe_callTy call_list_of (by rfl) T.n_list (by decide +kernel) (pa_cons (pv 5) pa_nil))))))))))
theorem ok_Shelf_take {f : Addr} {fd : FuncData} (F : FunD K "take" "Shelf.take" (defArgs s_Shelf_take) (defBody s_Shelf_take) (defScope s_Shelf_take) [] [] f fd) (T : Tx K mg) : FnOk P w K mg base (L2.CX P w) 1 f fd ["self", "place"] (sp_Shelf_take K) := by
  refine F.ok sc_Shelf_take len_Shelf_take (fun cdv A outer s H vs Q E hr h => ⟨t_Shelf_take K E, ?_, pure_Shelf_take T.kx vs H Q E h⟩)
  have nd := sc_Shelf_take.nd
  have hu := hu_of hr
  have htk : Takes (cxOf (L2.CX P w) P w K mg base ["self", "place"] "Shelf.take" (defScope s_Shelf_take) f cdv A outer s H E) (fun c d _ H => E c d H) := takes_of rfl rfl rfl rfl
  have hpx : Passes (L2.CX P w) (cxOf (L2.CX P w) P w K mg base ["self", "place"] "Shelf.take" (defScope s_Shelf_take) f cdv A outer s H E) E := passes_call htk fun _ _ _ _ z => z
  have hps : PassesOwn (model P w) (A.deeper (envOfC "Shelf.take" (defScope s_Shelf_take) s.heap.objs.size f cdv)) (envOfC "Shelf.take" (defScope s_Shelf_take) s.heap.objs.size f cdv) (cxOf (L2.CX P w) P w K mg base ["self", "place"] "Shelf.take" (defScope s_Shelf_take) f cdv A outer s H E).xe := passes_of (X := cxOf (L2.CX P w) P w K mg base ["self", "place"] "Shelf.take" (defScope s_Shelf_take) f cdv A outer s H E) rfl
  exact (pss_cons (ps_if (PW.pt (pw_or (pt_cmpR op_lt (pv 1) pe_int (nomark _)) (pw_or1 (pt_cmpR op_ge (pv 1) (pe_callB call_len_seq (by rfl) T.n_len (by decide +kernel) (pa_cons (pe_fld (pv 0) rfl) pa_nil)) (nomark _)))))
    (pss_one (ps_raise rfl htk (pmk_own PySem.F.excBase_ValueError T.x_NoPlace T.g_NoPlace T.k_NoPlace (raises_own T.b_NoPlace T.t_NoPlace) rfl)))
    pss_nil)
    (pss_cons (ps_expr (pe_bm PySem.F.plainAttrs_list PySem.F.slot_list_pop PySem.F.type_list_pop mt_popAt (pe_fld (pv 0) rfl) (pa_cons (pv 1) pa_nil)))
    (pss_one (ps_ret (pe_bm PySem.F.plainAttrs_list PySem.F.slot_list_pop PySem.F.type_list_pop mt_popAt (pe_fld (pv 0) rfl) (pa_cons (pv 1) pa_nil))))))
theorem ok_Shelf_renew {f : Addr} {fd : FuncData} (F : FunD K "renew" "Shelf.renew" (defArgs s_Shelf_renew) (defBody s_Shelf_renew) (defScope s_Shelf_renew) [] [] f fd) (T : Tx K mg) (G_renewed : FnG P w K mg base (L2.CX P w) "renewed" ["letters", "many"] 2 (sp_renewed K)) : FnOk P w K mg base (L2.CX P w) 3 f fd ["self"] (sp_Shelf_renew K) := by
  refine F.ok sc_Shelf_renew len_Shelf_renew (fun cdv A outer s H vs Q E hr h => ⟨t_Shelf_renew K E, ?_, pure_Shelf_renew T.kx vs H Q E h⟩)
  have nd := sc_Shelf_renew.nd
  have hu := hu_of hr
  have htk : Takes (cxOf (L2.CX P w) P w K mg base ["self"] "Shelf.renew" (defScope s_Shelf_renew) f cdv A outer s H E) (fun c d _ H => E c d H) := takes_of rfl rfl rfl rfl
  have hpx : Passes (L2.CX P w) (cxOf (L2.CX P w) P w K mg base ["self"] "Shelf.renew" (defScope s_Shelf_renew) f cdv A outer s H E) E := passes_call htk fun _ _ _ _ z => z
  have hps : PassesOwn (model P w) (A.deeper (envOfC "Shelf.renew" (defScope s_Shelf_renew) s.heap.objs.size f cdv)) (envOfC "Shelf.renew" (defScope s_Shelf_renew) s.heap.objs.size f cdv) (cxOf (L2.CX P w) P w K mg base ["self"] "Shelf.renew" (defScope s_Shelf_renew) f cdv A outer s H E).xe := passes_of (X := cxOf (L2.CX P w) P w K mg base ["self"] "Shelf.renew" (defScope s_Shelf_renew) f cdv A outer s H E) rfl
  exact (pss_trim (pss_cons (ps_fld (pv 0) (pe_G G_renewed hr (by decide) rfl hpx (pa_cons (pe_fld (pv 0) rfl) (pa_cons (pe_callB call_len_seq (by rfl) T.n_len (by decide +kernel) (pa_cons (pe_fld (pv 0) rfl) pa_nil)) pa_nil))) rfl)
    (pss_one (ps_ret (pe_callTy call_list_of (by rfl) T.n_list (by decide +kernel) (pa_cons (pe_fld (pv 0) rfl) pa_nil))))))
theorem ok_Shelf_marks {f : Addr} {fd : FuncData} (F : FunD K "marks" "Shelf.marks" (defArgs s_Shelf_marks) (defBody s_Shelf_marks) (defScope s_Shelf_marks) [] [] f fd) (T : Tx K mg) : FnOk P w K mg base (L2.CX P w) 1 f fd ["self"] (sp_Shelf_marks K) := by
  refine F.ok sc_Shelf_marks len_Shelf_marks (fun cdv A outer s H vs Q E hr h => ⟨t_Shelf_marks K E, ?_, pure_Shelf_marks T.kx vs H Q E h⟩)
  have nd := sc_Shelf_marks.nd
  have hu := hu_of hr
  have htk : Takes (cxOf (L2.CX P w) P w K mg base ["self"] "Shelf.marks" (defScope s_Shelf_marks) f cdv A outer s H E) (fun c d _ H => E c d H) := takes_of rfl rfl rfl rfl
  have hpx : Passes (L2.CX P w) (cxOf (L2.CX P w) P w K mg base ["self"] "Shelf.marks" (defScope s_Shelf_marks) f cdv A outer s H E) E := passes_call htk fun _ _ _ _ z => z
  have hps : PassesOwn (model P w) (A.deeper (envOfC "Shelf.marks" (defScope s_Shelf_marks) s.heap.objs.size f cdv)) (envOfC "Shelf.marks" (defScope s_Shelf_marks) s.heap.objs.size f cdv) (cxOf (L2.CX P w) P w K mg base ["self"] "Shelf.marks" (defScope s_Shelf_marks) f cdv A outer s H E).xe := passes_of (X := cxOf (L2.CX P w) P w K mg base ["self"] "Shelf.marks" (defScope s_Shelf_marks) f cdv A outer s H E) rfl
  exact (pss_trim (pss_one (ps_ret (pe_callTy call_list_of (by rfl) T.n_list (by decide +kernel) (pa_cons (pe_fld (pv 0) rfl) pa_nil)))))
theorem ok_Shelf_things {f : Addr} {fd : FuncData} (F : FunD K "things" "Shelf.things" (defArgs s_Shelf_things) (defBody s_Shelf_things) (defScope s_Shelf_things) [] [] f fd) (T : Tx K mg) : FnOk P w K mg base (L2.CX P w) 1 f fd ["self"] (sp_Shelf_things K) := by
  refine F.ok sc_Shelf_things len_Shelf_things (fun cdv A outer s H vs Q E hr h => ⟨t_Shelf_things K E, ?_, pure_Shelf_things T.kx vs H Q E h⟩)
  have nd := sc_Shelf_things.nd
  have hu := hu_of hr
  have htk : Takes (cxOf (L2.CX P w) P w K mg base ["self"] "Shelf.things" (defScope s_Shelf_things) f cdv A outer s H E) (fun c d _ H => E c d H) := takes_of rfl rfl rfl rfl
  have hpx : Passes (L2.CX P w) (cxOf (L2.CX P w) P w K mg base ["self"] "Shelf.things" (defScope s_Shelf_things) f cdv A outer s H E) E := passes_call htk fun _ _ _ _ z => z
  have hps : PassesOwn (model P w) (A.deeper (envOfC "Shelf.things" (defScope s_Shelf_things) s.heap.objs.size f cdv)) (envOfC "Shelf.things" (defScope s_Shelf_things) s.heap.objs.size f cdv) (cxOf (L2.CX P w) P w K mg base ["self"] "Shelf.things" (defScope s_Shelf_things) f cdv A outer s H E).xe := passes_of (X := cxOf (L2.CX P w) P w K mg base ["self"] "Shelf.things" (defScope s_Shelf_things) f cdv A outer s H E) rfl
  exact (pss_trim (pss_one (ps_ret (pe_callTy call_list_of (by rfl) T.n_list (by decide +kernel) (pa_cons (pe_fld (pv 0) rfl) pa_nil)))))
theorem ok_Shelf_longest {f : Addr} {fd : FuncData} (F : FunD K "longest" "Shelf.longest" (defArgs s_Shelf_longest) (defBody s_Shelf_longest) (defScope s_Shelf_longest) [] [] f fd) (T : Tx K mg) : FnOk P w K mg base (L2.CX P w) 1 f fd ["self"] (sp_Shelf_longest K) := by
  refine F.ok sc_Shelf_longest len_Shelf_longest (fun cdv A outer s H vs Q E hr h => ⟨t_Shelf_longest K E, ?_, pure_Shelf_longest T.kx vs H Q E h⟩)
  have nd := sc_Shelf_longest.nd
  have hu := hu_of hr
  have htk : Takes (cxOf (L2.CX P w) P w K mg base ["self", "mark"] "Shelf.longest" (defScope s_Shelf_longest) f cdv A outer s H E) (fun c d _ H => E c d H) := takes_of rfl rfl rfl rfl
  have hpx : Passes (L2.CX P w) (cxOf (L2.CX P w) P w K mg base ["self", "mark"] "Shelf.longest" (defScope s_Shelf_longest) f cdv A outer s H E) E := passes_call htk fun _ _ _ _ z => z
  have hps : PassesOwn (model P w) (A.deeper (envOfC "Shelf.longest" (defScope s_Shelf_longest) s.heap.objs.size f cdv)) (envOfC "Shelf.longest" (defScope s_Shelf_longest) s.heap.objs.size f cdv) (cxOf (L2.CX P w) P w K mg base ["self", "mark"] "Shelf.longest" (defScope s_Shelf_longest) f cdv A outer s H E).xe := passes_of (X := cxOf (L2.CX P w) P w K mg base ["self", "mark"] "Shelf.longest" (defScope s_Shelf_longest) f cdv A outer s H E) rfl
  exact (pss_trim (pss_one (ps_ret (pe_trim (pe_callBK (call_maxDef rfl) (by rfl) T.n_max (by decide +kernel) (pa_cons (pe_lc (own := [("mark", 1)]) rfl nd (pi_list (pe_fld (pv 0) rfl)) (blkOk_by (own := [("mark", 1)]) (N := ["self", "mark"]) (sc := defScope s_Shelf_longest) (by decide +kernel)) (fun _ _ _ _ _ => (pg_name (i := 1) nd rfl (by first | exact Or.inl rfl | exact Or.inr rfl))) (fun _ _ _ _ _ => pts_nil) (fun _ _ _ _ _ => (pe_callB call_len_str (by rfl) T.n_len (by decide +kernel) (pa_cons (pv 1) pa_nil)))) pa_nil) (pk_cons pe_int pk_nil))))))
theorem ok_law_draw {f : Addr} {fd : FuncData} (F : FunD K "_law_draw" "_law_draw" (defArgs s_law_draw) (defBody s_law_draw) (defScope s_law_draw) [] [] f fd) (T : Tx K mg) : FnOk P w K mg base (L2.CX P w) 1 f fd ["script", "k", "many"] (sp_law_draw K) := by
  refine F.ok sc_law_draw len_law_draw (fun cdv A outer s H vs Q E hr h => ⟨t_law_draw K E, ?_, pure_law_draw T.kx vs H Q E h⟩)
  have nd := sc_law_draw.nd
  have hu := hu_of hr
  have htk : Takes (cxOf (L2.CX P w) P w K mg base ["script", "k", "many", "cell", "seed"] "_law_draw" (defScope s_law_draw) f cdv A outer s H E) (fun c d _ H => E c d H) := takes_of rfl rfl rfl rfl
  have hpx : Passes (L2.CX P w) (cxOf (L2.CX P w) P w K mg base ["script", "k", "many", "cell", "seed"] "_law_draw" (defScope s_law_draw) f cdv A outer s H E) E := passes_call htk fun _ _ _ _ z => z
  have hps : PassesOwn (model P w) (A.deeper (envOfC "_law_draw" (defScope s_law_draw) s.heap.objs.size f cdv)) (envOfC "_law_draw" (defScope s_law_draw) s.heap.objs.size f cdv) (cxOf (L2.CX P w) P w K mg base ["script", "k", "many", "cell", "seed"] "_law_draw" (defScope s_law_draw) f cdv A outer s H E).xe := passes_of (X := cxOf (L2.CX P w) P w K mg base ["script", "k", "many", "cell", "seed"] "_law_draw" (defScope s_law_draw) f cdv A outer s H E) rfl
  exact (pss_meet (ps_set (i := 3) nd rfl (by first | exact Or.inl rfl | exact Or.inr rfl) (pe_ifExp (pt_cmpR op_gt (pe_callB call_len_seq (by rfl) T.n_len (by decide +kernel) (pa_cons (pv 0) pa_nil)) pe_int (nomark _)) (pe_ix ix_list (pv 0) (pe_op op_mod (pv 1) (pe_callB call_len_seq (by rfl) T.n_len (by decide +kernel) (pa_cons (pv 0) pa_nil))) (fun _ _ => rfl)) pe_int))
    (pss_meet (ps_if (PW.pt (pw_and (pt_cmpR op_gt (pe_callB call_len_seq (by rfl) T.n_len (by decide +kernel) (pa_cons (pv 0) pa_nil)) pe_int (nomark _)) (pw_and1 (pt_cmpR op_eq (pe_op op_mod (pe_ix ix_list (pv 0) pe_int (fun _ _ => rfl)) pe_int) pe_int (nomark _)))))
    (pss_one (ps_ret (pe_op op_mod (pe_op op_mod (pe_op op_shr (pv 3) (pe_op op_add (pe_op op_mulW pe_int (pe_op op_fdivW (pv 1) (pe_callB call_len_seq (by rfl) T.n_len (by decide +kernel) (pa_cons (pv 0) pa_nil)))) pe_int)) pe_int) (pv 2))))
    pss_nil)
    (pss_cons (ps_set (i := 4) nd rfl (by first | exact Or.inl rfl | exact Or.inr rfl) (pe_op op_add (pe_op op_add (pe_op op_mod (pv 3) pe_int) (pe_op op_mulW (pe_op op_mulW pe_int (pv 1)) (pv 1))) pe_int))
    (pss_one (ps_ret (pe_op op_mod (pe_op op_mod (pe_op op_mulW (pe_op op_mod (pe_op op_mulW (pv 4) pe_int) pe_int) pe_int) pe_int) (pv 2)))))))
theorem ok_law_whole {f : Addr} {fd : FuncData} (F : FunD K "_law_whole" "_law_whole" (defArgs s_law_whole) (defBody s_law_whole) (defScope s_law_whole) [] [] f fd) (T : Tx K mg) : FnOk P w K mg base (L2.CX P w) 1 f fd ["letters", "mark", "long"] (sp_law_whole K) := by
  refine F.ok sc_law_whole len_law_whole (fun cdv A outer s H vs Q E hr h => ⟨t_law_whole K E, ?_, pure_law_whole T.kx vs H Q E h⟩)
  have nd := sc_law_whole.nd
  have hu := hu_of hr
  have htk : Takes (cxOf (L2.CX P w) P w K mg base ["letters", "mark", "long", "whole", "k"] "_law_whole" (defScope s_law_whole) f cdv A outer s H E) (fun c d _ H => E c d H) := takes_of rfl rfl rfl rfl
  have hpx : Passes (L2.CX P w) (cxOf (L2.CX P w) P w K mg base ["letters", "mark", "long", "whole", "k"] "_law_whole" (defScope s_law_whole) f cdv A outer s H E) E := passes_call htk fun _ _ _ _ z => z
  have hps : PassesOwn (model P w) (A.deeper (envOfC "_law_whole" (defScope s_law_whole) s.heap.objs.size f cdv)) (envOfC "_law_whole" (defScope s_law_whole) s.heap.objs.size f cdv) (cxOf (L2.CX P w) P w K mg base ["letters", "mark", "long", "whole", "k"] "_law_whole" (defScope s_law_whole) f cdv A outer s H E).xe := passes_of (X := cxOf (L2.CX P w) P w K mg base ["letters", "mark", "long", "whole", "k"] "_law_whole" (defScope s_law_whole) f cdv A outer s H E) rfl
  exact (pss_cons (ps_set (i := 3) nd rfl (by first | exact Or.inl rfl | exact Or.inr rfl) pe_int)
    (pss_cons (ps_for hps rfl (pi_range1 (by rfl) T.n_range (pa_cons (pv 2) pa_nil)) (pg_name (i := 4) nd rfl (by first | exact Or.inl rfl | exact Or.inr rfl))
    (pss_cons (ps_set (i := 3) nd rfl (by first | exact Or.inl rfl | exact Or.inr rfl) (pe_op op_mulW (pv 3) (pv 0)))
    (pss_one (ps_if (pt_cmpR op_lt (pv 4) (pe_callB call_len_str (by rfl) T.n_len (by decide +kernel) (pa_cons (pv 1) pa_nil)) (nomark _))
    (pss_one (ps_set (i := 3) nd rfl (by first | exact Or.inl rfl | exact Or.inr rfl) (pe_op op_add (pv 3) (pe_bmS PySem.F.plainAttrs_str PySem.F.slot_str_index PySem.F.type_str_index (mt_indexS rfl) pe_str (pa_cons (pe_ix ix_str (pv 1) (pv 4) (fun _ _ => rfl)) pa_nil)))))
    pss_nil))))
    (pss_one (ps_ret (pv 3)))))
theorem ok_law_text {f : Addr} {fd : FuncData} (F : FunD K "_law_text" "_law_text" (defArgs s_law_text) (defBody s_law_text) (defScope s_law_text) [] [] f fd) (T : Tx K mg) : FnOk P w K mg base (L2.CX P w) 1 f fd ["letters", "number", "long"] (sp_law_text K) := by
  refine F.ok sc_law_text len_law_text (fun cdv A outer s H vs Q E hr h => ⟨t_law_text K E, ?_, pure_law_text T.kx vs H Q E h⟩)
  have nd := sc_law_text.nd
  have hu := hu_of hr
  have htk : Takes (cxOf (L2.CX P w) P w K mg base ["letters", "number", "long", "text", "k"] "_law_text" (defScope s_law_text) f cdv A outer s H E) (fun c d _ H => E c d H) := takes_of rfl rfl rfl rfl
  have hpx : Passes (L2.CX P w) (cxOf (L2.CX P w) P w K mg base ["letters", "number", "long", "text", "k"] "_law_text" (defScope s_law_text) f cdv A outer s H E) E := passes_call htk fun _ _ _ _ z => z
  have hps : PassesOwn (model P w) (A.deeper (envOfC "_law_text" (defScope s_law_text) s.heap.objs.size f cdv)) (envOfC "_law_text" (defScope s_law_text) s.heap.objs.size f cdv) (cxOf (L2.CX P w) P w K mg base ["letters", "number", "long", "text", "k"] "_law_text" (defScope s_law_text) f cdv A outer s H E).xe := passes_of (X := cxOf (L2.CX P w) P w K mg base ["letters", "number", "long", "text", "k"] "_law_text" (defScope s_law_text) f cdv A outer s H E) rfl
  exact (pss_cons (ps_set (i := 3) nd rfl (by first | exact Or.inl rfl | exact Or.inr rfl) pe_str)
    (pss_cons (ps_for hps rfl (pi_range1 (by rfl) T.n_range (pa_cons (pv 2) pa_nil)) (pg_name (i := 4) nd rfl (by first | exact Or.inl rfl | exact Or.inr rfl))
    (pss_cons (ps_set (i := 3) nd rfl (by first | exact Or.inl rfl | exact Or.inr rfl) (pe_op op_add_str (pe_ix ix_str pe_str (pe_op op_mod (pv 1) (pv 0)) (fun _ _ => rfl)) (pv 3)))
    (pss_one (ps_set (i := 1) nd rfl (by first | exact Or.inl rfl | exact Or.inr rfl) (pe_op op_fdivW (pv 1) (pv 0))))))
    (pss_one (ps_ret (pe_bm PySem.F.plainAttrs_str PySem.F.slot_str_rstrip PySem.F.type_str_rstrip mt_rstripChars (pv 3) (pa_cons pe_str pa_nil))))))
theorem ok_law_span {f : Addr} {fd : FuncData} (F : FunD K "_law_span" "_law_span" (defArgs s_law_span) (defBody s_law_span) (defScope s_law_span) [] [] f fd) (T : Tx K mg) (G_law_whole : FnG P w K mg base (L2.CX P w) "_law_whole" ["letters", "mark", "long"] 1 (sp_law_whole K)) : FnOk P w K mg base (L2.CX P w) 2 f fd ["letters", "low", "high", "long"] (sp_law_span K) := by
  refine F.ok sc_law_span len_law_span (fun cdv A outer s H vs Q E hr h => ⟨t_law_span K E, ?_, pure_law_span T.kx vs H Q E h⟩)
  have nd := sc_law_span.nd
  have hu := hu_of hr
  have htk : Takes (cxOf (L2.CX P w) P w K mg base ["letters", "low", "high", "long", "least", "power", "k", "most"] "_law_span" (defScope s_law_span) f cdv A outer s H E) (fun c d _ H => E c d H) := takes_of rfl rfl rfl rfl
  have hpx : Passes (L2.CX P w) (cxOf (L2.CX P w) P w K mg base ["letters", "low", "high", "long", "least", "power", "k", "most"] "_law_span" (defScope s_law_span) f cdv A outer s H E) E := passes_call htk fun _ _ _ _ z => z
  have hps : PassesOwn (model P w) (A.deeper (envOfC "_law_span" (defScope s_law_span) s.heap.objs.size f cdv)) (envOfC "_law_span" (defScope s_law_span) s.heap.objs.size f cdv) (cxOf (L2.CX P w) P w K mg base ["letters", "low", "high", "long", "least", "power", "k", "most"] "_law_span" (defScope s_law_span) f cdv A outer s H E).xe := passes_of (X := cxOf (L2.CX P w) P w K mg base ["letters", "low", "high", "long", "least", "power", "k", "most"] "_law_span" (defScope s_law_span) f cdv A outer s H E) rfl
  exact (pss_trim (pss_cons (ps_set (i := 4) nd rfl (by first | exact Or.inl rfl | exact Or.inr rfl) pe_int)
    (pss_meet (ps_if (pt_cmpR op_notN (pv 1) pe_non (nomark _))
    (pss_one (ps_set (i := 4) nd rfl (by first | exact Or.inl rfl | exact Or.inr rfl) (pe_op op_add (pe_G G_law_whole hr (by decide) rfl hpx (pa_cons (pv 0) (pa_cons (pv 1) (pa_cons (pv 3) pa_nil)))) pe_int)))
    pss_nil)
    (pss_cons (ps_set (i := 5) nd rfl (by first | exact Or.inl rfl | exact Or.inr rfl) pe_int)
    (pss_cons (ps_for hps rfl (pi_range1 (by rfl) T.n_range (pa_cons (pv 3) pa_nil)) (pg_name (i := 6) nd rfl (by first | exact Or.inl rfl | exact Or.inr rfl))
    (pss_one (ps_set (i := 5) nd rfl (by first | exact Or.inl rfl | exact Or.inr rfl) (pe_op op_mulW (pv 5) (pv 0)))))
    (pss_cons (ps_set (i := 7) nd rfl (by first | exact Or.inl rfl | exact Or.inr rfl) (pe_op op_sub (pv 5) pe_int))
    (pss_meet (ps_if (pt_cmpR op_notN (pv 2) pe_non (nomark _))
    (pss_one (ps_set (i := 7) nd rfl (by first | exact Or.inl rfl | exact Or.inr rfl) (pe_op op_sub (pe_G G_law_whole hr (by decide) rfl hpx (pa_cons (pv 0) (pa_cons (pv 2) (pa_cons (pv 3) pa_nil)))) (pe_callTy call_int1 (by rfl) T.n_int (by decide +kernel) (pa_cons (pe_cmpR op_le (pe_callB call_len_str (by rfl) T.n_len (by decide +kernel) (pa_cons (pv 2) pa_nil)) (pv 3) (nomark _)) pa_nil)))))
    pss_nil)
    (pss_one (ps_ret (pe_tup (pa_cons (pv 4) (pa_cons (pv 7) pa_nil))))))))))))
theorem ok_law_run {f : Addr} {fd : FuncData} (F : FunD K "_law_run" "_law_run" (defArgs s_law_run) (defBody s_law_run) (defScope s_law_run) [] [] f fd) (T : Tx K mg) (G_law_span : FnG P w K mg base (L2.CX P w) "_law_span" ["letters", "low", "high", "long"] 2 (sp_law_span K)) (G_law_text : FnG P w K mg base (L2.CX P w) "_law_text" ["letters", "number", "long"] 1 (sp_law_text K)) : FnOk P w K mg base (L2.CX P w) 3 f fd ["letters", "low", "high", "many", "spots"] (sp_law_run K) := by
  refine F.ok sc_law_run len_law_run (fun cdv A outer s H vs Q E hr h => ⟨t_law_run K E, ?_, pure_law_run T.kx vs H Q E h⟩)
  have nd := sc_law_run.nd
  have hu := hu_of hr
  have htk : Takes (cxOf (L2.CX P w) P w K mg base ["letters", "low", "high", "many", "spots", "long", "room", "below", "least", "most", "found", "k", "count", "number"] "_law_run" (defScope s_law_run) f cdv A outer s H E) (fun c d _ H => E c d H) := takes_of rfl rfl rfl rfl
  have hpx : Passes (L2.CX P w) (cxOf (L2.CX P w) P w K mg base ["letters", "low", "high", "many", "spots", "long", "room", "below", "least", "most", "found", "k", "count", "number"] "_law_run" (defScope s_law_run) f cdv A outer s H E) E := passes_call htk fun _ _ _ _ z => z
  have hps : PassesOwn (model P w) (A.deeper (envOfC "_law_run" (defScope s_law_run) s.heap.objs.size f cdv)) (envOfC "_law_run" (defScope s_law_run) s.heap.objs.size f cdv) (cxOf (L2.CX P w) P w K mg base ["letters", "low", "high", "many", "spots", "long", "room", "below", "least", "most", "found", "k", "count", "number"] "_law_run" (defScope s_law_run) f cdv A outer s H E).xe := passes_of (X := cxOf (L2.CX P w) P w K mg base ["letters", "low", "high", "many", "spots", "long", "room", "below", "least", "most", "found", "k", "count", "number"] "_law_run" (defScope s_law_run) f cdv A outer s H E) rfl
  exact (pss_trim (pss_cons (ps_trim (ps_asg (pe_tup (pa_cons pe_int (pa_cons pe_int (pa_cons pe_int pa_nil)))) (pg_tup rfl (pgs_cons (pg_name (i := 5) nd rfl (by first | exact Or.inl rfl | exact Or.inr rfl)) (pgs_cons (pg_name (i := 6) nd rfl (by first | exact Or.inl rfl | exact Or.inr rfl)) (pgs_cons (pg_name (i := 7) nd rfl (by first | exact Or.inl rfl | exact Or.inr rfl)) pgs_nil))))))
    (pss_cons (ps_while hps (pt_cmpR op_lt (pv 6) (pv 3) (nomark _)) (pss_cons (ps_set (i := 5) nd rfl (by first | exact Or.inl rfl | exact Or.inr rfl) (pe_op op_add (pv 5) pe_int))
    (pss_cons (ps_trim (ps_asg (pe_G G_law_span hr (by decide) rfl hpx (pa_cons (pv 0) (pa_cons (pv 1) (pa_cons (pv 2) (pa_cons (pv 5) pa_nil))))) (pg_tup rfl (pgs_cons (pg_name (i := 8) nd rfl (by first | exact Or.inl rfl | exact Or.inr rfl)) (pgs_cons (pg_name (i := 9) nd rfl (by first | exact Or.inl rfl | exact Or.inr rfl)) pgs_nil)))))
    (pss_cons (ps_set (i := 7) nd rfl (by first | exact Or.inl rfl | exact Or.inr rfl) (pe_op op_sub (pe_op op_sub (pv 8) pe_int) (pe_op op_fdivW (pe_op op_sub (pv 8) pe_int) (pv 0))))
    (pss_one (ps_set (i := 6) nd rfl (by first | exact Or.inl rfl | exact Or.inr rfl) (pe_op op_sub (pe_op op_sub (pv 9) (pe_op op_fdivW (pv 9) (pv 0))) (pv 7))))))))
    (pss_cons (ps_set (i := 10) nd rfl (by first | exact Or.inl rfl | exact Or.inr rfl) (pe_lst pa_nil))
    (pss_cons (ps_for hps rfl (pi_list (pv 4)) (pg_name (i := 11) nd rfl (by first | exact Or.inl rfl | exact Or.inr rfl))
    (pss_cons (ps_set (i := 12) nd rfl (by first | exact Or.inl rfl | exact Or.inr rfl) (pe_op op_add (pv 7) (pe_op op_fdivW (pe_op op_mulW (pe_op op_add (pv 11) pe_int) (pe_op op_add (pv 6) pe_int)) (pe_op op_add (pv 3) pe_int))))
    (pss_cons (ps_set (i := 13) nd rfl (by first | exact Or.inl rfl | exact Or.inr rfl) (pe_op op_add (pe_op op_add (pe_op op_mulW (pe_op op_fdivW (pe_op op_sub (pv 12) pe_int) (pe_op op_sub (pv 0) pe_int)) (pv 0)) (pe_op op_mod (pe_op op_sub (pv 12) pe_int) (pe_op op_sub (pv 0) pe_int))) pe_int))
    (pss_one (ps_expr (pe_bm PySem.F.plainAttrs_list PySem.F.slot_list_append PySem.F.type_list_append mt_append (pv 10) (pa_cons (pe_G G_law_text hr (by decide) rfl hpx (pa_cons (pv 0) (pa_cons (pv 13) (pa_cons (pv 5) pa_nil)))) pa_nil)))))))
    (pss_one (ps_ret (pe_tup (pa_cons (pv 10) (pa_cons (pv 5) pa_nil))))))))))
theorem ok_law_renewed {f : Addr} {fd : FuncData} (F : FunD K "_law_renewed" "_law_renewed" (defArgs s_law_renewed) (defBody s_law_renewed) (defScope s_law_renewed) [] [] f fd) (T : Tx K mg) (G_law_text : FnG P w K mg base (L2.CX P w) "_law_text" ["letters", "number", "long"] 1 (sp_law_text K)) : FnOk P w K mg base (L2.CX P w) 2 f fd ["letters", "many", "spots"] (sp_law_renewed K) := by
  refine F.ok sc_law_renewed len_law_renewed (fun cdv A outer s H vs Q E hr h => ⟨t_law_renewed K E, ?_, pure_law_renewed T.kx vs H Q E h⟩)
  have nd := sc_law_renewed.nd
  have hu := hu_of hr
  have htk : Takes (cxOf (L2.CX P w) P w K mg base ["letters", "many", "spots", "long", "count", "k"] "_law_renewed" (defScope s_law_renewed) f cdv A outer s H E) (fun c d _ H => E c d H) := takes_of rfl rfl rfl rfl
  have hpx : Passes (L2.CX P w) (cxOf (L2.CX P w) P w K mg base ["letters", "many", "spots", "long", "count", "k"] "_law_renewed" (defScope s_law_renewed) f cdv A outer s H E) E := passes_call htk fun _ _ _ _ z => z
  have hps : PassesOwn (model P w) (A.deeper (envOfC "_law_renewed" (defScope s_law_renewed) s.heap.objs.size f cdv)) (envOfC "_law_renewed" (defScope s_law_renewed) s.heap.objs.size f cdv) (cxOf (L2.CX P w) P w K mg base ["letters", "many", "spots", "long", "count", "k"] "_law_renewed" (defScope s_law_renewed) f cdv A outer s H E).xe := passes_of (X := cxOf (L2.CX P w) P w K mg base ["letters", "many", "spots", "long", "count", "k"] "_law_renewed" (defScope s_law_renewed) f cdv A outer s H E) rfl
  exact (pss_trim (pss_cons (ps_trim (ps_asg (pe_tup (pa_cons pe_int (pa_cons pe_int pa_nil))) (pg_tup rfl (pgs_cons (pg_name (i := 3) nd rfl (by first | exact Or.inl rfl | exact Or.inr rfl)) (pgs_cons (pg_name (i := 4) nd rfl (by first | exact Or.inl rfl | exact Or.inr rfl)) pgs_nil)))))
    (pss_cons (ps_while hps (pt_cmpR op_lt (pe_op op_sub (pv 4) pe_int) (pv 1) (nomark _)) (pss_cons (ps_set (i := 3) nd rfl (by first | exact Or.inl rfl | exact Or.inr rfl) (pe_op op_add (pv 3) pe_int))
    (pss_one (ps_set (i := 4) nd rfl (by first | exact Or.inl rfl | exact Or.inr rfl) (pe_op op_mulW (pv 4) (pv 0))))))
    (pss_one (ps_ret (pe_trim (pe_tup (pa_cons (pe_lc (own := [("k", 5)]) rfl nd (pi_list (pv 2)) (blkOk_by (own := [("k", 5)]) (N := ["letters", "many", "spots", "long", "count", "k"]) (sc := defScope s_law_renewed) (by decide +kernel)) (fun _ _ _ _ _ => (pg_name (i := 5) nd rfl (by first | exact Or.inl rfl | exact Or.inr rfl))) (fun _ _ _ _ _ => pts_nil) (fun _ _ _ _ _ => (pe_G G_law_text hr (by decide) rfl passL (pa_cons (pv 0) (pa_cons (pe_op op_fdivW (pe_op op_mulW (pe_op op_add (pv 5) pe_int) (pv 4)) (pe_op op_add (pv 1) pe_int)) (pa_cons (pv 3) pa_nil)))))) (pa_cons (pv 3) pa_nil)))))))))
theorem ok_law_spots {f : Addr} {fd : FuncData} (F : FunD K "_law_spots" "_law_spots" (defArgs s_law_spots) (defBody s_law_spots) (defScope s_law_spots) [] [] f fd) (T : Tx K mg) (G_law_draw : FnG P w K mg base (L2.CX P w) "_law_draw" ["script", "k", "many"] 1 (sp_law_draw K)) : FnOk P w K mg base (L2.CX P w) 2 f fd ["script", "base", "many"] (sp_law_spots K) := by
  refine F.ok sc_law_spots len_law_spots (fun cdv A outer s H vs Q E hr h => ⟨t_law_spots K E, ?_, pure_law_spots T.kx vs H Q E h⟩)
  have nd := sc_law_spots.nd
  have hu := hu_of hr
  have htk : Takes (cxOf (L2.CX P w) P w K mg base ["script", "base", "many", "k"] "_law_spots" (defScope s_law_spots) f cdv A outer s H E) (fun c d _ H => E c d H) := takes_of rfl rfl rfl rfl
  have hpx : Passes (L2.CX P w) (cxOf (L2.CX P w) P w K mg base ["script", "base", "many", "k"] "_law_spots" (defScope s_law_spots) f cdv A outer s H E) E := passes_call htk fun _ _ _ _ z => z
  have hps : PassesOwn (model P w) (A.deeper (envOfC "_law_spots" (defScope s_law_spots) s.heap.objs.size f cdv)) (envOfC "_law_spots" (defScope s_law_spots) s.heap.objs.size f cdv) (cxOf (L2.CX P w) P w K mg base ["script", "base", "many", "k"] "_law_spots" (defScope s_law_spots) f cdv A outer s H E).xe := passes_of (X := cxOf (L2.CX P w) P w K mg base ["script", "base", "many", "k"] "_law_spots" (defScope s_law_spots) f cdv A outer s H E) rfl
  exact (pss_trim (pss_one (ps_ret (pe_trim (pe_sortSetI rfl (by rfl) T.n_sorted (by rfl) T.n_set (pe_op op_cat (pe_lst (pa_cons pe_int (pa_cons (pe_op op_sub (pv 2) pe_int) pa_nil))) (pe_lc (own := [("k", 3)]) rfl nd (pi_range1 (by rfl) T.n_range (pa_cons pe_int pa_nil)) (blkOk_by (own := [("k", 3)]) (N := ["script", "base", "many", "k"]) (sc := defScope s_law_spots) (by decide +kernel)) (fun _ _ _ _ _ => (pg_name (i := 3) nd rfl (by first | exact Or.inl rfl | exact Or.inr rfl))) (fun _ _ _ _ _ => pts_nil) (fun _ _ _ _ _ => (pe_G G_law_draw hr (by decide) rfl passL (pa_cons (pv 0) (pa_cons (pe_op op_add (pv 1) (pv 3)) (pa_cons (pv 2) pa_nil))))))))))))
theorem ok_law_round {f : Addr} {fd : FuncData} (F : FunD K "_law_round" "_law_round" (defArgs s_law_round) (defBody s_law_round) (defScope s_law_round) [] [] f fd) (T : Tx K mg) : FnOk P w K mg base (L2.CX P w) 1 f fd ["marks", "place"] (sp_law_round K) := by
  refine F.ok sc_law_round len_law_round (fun cdv A outer s H vs Q E hr h => ⟨t_law_round K E, ?_, pure_law_round T.kx vs H Q E h⟩)
  have nd := sc_law_round.nd
  have hu := hu_of hr
  have htk : Takes (cxOf (L2.CX P w) P w K mg base ["marks", "place", "low"] "_law_round" (defScope s_law_round) f cdv A outer s H E) (fun c d _ H => E c d H) := takes_of rfl rfl rfl rfl
  have hpx : Passes (L2.CX P w) (cxOf (L2.CX P w) P w K mg base ["marks", "place", "low"] "_law_round" (defScope s_law_round) f cdv A outer s H E) E := passes_call htk fun _ _ _ _ z => z
  have hps : PassesOwn (model P w) (A.deeper (envOfC "_law_round" (defScope s_law_round) s.heap.objs.size f cdv)) (envOfC "_law_round" (defScope s_law_round) s.heap.objs.size f cdv) (cxOf (L2.CX P w) P w K mg base ["marks", "place", "low"] "_law_round" (defScope s_law_round) f cdv A outer s H E).xe := passes_of (X := cxOf (L2.CX P w) P w K mg base ["marks", "place", "low"] "_law_round" (defScope s_law_round) f cdv A outer s H E) rfl
  exact (pss_trim (pss_meet (ps_set (i := 2) nd rfl (by first | exact Or.inl rfl | exact Or.inr rfl) (pe_ifExp (pt_cmpR op_gt (pv 1) pe_int (nomark _)) (pe_ix ix_list (pv 0) (pe_op op_sub (pv 1) pe_int) (fun _ _ => rfl)) pe_non))
    (pss_one (ps_ret (pe_tup (pa_cons (pv 2) (pa_cons (pe_ifExp (pt_cmpR op_lt (pv 1) (pe_callB call_len_seq (by rfl) T.n_len (by decide +kernel) (pa_cons (pv 0) pa_nil)) (nomark _)) (pe_ix ix_list (pv 0) (pv 1) (fun _ _ => rfl)) pe_non) pa_nil)))))))
theorem ok_law_shown {f : Addr} {fd : FuncData} (F : FunD K "_law_shown" "_law_shown" (defArgs s_law_shown) (defBody s_law_shown) (defScope s_law_shown) [] [] f fd) (T : Tx K mg) (G_Shelf_longest : FnM P w K mg base (L2.CX P w) (He.ga K "Shelf") "longest" ["self"] 1 (sp_Shelf_longest K)) (G_Shelf_marks : FnM P w K mg base (L2.CX P w) (He.ga K "Shelf") "marks" ["self"] 1 (sp_Shelf_marks K)) (G_Shelf_things : FnM P w K mg base (L2.CX P w) (He.ga K "Shelf") "things" ["self"] 1 (sp_Shelf_things K)) : FnOk P w K mg base (L2.CX P w) 2 f fd ["shelf", "things", "marks"] (sp_law_shown K) := by
  refine F.ok sc_law_shown len_law_shown (fun cdv A outer s H vs Q E hr h => ⟨t_law_shown K E, ?_, pure_law_shown T.kx vs H Q E h⟩)
  have nd := sc_law_shown.nd
  have hu := hu_of hr
  have htk : Takes (cxOf (L2.CX P w) P w K mg base ["shelf", "things", "marks", "turn", "told", "mark"] "_law_shown" (defScope s_law_shown) f cdv A outer s H E) (fun c d _ H => E c d H) := takes_of rfl rfl rfl rfl
  have hpx : Passes (L2.CX P w) (cxOf (L2.CX P w) P w K mg base ["shelf", "things", "marks", "turn", "told", "mark"] "_law_shown" (defScope s_law_shown) f cdv A outer s H E) E := passes_call htk fun _ _ _ _ z => z
  have hps : PassesOwn (model P w) (A.deeper (envOfC "_law_shown" (defScope s_law_shown) s.heap.objs.size f cdv)) (envOfC "_law_shown" (defScope s_law_shown) s.heap.objs.size f cdv) (cxOf (L2.CX P w) P w K mg base ["shelf", "things", "marks", "turn", "told", "mark"] "_law_shown" (defScope s_law_shown) f cdv A outer s H E).xe := passes_of (X := cxOf (L2.CX P w) P w K mg base ["shelf", "things", "marks", "turn", "told", "mark"] "_law_shown" (defScope s_law_shown) f cdv A outer s H E) rfl
  exact (pss_trim (pss_cons (ps_for hps rfl (pi_range1 (by rfl) T.n_range (pa_cons pe_int pa_nil)) (pg_name (i := 3) nd rfl (by first | exact Or.inl rfl | exact Or.inr rfl))
    (pss_cons (ps_set (i := 4) nd rfl (by first | exact Or.inl rfl | exact Or.inr rfl) (pe_trim (pe_lst (pa_cons (pe_Gm0 G_Shelf_things hr (by decide) (pv 0) T.kx.c_Shelf hpx) (pa_cons (pe_Gm0 G_Shelf_marks hr (by decide) (pv 0) T.kx.c_Shelf hpx) (pa_cons (pe_Gm0 G_Shelf_longest hr (by decide) (pv 0) T.kx.c_Shelf hpx) pa_nil))))))
    (pss_cons (ps_if (pt_trim (pt_cmpR (op_neD hr.units) (pv 4) (pe_lst (pa_cons (pv 1) (pa_cons (pv 2) (pa_cons (pe_callBK (call_maxDef rfl) (by rfl) T.n_max (by decide +kernel) (pa_cons (pe_lc (own := [("mark", 5)]) rfl nd (pi_list (pv 2)) (blkOk_by (own := [("mark", 5)]) (N := ["shelf", "things", "marks", "turn", "told", "mark"]) (sc := defScope s_law_shown) (by decide +kernel)) (fun _ _ _ _ _ => (pg_name (i := 5) nd rfl (by first | exact Or.inl rfl | exact Or.inr rfl))) (fun _ _ _ _ _ => pts_nil) (fun _ _ _ _ _ => (pe_callB call_len_str (by rfl) T.n_len (by decide +kernel) (pa_cons (pv 5) pa_nil)))) pa_nil) (pk_cons pe_int pk_nil)) pa_nil)))) (nomark _)))
    (pss_one (ps_ret pe_bl))
    pss_nil)
    (pss_cons (ps_expr (pe_bm PySem.F.plainAttrs_list PySem.F.slot_list_append PySem.F.type_list_append mt_append (pe_ix ix_list (pv 4) pe_int (fun _ _ => rfl)) (pa_cons pe_str pa_nil)))
    (pss_one (ps_expr (pe_bm0 PySem.F.plainAttrs_list PySem.F.slot_list_clear PySem.F.type_list_clear mt_clear (pe_ix ix_list (pv 4) pe_int (fun _ _ => rfl)))))))))
    (pss_one (ps_ret pe_bl))))
theorem ok_law_row_right {f : Addr} {fd : FuncData} (F : FunD K "_law_row_right" "_law_row_right" (defArgs s_law_row_right) (defBody s_law_row_right) (defScope s_law_row_right) [] [] f fd) (T : Tx K mg) (G_law_draw : FnG P w K mg base (L2.CX P w) "_law_draw" ["script", "k", "many"] 1 (sp_law_draw K)) (G_Shelf_put_row : FnM P w K mg base (L2.CX P w) (He.ga K "Shelf") "put_row" ["self", "place", "some"] 6 (sp_Shelf_put_row K)) (G_law_shown : FnG P w K mg base (L2.CX P w) "_law_shown" ["shelf", "things", "marks"] 2 (sp_law_shown K)) (G_law_spots : FnG P w K mg base (L2.CX P w) "_law_spots" ["script", "base", "many"] 2 (sp_law_spots K)) (G_law_round : FnG P w K mg base (L2.CX P w) "_law_round" ["marks", "place"] 1 (sp_law_round K)) (G_law_run : FnG P w K mg base (L2.CX P w) "_law_run" ["letters", "low", "high", "many", "spots"] 3 (sp_law_run K)) : FnOk P w K mg base (L2.CX P w) 7 f fd ["script", "base", "letters", "shelf", "kept", "many"] (sp_law_row_right K) := by
  refine F.ok sc_law_row_right len_law_row_right (fun cdv A outer s H vs Q E hr h => ⟨t_law_row_right K E, ?_, pure_law_row_right T.kx vs H Q E h⟩)
  have nd := sc_law_row_right.nd
  have hu := hu_of hr
  have htk : Takes (cxOf (L2.CX P w) P w K mg base ["script", "base", "letters", "shelf", "kept", "many", "things", "marks", "place", "row", "k", "bad", "odd", "refused", "e", "spots", "low", "high", "due", "long", "found", "mark"] "_law_row_right" (defScope s_law_row_right) f cdv A outer s H E) (fun c d _ H => E c d H) := takes_of rfl rfl rfl rfl
  have hpx : Passes (L2.CX P w) (cxOf (L2.CX P w) P w K mg base ["script", "base", "letters", "shelf", "kept", "many", "things", "marks", "place", "row", "k", "bad", "odd", "refused", "e", "spots", "low", "high", "due", "long", "found", "mark"] "_law_row_right" (defScope s_law_row_right) f cdv A outer s H E) E := passes_call htk fun _ _ _ _ z => z
  have hps : PassesOwn (model P w) (A.deeper (envOfC "_law_row_right" (defScope s_law_row_right) s.heap.objs.size f cdv)) (envOfC "_law_row_right" (defScope s_law_row_right) s.heap.objs.size f cdv) (cxOf (L2.CX P w) P w K mg base ["script", "base", "letters", "shelf", "kept", "many", "things", "marks", "place", "row", "k", "bad", "odd", "refused", "e", "spots", "low", "high", "due", "long", "found", "mark"] "_law_row_right" (defScope s_law_row_right) f cdv A outer s H E).xe := passes_of (X := cxOf (L2.CX P w) P w K mg base ["script", "base", "letters", "shelf", "kept", "many", "things", "marks", "place", "row", "k", "bad", "odd", "refused", "e", "spots", "low", "high", "due", "long", "found", "mark"] "_law_row_right" (defScope s_law_row_right) f cdv A outer s H E) rfl
  exact (pss_trim (pss_cons (ps_trim (ps_asg (pv 4) (pg_tup rfl (pgs_cons (pg_name (i := 6) nd rfl (by first | exact Or.inl rfl | exact Or.inr rfl)) (pgs_cons (pg_name (i := 7) nd rfl (by first | exact Or.inl rfl | exact Or.inr rfl)) pgs_nil)))))
    (pss_cons (ps_set (i := 8) nd rfl (by first | exact Or.inl rfl | exact Or.inr rfl) (pe_G G_law_draw hr (by decide) rfl hpx (pa_cons (pv 0) (pa_cons (pv 1) (pa_cons (pe_op op_add (pe_callB call_len_seq (by rfl) T.n_len (by decide +kernel) (pa_cons (pv 7) pa_nil)) pe_int) pa_nil)))))
    (pss_cons (ps_trim (ps_setLc (i := 9) (own := [("k", 10)]) rfl nd rfl rfl (sw_true rfl rfl rfl (by decide +kernel)) (pi_range1 (by rfl) T.n_range (pa_cons (pv 5) pa_nil)) (blkOk_by (own := [("k", 10)]) (N := ["script", "base", "letters", "shelf", "kept", "many", "things", "marks", "place", "row", "k", "bad", "odd", "refused", "e", "spots", "low", "high", "due", "long", "found", "mark"]) (sc := defScope s_law_row_right) (by decide +kernel)) (fun _ _ _ _ _ => (pg_name (i := 10) nd rfl (by first | exact Or.inl rfl | exact Or.inr rfl))) (fun _ _ _ _ _ => pts_nil) (fun _ _ _ _ _ => (pe_trim (pe_ix ix_list (pe_lst (pa_cons pe_str (pa_cons pe_str (pa_cons pe_str pa_nil)))) (pe_op op_mod (pe_op op_add (pe_op op_mulW (pv 10) (pv 10)) (pv 1)) pe_int) (fun _ _ => rfl))))))
    (pss_cons (ps_set (i := 11) nd rfl (by first | exact Or.inl rfl | exact Or.inr rfl) (pe_G G_law_draw hr (by decide) rfl hpx (pa_cons (pv 0) (pa_cons (pe_op op_add (pv 1) pe_int) (pa_cons (pv 5) pa_nil)))))
    (pss_cons (ps_set (i := 12) nd rfl (by first | exact Or.inl rfl | exact Or.inr rfl) (pe_trim (pe_ix ix_list (pe_lst (pa_cons pe_str (pa_cons pe_str (pa_cons pe_str (pa_cons pe_str (pa_cons pe_str pa_nil)))))) (pe_G G_law_draw hr (by decide) rfl hpx (pa_cons (pv 0) (pa_cons (pe_op op_add (pv 1) pe_int) (pa_cons pe_int pa_nil)))) (fun _ _ => rfl))))
    (pss_cons (ps_set (i := 13) nd rfl (by first | exact Or.inl rfl | exact Or.inr rfl) pe_bl)
    (pss_meet (ps_try_asT (i := 14) rfl rfl rfl nd rfl rfl ⟨rfl, by decide, .inl T.g_NoThing⟩ htk (fun W pn xe tk _ => (pss_one (ps_expr (pe_trim (pe_GmS G_Shelf_put_row hr (by decide) (pv 3) T.kx.c_Shelf (fun σ => passAt tk σ) (pa_cons (pv 8) (pa_cons (pe_op op_cat (pe_op op_cat (pe_slice sl_list (pv 9) po_none (po_some (pv 11))) (pe_lst (pa_cons (pv 12) pa_nil))) (pe_slice sl_list (pv 9) (po_some (pe_op op_add (pv 11) pe_int)) po_none)) pa_nil))))))) (fun a pn => (pss_one (ps_set (i := 13) nd rfl (by first | exact Or.inl rfl | exact Or.inr rfl) (pe_not (pe_callB call_isT (by rfl) T.n_isinstance (by decide +kernel) (pa_cons (pv 14) (pa_cons (pe_glob (by rfl) T.g_NoPlace rfl) pa_nil))))))))
    (pss_cons (ps_if (PW.pt (pw_or (pt_not (pt_val (pv 13))) (pw_or1 (pt_not (pt_val (pe_G G_law_shown hr (by decide) rfl hpx (pa_cons (pv 3) (pa_cons (pv 6) (pa_cons (pv 7) pa_nil)))))))))
    (pss_one (ps_ret pe_bl))
    pss_nil)
    (pss_cons (ps_set (i := 15) nd rfl (by first | exact Or.inl rfl | exact Or.inr rfl) (pe_G G_law_spots hr (by decide) rfl hpx (pa_cons (pv 0) (pa_cons (pe_op op_add (pv 1) pe_int) (pa_cons (pv 5) pa_nil)))))
    (pss_cons (ps_trim (ps_asg (pe_G G_law_round hr (by decide) rfl hpx (pa_cons (pv 7) (pa_cons (pv 8) pa_nil))) (pg_tup rfl (pgs_cons (pg_name (i := 16) nd rfl (by first | exact Or.inl rfl | exact Or.inr rfl)) (pgs_cons (pg_name (i := 17) nd rfl (by first | exact Or.inl rfl | exact Or.inr rfl)) pgs_nil)))))
    (pss_cons (ps_trim (ps_asg (pe_G G_law_run hr (by decide) rfl hpx (pa_cons (pv 2) (pa_cons (pv 16) (pa_cons (pv 17) (pa_cons (pv 5) (pa_cons (pv 15) pa_nil)))))) (pg_tup rfl (pgs_cons (pg_name (i := 18) nd rfl (by first | exact Or.inl rfl | exact Or.inr rfl)) (pgs_cons (pg_name (i := 19) nd rfl (by first | exact Or.inl rfl | exact Or.inr rfl)) pgs_nil)))))
    (pss_cons (ps_set (i := 20) nd rfl (by first | exact Or.inl rfl | exact Or.inr rfl) (pe_Gm G_Shelf_put_row hr (by decide) (pv 3) T.kx.c_Shelf hpx (pa_cons (pv 8) (pa_cons (pv 9) pa_nil))))
    (pss_cons (ps_if (PW.pt (pw_or (pt_not (pt_val (pe_callB call_isi (by rfl) T.n_isinstance (by decide +kernel) (pa_cons (pv 20) (pa_cons (pe_bltn (by rfl) T.n_list (by decide +kernel) rfl) pa_nil))))) (pw_or (pt_cmpR op_ne (pe_callB call_len_seq (by rfl) T.n_len (by decide +kernel) (pa_cons (pv 20) pa_nil)) (pv 5) (nomark _)) (pw_or1 (pt_trim (pt_cmpR (op_neD hr.units) (pe_lc (own := [("k", 10)]) rfl nd (pi_list (pv 15)) (blkOk_by (own := [("k", 10)]) (N := ["script", "base", "letters", "shelf", "kept", "many", "things", "marks", "place", "row", "k", "bad", "odd", "refused", "e", "spots", "low", "high", "due", "long", "found", "mark"]) (sc := defScope s_law_row_right) (by decide +kernel)) (fun _ _ _ _ _ => (pg_name (i := 10) nd rfl (by first | exact Or.inl rfl | exact Or.inr rfl))) (fun _ _ _ _ _ => pts_nil) (fun _ _ _ _ _ => (pe_ix ix_list (pv 20) (pv 10) (fun _ _ => rfl)))) (pv 18) (nomark _)))))))
    (pss_one (ps_ret pe_bl))
    pss_nil)
    (pss_cons (ps_if (pt_trim (pt_cmpR (op_neD hr.units) (pe_lc (own := [("mark", 21)]) rfl nd (pi_list (pv 20)) (blkOk_by (own := [("mark", 21)]) (N := ["script", "base", "letters", "shelf", "kept", "many", "things", "marks", "place", "row", "k", "bad", "odd", "refused", "e", "spots", "low", "high", "due", "long", "found", "mark"]) (sc := defScope s_law_row_right) (by decide +kernel)) (fun _ _ _ _ _ => (pg_name (i := 21) nd rfl (by first | exact Or.inl rfl | exact Or.inr rfl))) (fun _ _ _ _ _ => (pts_one (pt_cmpR op_ne (pe_callB call_len_str (by rfl) T.n_len (by decide +kernel) (pa_cons (pv 21) pa_nil)) (pv 19) (nomark _)))) (fun _ _ _ _ _ => (pv 21))) (pe_lst pa_nil) (nomark _)))
    (pss_one (ps_ret pe_bl))
    pss_nil)
    (pss_cons (ps_for hps rfl (pi_range1 (by rfl) T.n_range (pa_cons (pv 5) pa_nil)) (pg_name (i := 10) nd rfl (by first | exact Or.inl rfl | exact Or.inr rfl))
    (pss_cons (ps_expr (pe_bm PySem.F.plainAttrs_list PySem.F.slot_list_insert PySem.F.type_list_insert mt_insert (pv 7) (pa_cons (pe_op op_add (pv 8) (pv 10)) (pa_cons (pe_ix ix_list (pv 20) (pv 10) (fun _ _ => rfl)) pa_nil))))
    (pss_one (ps_expr (pe_bm PySem.F.plainAttrs_list PySem.F.slot_list_insert PySem.F.type_list_insert mt_insert (pv 6) (pa_cons (pe_op op_add (pv 8) (pv 10)) (pa_cons (pe_ix ix_list (pv 9) (pv 10) (fun _ _ => rfl)) pa_nil)))))))
    (pss_one (ps_ret (pe_G G_law_shown hr (by decide) rfl hpx (pa_cons (pv 3) (pa_cons (pv 6) (pa_cons (pv 7) pa_nil))))))))))))))))))))))
theorem ok_law_renewal_right {f : Addr} {fd : FuncData} (F : FunD K "_law_renewal_right" "_law_renewal_right" (defArgs s_law_renewal_right) (defBody s_law_renewal_right) (defScope s_law_renewal_right) [] [] f fd) (T : Tx K mg) (G_law_spots : FnG P w K mg base (L2.CX P w) "_law_spots" ["script", "base", "many"] 2 (sp_law_spots K)) (G_law_renewed : FnG P w K mg base (L2.CX P w) "_law_renewed" ["letters", "many", "spots"] 2 (sp_law_renewed K)) (G_Shelf_renew : FnM P w K mg base (L2.CX P w) (He.ga K "Shelf") "renew" ["self"] 3 (sp_Shelf_renew K)) (G_law_shown : FnG P w K mg base (L2.CX P w) "_law_shown" ["shelf", "things", "marks"] 2 (sp_law_shown K)) : FnOk P w K mg base (L2.CX P w) 4 f fd ["script", "base", "letters", "shelf", "kept"] (sp_law_renewal_right K) := by
  refine F.ok sc_law_renewal_right len_law_renewal_right (fun cdv A outer s H vs Q E hr h => ⟨t_law_renewal_right K E, ?_, pure_law_renewal_right T.kx vs H Q E h⟩)
  have nd := sc_law_renewal_right.nd
  have hu := hu_of hr
  have htk : Takes (cxOf (L2.CX P w) P w K mg base ["script", "base", "letters", "shelf", "kept", "things", "marks", "spots", "due", "long", "turn", "found", "k", "mark"] "_law_renewal_right" (defScope s_law_renewal_right) f cdv A outer s H E) (fun c d _ H => E c d H) := takes_of rfl rfl rfl rfl
  have hpx : Passes (L2.CX P w) (cxOf (L2.CX P w) P w K mg base ["script", "base", "letters", "shelf", "kept", "things", "marks", "spots", "due", "long", "turn", "found", "k", "mark"] "_law_renewal_right" (defScope s_law_renewal_right) f cdv A outer s H E) E := passes_call htk fun _ _ _ _ z => z
  have hps : PassesOwn (model P w) (A.deeper (envOfC "_law_renewal_right" (defScope s_law_renewal_right) s.heap.objs.size f cdv)) (envOfC "_law_renewal_right" (defScope s_law_renewal_right) s.heap.objs.size f cdv) (cxOf (L2.CX P w) P w K mg base ["script", "base", "letters", "shelf", "kept", "things", "marks", "spots", "due", "long", "turn", "found", "k", "mark"] "_law_renewal_right" (defScope s_law_renewal_right) f cdv A outer s H E).xe := passes_of (X := cxOf (L2.CX P w) P w K mg base ["script", "base", "letters", "shelf", "kept", "things", "marks", "spots", "due", "long", "turn", "found", "k", "mark"] "_law_renewal_right" (defScope s_law_renewal_right) f cdv A outer s H E) rfl
  exact (pss_trim (pss_cons (ps_trim (ps_asg (pv 4) (pg_tup rfl (pgs_cons (pg_name (i := 5) nd rfl (by first | exact Or.inl rfl | exact Or.inr rfl)) (pgs_cons (pg_name (i := 6) nd rfl (by first | exact Or.inl rfl | exact Or.inr rfl)) pgs_nil)))))
    (pss_cons (ps_set (i := 7) nd rfl (by first | exact Or.inl rfl | exact Or.inr rfl) (pe_G G_law_spots hr (by decide) rfl hpx (pa_cons (pv 0) (pa_cons (pv 1) (pa_cons (pe_callB call_len_seq (by rfl) T.n_len (by decide +kernel) (pa_cons (pv 5) pa_nil)) pa_nil)))))
    (pss_cons (ps_trim (ps_asg (pe_G G_law_renewed hr (by decide) rfl hpx (pa_cons (pv 2) (pa_cons (pe_callB call_len_seq (by rfl) T.n_len (by decide +kernel) (pa_cons (pv 5) pa_nil)) (pa_cons (pv 7) pa_nil)))) (pg_tup rfl (pgs_cons (pg_name (i := 8) nd rfl (by first | exact Or.inl rfl | exact Or.inr rfl)) (pgs_cons (pg_name (i := 9) nd rfl (by first | exact Or.inl rfl | exact Or.inr rfl)) pgs_nil)))))
    (pss_cons (ps_for hps rfl (pi_range1 (by rfl) T.n_range (pa_cons pe_int pa_nil)) (pg_name (i := 10) nd rfl (by first | exact Or.inl rfl | exact Or.inr rfl))
    (pss_cons (ps_set (i := 11) nd rfl (by first | exact Or.inl rfl | exact Or.inr rfl) (pe_Gm0 G_Shelf_renew hr (by decide) (pv 3) T.kx.c_Shelf hpx))
    (pss_cons (ps_if (PW.pt (pw_or (pt_not (pt_val (pe_callB call_isi (by rfl) T.n_isinstance (by decide +kernel) (pa_cons (pv 11) (pa_cons (pe_bltn (by rfl) T.n_list (by decide +kernel) rfl) pa_nil))))) (pw_or (pt_cmpR op_ne (pe_callB call_len_seq (by rfl) T.n_len (by decide +kernel) (pa_cons (pv 11) pa_nil)) (pe_callB call_len_seq (by rfl) T.n_len (by decide +kernel) (pa_cons (pv 5) pa_nil)) (nomark _)) (pw_or1 (pt_trim (pt_cmpR (op_neD hr.units) (pe_lc (own := [("k", 12)]) rfl nd (pi_list (pv 7)) (blkOk_by (own := [("k", 12)]) (N := ["script", "base", "letters", "shelf", "kept", "things", "marks", "spots", "due", "long", "turn", "found", "k", "mark"]) (sc := defScope s_law_renewal_right) (by decide +kernel)) (fun _ _ _ _ _ => (pg_name (i := 12) nd rfl (by first | exact Or.inl rfl | exact Or.inr rfl))) (fun _ _ _ _ _ => pts_nil) (fun _ _ _ _ _ => (pe_ix ix_list (pv 11) (pv 12) (fun _ _ => rfl)))) (pv 8) (nomark _)))))))
    (pss_one (ps_ret pe_bl))
    pss_nil)
    (pss_cons (ps_if (PW.pt (pw_or (pt_trim (pt_cmpR op_ne (pe_callB (cr_max rfl) (by rfl) T.n_max (by decide +kernel) (pa_cons (pe_lc (own := [("mark", 13)]) rfl nd (pi_list (pv 11)) (blkOk_by (own := [("mark", 13)]) (N := ["script", "base", "letters", "shelf", "kept", "things", "marks", "spots", "due", "long", "turn", "found", "k", "mark"]) (sc := defScope s_law_renewal_right) (by decide +kernel)) (fun _ _ _ _ _ => (pg_name (i := 13) nd rfl (by first | exact Or.inl rfl | exact Or.inr rfl))) (fun _ _ _ _ _ => pts_nil) (fun _ _ _ _ _ => (pe_callB call_len_str (by rfl) T.n_len (by decide +kernel) (pa_cons (pv 13) pa_nil)))) pa_nil)) (pv 9) (nomark _))) (pw_or1 (pt_trim (pt_cmpR (op_neD hr.units) (pe_sortSetS rfl (by rfl) T.n_sorted (by rfl) T.n_set (pv 11)) (pv 11) (nomark _))))))
    (pss_one (ps_ret pe_bl))
    pss_nil)
    (pss_cons (ps_expr (pe_bm0 PySem.F.plainAttrs_list PySem.F.slot_list_clear PySem.F.type_list_clear mt_clear (pv 6)))
    (pss_cons (ps_expr (pe_bm PySem.F.plainAttrs_list PySem.F.slot_list_extend PySem.F.type_list_extend mt_extend (pv 6) (pa_cons (pv 11) pa_nil)))
    (pss_cons (ps_expr (pe_bm PySem.F.plainAttrs_list PySem.F.slot_list_append PySem.F.type_list_append mt_append (pv 11) (pa_cons pe_str pa_nil)))
    (pss_one (ps_if (pt_not (pt_val (pe_G G_law_shown hr (by decide) rfl hpx (pa_cons (pv 3) (pa_cons (pv 5) (pa_cons (pv 6) pa_nil))))))
    (pss_one (ps_ret pe_bl))
    pss_nil)))))))))
    (pss_one (ps_ret pe_bl)))))))
theorem ok_law_single_right {f : Addr} {fd : FuncData} (F : FunD K "_law_single_right" "_law_single_right" (defArgs s_law_single_right) (defBody s_law_single_right) (defScope s_law_single_right) [] [] f fd) (T : Tx K mg) (G_law_draw : FnG P w K mg base (L2.CX P w) "_law_draw" ["script", "k", "many"] 1 (sp_law_draw K)) (G_law_round : FnG P w K mg base (L2.CX P w) "_law_round" ["marks", "place"] 1 (sp_law_round K)) (G_law_span : FnG P w K mg base (L2.CX P w) "_law_span" ["letters", "low", "high", "long"] 2 (sp_law_span K)) (G_law_text : FnG P w K mg base (L2.CX P w) "_law_text" ["letters", "number", "long"] 1 (sp_law_text K)) (G_Shelf_put : FnM P w K mg base (L2.CX P w) (He.ga K "Shelf") "put" ["self", "place", "thing"] 6 (sp_Shelf_put K)) (G_Shelf_things : FnM P w K mg base (L2.CX P w) (He.ga K "Shelf") "things" ["self"] 1 (sp_Shelf_things K)) (G_Shelf_marks : FnM P w K mg base (L2.CX P w) (He.ga K "Shelf") "marks" ["self"] 1 (sp_Shelf_marks K)) (G_Shelf_take : FnM P w K mg base (L2.CX P w) (He.ga K "Shelf") "take" ["self", "place"] 1 (sp_Shelf_take K)) (G_law_shown : FnG P w K mg base (L2.CX P w) "_law_shown" ["shelf", "things", "marks"] 2 (sp_law_shown K)) : FnOk P w K mg base (L2.CX P w) 7 f fd ["script", "base", "letters", "shelf", "kept"] (sp_law_single_right K) := by
  refine F.ok sc_law_single_right len_law_single_right (fun cdv A outer s H vs Q E hr h => ⟨t_law_single_right K E, ?_, pure_law_single_right T.kx vs H Q E h⟩)
  have nd := sc_law_single_right.nd
  have hu := hu_of hr
  have htk : Takes (cxOf (L2.CX P w) P w K mg base ["script", "base", "letters", "shelf", "kept", "things", "marks", "place", "low", "high", "long", "least", "most", "number", "due"] "_law_single_right" (defScope s_law_single_right) f cdv A outer s H E) (fun c d _ H => E c d H) := takes_of rfl rfl rfl rfl
  have hpx : Passes (L2.CX P w) (cxOf (L2.CX P w) P w K mg base ["script", "base", "letters", "shelf", "kept", "things", "marks", "place", "low", "high", "long", "least", "most", "number", "due"] "_law_single_right" (defScope s_law_single_right) f cdv A outer s H E) E := passes_call htk fun _ _ _ _ z => z
  have hps : PassesOwn (model P w) (A.deeper (envOfC "_law_single_right" (defScope s_law_single_right) s.heap.objs.size f cdv)) (envOfC "_law_single_right" (defScope s_law_single_right) s.heap.objs.size f cdv) (cxOf (L2.CX P w) P w K mg base ["script", "base", "letters", "shelf", "kept", "things", "marks", "place", "low", "high", "long", "least", "most", "number", "due"] "_law_single_right" (defScope s_law_single_right) f cdv A outer s H E).xe := passes_of (X := cxOf (L2.CX P w) P w K mg base ["script", "base", "letters", "shelf", "kept", "things", "marks", "place", "low", "high", "long", "least", "most", "number", "due"] "_law_single_right" (defScope s_law_single_right) f cdv A outer s H E) rfl
  exact (pss_trim (pss_cons (ps_trim (ps_asg (pv 4) (pg_tup rfl (pgs_cons (pg_name (i := 5) nd rfl (by first | exact Or.inl rfl | exact Or.inr rfl)) (pgs_cons (pg_name (i := 6) nd rfl (by first | exact Or.inl rfl | exact Or.inr rfl)) pgs_nil)))))
    (pss_cons (ps_set (i := 7) nd rfl (by first | exact Or.inl rfl | exact Or.inr rfl) (pe_G G_law_draw hr (by decide) rfl hpx (pa_cons (pv 0) (pa_cons (pv 1) (pa_cons (pe_op op_add (pe_callB call_len_seq (by rfl) T.n_len (by decide +kernel) (pa_cons (pv 6) pa_nil)) pe_int) pa_nil)))))
    (pss_cons (ps_trim (ps_asg (pe_G G_law_round hr (by decide) rfl hpx (pa_cons (pv 6) (pa_cons (pv 7) pa_nil))) (pg_tup rfl (pgs_cons (pg_name (i := 8) nd rfl (by first | exact Or.inl rfl | exact Or.inr rfl)) (pgs_cons (pg_name (i := 9) nd rfl (by first | exact Or.inl rfl | exact Or.inr rfl)) pgs_nil)))))
    (pss_cons (ps_set (i := 10) nd rfl (by first | exact Or.inl rfl | exact Or.inr rfl) pe_int)
    (pss_cons (ps_trim (ps_asg (pe_G G_law_span hr (by decide) rfl hpx (pa_cons (pv 2) (pa_cons (pv 8) (pa_cons (pv 9) (pa_cons (pv 10) pa_nil))))) (pg_tup rfl (pgs_cons (pg_name (i := 11) nd rfl (by first | exact Or.inl rfl | exact Or.inr rfl)) (pgs_cons (pg_name (i := 12) nd rfl (by first | exact Or.inl rfl | exact Or.inr rfl)) pgs_nil)))))
    (pss_cons (ps_while hps (pt_cmpR op_gt (pv 11) (pv 12) (nomark _)) (pss_cons (ps_set (i := 10) nd rfl (by first | exact Or.inl rfl | exact Or.inr rfl) (pe_op op_add (pv 10) pe_int))
    (pss_one (ps_trim (ps_asg (pe_G G_law_span hr (by decide) rfl hpx (pa_cons (pv 2) (pa_cons (pv 8) (pa_cons (pv 9) (pa_cons (pv 10) pa_nil))))) (pg_tup rfl (pgs_cons (pg_name (i := 11) nd rfl (by first | exact Or.inl rfl | exact Or.inr rfl)) (pgs_cons (pg_name (i := 12) nd rfl (by first | exact Or.inl rfl | exact Or.inr rfl)) pgs_nil))))))))
    (pss_cons (ps_set (i := 13) nd rfl (by first | exact Or.inl rfl | exact Or.inr rfl) (pe_op op_fdivW (pe_op op_add (pv 11) (pv 12)) pe_int))
    (pss_meet (ps_if (PW.pt (pw_and (pt_cmpR op_notN (pv 8) pe_non (nomark _)) (pw_and1 (pt_cmpR op_isN (pv 9) pe_non (nomark _)))))
    (pss_one (ps_set (i := 13) nd rfl (by first | exact Or.inl rfl | exact Or.inr rfl) (pv 11)))
    pss_nil)
    (pss_meet (ps_if (PW.pt (pw_and (pt_cmpR op_isN (pv 8) pe_non (nomark _)) (pw_and1 (pt_cmpR op_notN (pv 9) pe_non (nomark _)))))
    (pss_one (ps_set (i := 13) nd rfl (by first | exact Or.inl rfl | exact Or.inr rfl) (pv 12)))
    pss_nil)
    (pss_cons (ps_set (i := 14) nd rfl (by first | exact Or.inl rfl | exact Or.inr rfl) (pe_G G_law_text hr (by decide) rfl hpx (pa_cons (pv 2) (pa_cons (pv 13) (pa_cons (pv 10) pa_nil)))))
    (pss_cons (ps_if (PW.pt (pw_or (pt_cmpR op_ne (pe_Gm G_Shelf_put hr (by decide) (pv 3) T.kx.c_Shelf hpx (pa_cons (pv 7) (pa_cons pe_str pa_nil))) (pv 14) (nomark _)) (pw_or (pt_trim (pt_cmpR op_ne (pe_ix ix_list (pe_Gm0 G_Shelf_things hr (by decide) (pv 3) T.kx.c_Shelf hpx) (pv 7) (fun _ _ => rfl)) pe_str (nomark _))) (pw_or1 (pt_trim (pt_cmpR op_ne (pe_ix ix_list (pe_Gm0 G_Shelf_marks hr (by decide) (pv 3) T.kx.c_Shelf hpx) (pv 7) (fun _ _ => rfl)) (pv 14) (nomark _)))))))
    (pss_one (ps_ret pe_bl))
    pss_nil)
    (pss_one (ps_ret (pe_and (pe_cmpR op_eq (pe_Gm G_Shelf_take hr (by decide) (pv 3) T.kx.c_Shelf hpx (pa_cons (pv 7) pa_nil)) pe_str (nomark _)) (pe_one (pe_G G_law_shown hr (by decide) rfl hpx (pa_cons (pv 3) (pa_cons (pv 5) (pa_cons (pv 6) pa_nil))))))))))))))))))))
theorem ok_law {f : Addr} {fd : FuncData} (F : FunD K "law" "law" (defArgs s_law) (defBody s_law) (defScope s_law) [] [] f fd) (T : Tx K mg) (G_law_draw : FnG P w K mg base (L2.CX P w) "_law_draw" ["script", "k", "many"] 1 (sp_law_draw K)) (G_Shelf_put : FnM P w K mg base (L2.CX P w) (He.ga K "Shelf") "put" ["self", "place", "thing"] 6 (sp_Shelf_put K)) (G_law_row_right : FnG P w K mg base (L2.CX P w) "_law_row_right" ["script", "base", "letters", "shelf", "kept", "many"] 7 (sp_law_row_right K)) (G_law_single_right : FnG P w K mg base (L2.CX P w) "_law_single_right" ["script", "base", "letters", "shelf", "kept"] 7 (sp_law_single_right K)) (G_law_renewal_right : FnG P w K mg base (L2.CX P w) "_law_renewal_right" ["script", "base", "letters", "shelf", "kept"] 4 (sp_law_renewal_right K)) (G_Shelf___init__ : FnI P w K mg base (L2.CX P w) (He.ga K "Shelf") ["self", "letters"] 2 (sp_Shelf___init__ K)) : FnOk P w K mg base (L2.CX P w) 8 f fd ["script"] (sp_law K) := by
  refine F.ok sc_law len_law (fun cdv A outer s H vs Q E hr h => ⟨t_law K E, ?_, pure_law T.kx vs H Q E h⟩)
  have nd := sc_law.nd
  have hu := hu_of hr
  have htk : Takes (cxOf (L2.CX P w) P w K mg base ["script", "letters", "shelf", "kept", "there", "least"] "law" (defScope s_law) f cdv A outer s H E) (fun c d _ H => E c d H) := takes_of rfl rfl rfl rfl
  have hpx : Passes (L2.CX P w) (cxOf (L2.CX P w) P w K mg base ["script", "letters", "shelf", "kept", "there", "least"] "law" (defScope s_law) f cdv A outer s H E) E := passes_call htk fun _ _ _ _ z => z
  have hps : PassesOwn (model P w) (A.deeper (envOfC "law" (defScope s_law) s.heap.objs.size f cdv)) (envOfC "law" (defScope s_law) s.heap.objs.size f cdv) (cxOf (L2.CX P w) P w K mg base ["script", "letters", "shelf", "kept", "there", "least"] "law" (defScope s_law) f cdv A outer s H E).xe := passes_of (X := cxOf (L2.CX P w) P w K mg base ["script", "letters", "shelf", "kept", "there", "least"] "law" (defScope s_law) f cdv A outer s H E) rfl
  exact (pss_cons (ps_set (i := 1) nd rfl (by first | exact Or.inl rfl | exact Or.inr rfl) (pe_trim (pe_ix ix_list (pe_lst (pa_cons pe_int (pa_cons pe_int (pa_cons pe_int (pa_cons pe_int (pa_cons (pe_op op_add pe_int (pe_G G_law_draw hr (by decide) rfl hpx (pa_cons (pv 0) (pa_cons pe_int (pa_cons pe_int pa_nil))))) pa_nil)))))) (pe_G G_law_draw hr (by decide) rfl hpx (pa_cons (pv 0) (pa_cons pe_int (pa_cons pe_int pa_nil)))) (fun _ _ => rfl))))
    (pss_cons (ps_set (i := 2) nd rfl (by first | exact Or.inl rfl | exact Or.inr rfl) (pe_GM G_Shelf___init__ hr (by decide) rfl T.g_Shelf hpx (pa_cons (pv 1) pa_nil)))
    (pss_cons (ps_set (i := 3) nd rfl (by first | exact Or.inl rfl | exact Or.inr rfl) (pe_trim (pe_tup (pa_cons (pe_lst pa_nil) (pa_cons (pe_lst pa_nil) pa_nil)))))
    (pss_meet (ps_if (pt_cmpR op_eq (pe_G G_law_draw hr (by decide) rfl hpx (pa_cons (pv 0) (pa_cons pe_int (pa_cons pe_int pa_nil)))) pe_int (nomark _))
    (pss_cons (ps_expr (pe_bm PySem.F.plainAttrs_list PySem.F.slot_list_append PySem.F.type_list_append mt_append (pe_ix ix_tup (pv 3) pe_int (fun _ _ => rfl)) (pa_cons (pe_Gm G_Shelf_put hr (by decide) (pv 2) T.kx.c_Shelf hpx (pa_cons pe_int (pa_cons pe_str pa_nil))) pa_nil)))
    (pss_one (ps_expr (pe_bm PySem.F.plainAttrs_list PySem.F.slot_list_append PySem.F.type_list_append mt_append (pe_ix ix_tup (pv 3) pe_int (fun _ _ => rfl)) (pa_cons pe_str pa_nil)))))
    pss_nil)
    (pss_cons (ps_if (pt_not (pt_val (pe_G G_law_row_right hr (by decide) rfl hpx (pa_cons (pv 0) (pa_cons pe_int (pa_cons (pv 1) (pa_cons (pv 2) (pa_cons (pv 3) (pa_cons (pe_op op_add pe_int (pe_G G_law_draw hr (by decide) rfl hpx (pa_cons (pv 0) (pa_cons pe_int (pa_cons pe_int pa_nil))))) pa_nil)))))))))
    (pss_one (ps_ret pe_bl))
    pss_nil)
    (pss_cons (ps_if (pt_not (pt_val (pe_G G_law_single_right hr (by decide) rfl hpx (pa_cons (pv 0) (pa_cons pe_int (pa_cons (pv 1) (pa_cons (pv 2) (pa_cons (pv 3) pa_nil))))))))
    (pss_one (ps_ret pe_bl))
    pss_nil)
    (pss_cons (ps_set (i := 4) nd rfl (by first | exact Or.inl rfl | exact Or.inr rfl) (pe_callB call_len_seq (by rfl) T.n_len (by decide +kernel) (pa_cons (pe_ix ix_tup (pv 3) pe_int (fun _ _ => rfl)) pa_nil)))
    (pss_cons (ps_set (i := 5) nd rfl (by first | exact Or.inl rfl | exact Or.inr rfl) (pe_callB (call_max2 rfl) (by rfl) T.n_max (by decide +kernel) (pa_cons pe_int (pa_cons (pe_op op_sub pe_int (pv 4)) pa_nil))))
    (pss_cons (ps_if (pt_not (pt_val (pe_G G_law_row_right hr (by decide) rfl hpx (pa_cons (pv 0) (pa_cons pe_int (pa_cons (pv 1) (pa_cons (pv 2) (pa_cons (pv 3) (pa_cons (pe_op op_add (pv 5) (pe_G G_law_draw hr (by decide) rfl hpx (pa_cons (pv 0) (pa_cons pe_int (pa_cons (pe_op op_sub (pe_op op_sub pe_int (pv 4)) (pv 5)) pa_nil))))) pa_nil)))))))))
    (pss_one (ps_ret pe_bl))
    pss_nil)
    (pss_cons (ps_if (pt_not (pt_val (pe_G G_law_renewal_right hr (by decide) rfl hpx (pa_cons (pv 0) (pa_cons pe_int (pa_cons (pv 1) (pa_cons (pv 2) (pa_cons (pv 3) pa_nil))))))))
    (pss_one (ps_ret pe_bl))
    pss_nil)
    (pss_one (ps_ret (pe_or (pe_cmpR op_eq (pe_callB call_len_seq (by rfl) T.n_len (by decide +kernel) (pa_cons (pe_ix ix_tup (pv 3) pe_int (fun _ _ => rfl)) pa_nil)) pe_int (nomark _)) (pe_one (pe_G G_law_single_right hr (by decide) rfl hpx (pa_cons (pv 0) (pa_cons pe_int (pa_cons (pv 1) (pa_cons (pv 2) (pa_cons (pv 3) pa_nil))))))))))))))))))))
end
end Sm
namespace Sm
open PySem PySem.Spec PyProof.Rows L2
def d_ask_letters : He.DefD := ⟨("ask_letters", none), "ask_letters", "ask_letters", defArgs s_ask_letters, defBody s_ask_letters, defScope s_ask_letters, [], []⟩
def d_whole_of : He.DefD := ⟨("whole_of", none), "whole_of", "whole_of", defArgs s_whole_of, defBody s_whole_of, defScope s_whole_of, [], []⟩
def d_mark_of : He.DefD := ⟨("mark_of", none), "mark_of", "mark_of", defArgs s_mark_of, defBody s_mark_of, defScope s_mark_of, [], []⟩
def d_ends_of : He.DefD := ⟨("ends_of", none), "ends_of", "ends_of", defArgs s_ends_of, defBody s_ends_of, defScope s_ends_of, [], []⟩
def d_numbers_between : He.DefD := ⟨("numbers_between", none), "numbers_between", "numbers_between", defArgs s_numbers_between, defBody s_numbers_between, defScope s_numbers_between, [], []⟩
def d_figures_of : He.DefD := ⟨("figures_of", none), "figures_of", "figures_of", defArgs s_figures_of, defBody s_figures_of, defScope s_figures_of, [], []⟩
def d_many_below : He.DefD := ⟨("many_below", none), "many_below", "many_below", defArgs s_many_below, defBody s_many_below, defScope s_many_below, [], []⟩
def d_room_at : He.DefD := ⟨("room_at", none), "room_at", "room_at", defArgs s_room_at, defBody s_room_at, defScope s_room_at, [], []⟩
def d_nth_mark : He.DefD := ⟨("nth_mark", none), "nth_mark", "nth_mark", defArgs s_nth_mark, defBody s_nth_mark, defScope s_nth_mark, [], []⟩
def d_least_long : He.DefD := ⟨("least_long", none), "least_long", "least_long", defArgs s_least_long, defBody s_least_long, defScope s_least_long, [], []⟩
def d_mark_between : He.DefD := ⟨("mark_between", none), "mark_between", "mark_between", defArgs s_mark_between, defBody s_mark_between, defScope s_mark_between, [], []⟩
def d_run_between : He.DefD := ⟨("run_between", none), "run_between", "run_between", defArgs s_run_between, defBody s_run_between, defScope s_run_between, [], []⟩
def d_renewed_long : He.DefD := ⟨("renewed_long", none), "renewed_long", "renewed_long", defArgs s_renewed_long, defBody s_renewed_long, defScope s_renewed_long, [], []⟩
def d_renewed : He.DefD := ⟨("renewed", none), "renewed", "renewed", defArgs s_renewed, defBody s_renewed, defScope s_renewed, [], []⟩
def d_is_thing : He.DefD := ⟨("is_thing", none), "is_thing", "is_thing", defArgs s_is_thing, defBody s_is_thing, defScope s_is_thing, [], []⟩
def d_Shelf___init__ : He.DefD := ⟨("Shelf", some "__init__"), "__init__", "Shelf.__init__", defArgs s_Shelf___init__, defBody s_Shelf___init__, defScope s_Shelf___init__, [], []⟩
def d_Shelf_ask_put : He.DefD := ⟨("Shelf", some "ask_put"), "ask_put", "Shelf.ask_put", defArgs s_Shelf_ask_put, defBody s_Shelf_ask_put, defScope s_Shelf_ask_put, [], []⟩
def d_Shelf_marks_round : He.DefD := ⟨("Shelf", some "marks_round"), "marks_round", "Shelf.marks_round", defArgs s_Shelf_marks_round, defBody s_Shelf_marks_round, defScope s_Shelf_marks_round, [], []⟩
def d_Shelf_put : He.DefD := ⟨("Shelf", some "put"), "put", "Shelf.put", defArgs s_Shelf_put, defBody s_Shelf_put, defScope s_Shelf_put, [], []⟩
def d_Shelf_put_row : He.DefD := ⟨("Shelf", some "put_row"), "put_row", "Shelf.put_row", defArgs s_Shelf_put_row, defBody s_Shelf_put_row, defScope s_Shelf_put_row, [], []⟩
def d_Shelf_take : He.DefD := ⟨("Shelf", some "take"), "take", "Shelf.take", defArgs s_Shelf_take, defBody s_Shelf_take, defScope s_Shelf_take, [], []⟩
def d_Shelf_renew : He.DefD := ⟨("Shelf", some "renew"), "renew", "Shelf.renew", defArgs s_Shelf_renew, defBody s_Shelf_renew, defScope s_Shelf_renew, [], []⟩
def d_Shelf_marks : He.DefD := ⟨("Shelf", some "marks"), "marks", "Shelf.marks", defArgs s_Shelf_marks, defBody s_Shelf_marks, defScope s_Shelf_marks, [], []⟩
def d_Shelf_things : He.DefD := ⟨("Shelf", some "things"), "things", "Shelf.things", defArgs s_Shelf_things, defBody s_Shelf_things, defScope s_Shelf_things, [], []⟩
def d_Shelf_longest : He.DefD := ⟨("Shelf", some "longest"), "longest", "Shelf.longest", defArgs s_Shelf_longest, defBody s_Shelf_longest, defScope s_Shelf_longest, [], []⟩
def d_law_draw : He.DefD := ⟨("_law_draw", none), "_law_draw", "_law_draw", defArgs s_law_draw, defBody s_law_draw, defScope s_law_draw, [], []⟩
def d_law_whole : He.DefD := ⟨("_law_whole", none), "_law_whole", "_law_whole", defArgs s_law_whole, defBody s_law_whole, defScope s_law_whole, [], []⟩
def d_law_text : He.DefD := ⟨("_law_text", none), "_law_text", "_law_text", defArgs s_law_text, defBody s_law_text, defScope s_law_text, [], []⟩
def d_law_span : He.DefD := ⟨("_law_span", none), "_law_span", "_law_span", defArgs s_law_span, defBody s_law_span, defScope s_law_span, [], []⟩
def d_law_run : He.DefD := ⟨("_law_run", none), "_law_run", "_law_run", defArgs s_law_run, defBody s_law_run, defScope s_law_run, [], []⟩
def d_law_renewed : He.DefD := ⟨("_law_renewed", none), "_law_renewed", "_law_renewed", defArgs s_law_renewed, defBody s_law_renewed, defScope s_law_renewed, [], []⟩
def d_law_spots : He.DefD := ⟨("_law_spots", none), "_law_spots", "_law_spots", defArgs s_law_spots, defBody s_law_spots, defScope s_law_spots, [], []⟩
def d_law_round : He.DefD := ⟨("_law_round", none), "_law_round", "_law_round", defArgs s_law_round, defBody s_law_round, defScope s_law_round, [], []⟩
def d_law_shown : He.DefD := ⟨("_law_shown", none), "_law_shown", "_law_shown", defArgs s_law_shown, defBody s_law_shown, defScope s_law_shown, [], []⟩
def d_law_row_right : He.DefD := ⟨("_law_row_right", none), "_law_row_right", "_law_row_right", defArgs s_law_row_right, defBody s_law_row_right, defScope s_law_row_right, [], []⟩
def d_law_renewal_right : He.DefD := ⟨("_law_renewal_right", none), "_law_renewal_right", "_law_renewal_right", defArgs s_law_renewal_right, defBody s_law_renewal_right, defScope s_law_renewal_right, [], []⟩
def d_law_single_right : He.DefD := ⟨("_law_single_right", none), "_law_single_right", "_law_single_right", defArgs s_law_single_right, defBody s_law_single_right, defScope s_law_single_right, [], []⟩
def d_law : He.DefD := ⟨("law", none), "law", "law", defArgs s_law, defBody s_law, defScope s_law, [], []⟩
def fn : List He.DefD := [d_ask_letters, d_whole_of, d_mark_of, d_ends_of, d_numbers_between, d_figures_of, d_many_below, d_room_at, d_nth_mark, d_least_long, d_mark_between, d_run_between, d_renewed_long, d_renewed, d_is_thing, d_Shelf___init__, d_Shelf_ask_put, d_Shelf_marks_round, d_Shelf_put, d_Shelf_put_row, d_Shelf_take, d_Shelf_renew, d_Shelf_marks, d_Shelf_things, d_Shelf_longest, d_law_draw, d_law_whole, d_law_text, d_law_span, d_law_run, d_law_renewed, d_law_spots, d_law_round, d_law_shown, d_law_row_right, d_law_renewal_right, d_law_single_right, d_law]
def fa : List He.Fa := [.free "divmod", .free "int", .free "isinstance", .free "len", .free "list", .free "max", .free "range", .free "set", .free "sorted", .str "LETTERS" "abcdefghijklmnopqrstuvwxyz", .int "LONGEST_THING" 12, .int "MOST_THINGS" 300, .str "SIGNS" "abcdefghijklmnopqrstuvwxyz0123456789", .cls "Shelf", .exc "NoLetters", .exc "NoPlace", .exc "NoRoom", .exc "NoThing", .exm "NoLetters" "NoThing" false, .exm "NoPlace" "NoThing" false, .exm "NoRoom" "NoThing" false, .exm "NoThing" "NoThing" true, .glo "NoLetters", .glo "NoPlace", .glo "NoRoom", .glo "NoThing", .glo "Shelf", .meth "Shelf" "ask_put", .meth "Shelf" "longest", .meth "Shelf" "marks", .meth "Shelf" "marks_round", .meth "Shelf" "put", .meth "Shelf" "put_row", .meth "Shelf" "renew", .meth "Shelf" "take", .meth "Shelf" "things", .mkr "Shelf", .noat "Shelf" "letters", .noat "Shelf" "row_marks", .noat "Shelf" "row_things", .glo "ask_letters", .glo "whole_of", .glo "mark_of", .glo "ends_of", .glo "numbers_between", .glo "figures_of", .glo "many_below", .glo "room_at", .glo "nth_mark", .glo "least_long", .glo "mark_between", .glo "run_between", .glo "renewed_long", .glo "renewed", .glo "is_thing", .glo "_law_draw", .glo "_law_whole", .glo "_law_text", .glo "_law_span", .glo "_law_run", .glo "_law_renewed", .glo "_law_spots", .glo "_law_round", .glo "_law_shown", .glo "_law_row_right", .glo "_law_renewal_right", .glo "_law_single_right", .glo "law"]
abbrev R : PySem.W.OpenRow := PySem.W.OpenLaw.row PySem.Challenge.rw_shelfmark_k34_long_rows_and_renewals
abbrev AlE : Type := He.AlD × Bool
def obsE (n : Nat) (fa : List He.Fa) (fn : List He.DefD) (ex : PySem.W.Frag → Bool) (g : Addr → Option Obj) : AlE := (He.obsD fa fn (He.frG g (He.asD g n)), ex (He.frG g (He.asD g n)))
def hookE (n : Nat) (fa : List He.Fa) (fn : List He.DefD) (ex : PySem.W.Frag → Bool) : PySem.W.Hook where
  α := AlE
  obs := fun s => obsE n fa fn ex s.heap.get?
  val := fun _ => (He.valD fn, true)
  says := fun _ h => ∃ K : PySem.W.Frag, K.In h ∧ He.SaysD fa fn K ∧ ex K = true
  of := fun _ _ e => ⟨_, He.frG_in, congrArg (fun z : AlE => z.1) e, congrArg (fun z : AlE => z.2) e⟩
  keeps := fun _ _ _ ⟨K, hK, c⟩ k => ⟨K, PySem.W.Frag.In.keeps hK k, c⟩
theorem obsE_eq {n : Nat} {fa : List He.Fa} {fn : List He.DefD} {ex : PySem.W.Frag → Bool} {g : Addr → Option Obj} {s : Shared} (h : ∀ a, g a = s.heap.get? a) : obsE n fa fn ex g = (hookE n fa fn ex).obs s := by
  have e : g = s.heap.get? := funext h
  rw [e] <;> rfl
def excB (K : PySem.W.Frag) (D : Addr) : Bool := decide (PySem.W.findIn K (.ref D) "__getattribute__" = some (some (.builtin "BaseException.__getattribute__"))) && (decide (PySem.W.findIn K (.ref D) "__getattr__" = some none) &&
  (decide (PySem.W.subIn K (.ref D) (.type "BaseException") = some true) && (PySem.W.hasDictIn K D && (decide (PySem.W.findIn K (.ref D) "__class__" = some (some (.builtin "object.__class__"))) &&
  (decide (PySem.W.specialIn K (.builtin "object.__class__") "__get__" = some (some (.builtin "getset_descriptor.__get__"))) && (decide (PySem.W.takesIn K (.builtin "object.__class__") = some true) && decide (PySem.W.mroIn K D (.type "object") = some true)))))))
theorem excB_ok {K : PySem.W.Frag} {D : Addr} (h : excB K D = true) : ExcC K D := by
  obtain ⟨h1, h⟩ := He.ba h
  obtain ⟨h2, h⟩ := He.ba h
  obtain ⟨h3, h⟩ := He.ba h
  obtain ⟨h4, h⟩ := He.ba h
  obtain ⟨h5, h⟩ := He.ba h
  obtain ⟨h6, h⟩ := He.ba h
  obtain ⟨h7, h8⟩ := He.ba h
  exact ⟨of_decide_eq_true h1, of_decide_eq_true h2, of_decide_eq_true h3, h4, of_decide_eq_true h5, of_decide_eq_true h6, of_decide_eq_true h7, of_decide_eq_true h8⟩
theorem all_at {K : PySem.W.Frag} {l : List (PySem.W.Frag → Bool)} (h : (l.all fun f => f K) = true) (i : Nat) {f : PySem.W.Frag → Bool} (e : l[i]? = some f := by rfl) : f K = true := List.all_eq_true.mp h f (List.mem_of_getElem? e)
def exl : List (PySem.W.Frag → Bool) := [fun K => excB K (He.ga K "NoPlace"), fun K => excB K (He.ga K "NoRoom"), fun K => excB K (He.ga K "NoThing"), fun K => decide (PySem.W.kitOne K (.ref (He.ga K "NoPlace")) (.ref (He.ga K "NoPlace")) = some true), fun K => decide (PySem.W.kitOne K (.ref (He.ga K "NoRoom")) (.ref (He.ga K "NoPlace")) = some false), fun K => decide (PySem.W.kitOne K (.ref (He.ga K "NoThing")) (.ref (He.ga K "NoPlace")) = some false)]
def exb (K : PySem.W.Frag) : Bool := exl.all fun f => f K
abbrev hk : PySem.W.Hook := hookE 4 fa fn exb
def ob (s : PySem.W.SharedT) : AlE := obsE 4 fa fn exb (HandSHeadRun.getT s)
theorem ob_eq (s : PySem.W.SharedT) : ob s = hk.obs s.abs := obsE_eq (HandSHeadRun.getT_eq s)
theorem run (w : World) : HandSHeadRun.RunEq R (PySem.W.view R.prog [44]) hk ob 38806 (("ShelfError" : Str) :: ("NoLetters" : Str) :: ("NoRoom" : Str) :: ("NoThing" : Str) :: ("NoPlace" : Str) :: ("LETTERS" : Str) :: ("ask_letters" : Str) :: ("whole_of" : Str) :: ("mark_of" : Str) :: ("ends_of" : Str) :: ("numbers_between" : Str) :: ("figures_of" : Str) :: ("many_below" : Str) :: ("room_at" : Str) :: ("nth_mark" : Str) :: ("least_long" : Str) :: ("mark_between" : Str) :: ("run_between" : Str) :: ("renewed_long" : Str) :: ("renewed" : Str) :: ("SIGNS" : Str) :: ("LONGEST_THING" : Str) :: ("MOST_THINGS" : Str) :: ("is_thing" : Str) :: ("Shelf" : Str) :: ("_law_draw" : Str) :: ("_law_whole" : Str) :: ("_law_text" : Str) :: ("_law_span" : Str) :: ("_law_run" : Str) :: ("_law_renewed" : Str) :: ("_law_spots" : Str) :: ("_law_round" : Str) :: ("_law_shown" : Str) :: ("_law_row_right" : Str) :: ("_law_renewal_right" : Str) :: ("_law_single_right" : Str) :: []) w := by
  intro os
  kernel_rfl
theorem tx {w : World} {K : PySem.W.Frag} {h : Heap} {mg : Str → Option Value} (X : K.In h) (G : h.Ns mainGlobals mg) (c : He.SaysD fa fn K) (cx : exb K = true) : Tx K mg where
  n_divmod := He.free_ok X G (c.fact 0 rfl)
  n_int := He.free_ok X G (c.fact 1 rfl)
  n_isinstance := He.free_ok X G (c.fact 2 rfl)
  n_len := He.free_ok X G (c.fact 3 rfl)
  n_list := He.free_ok X G (c.fact 4 rfl)
  n_max := He.free_ok X G (c.fact 5 rfl)
  n_range := He.free_ok X G (c.fact 6 rfl)
  n_set := He.free_ok X G (c.fact 7 rfl)
  n_sorted := He.free_ok X G (c.fact 8 rfl)
  g_LETTERS := He.str_ok X G (c.fact 9 rfl)
  g_LONGEST_THING := He.int_ok X G (c.fact 10 rfl)
  g_MOST_THINGS := He.int_ok X G (c.fact 11 rfl)
  g_SIGNS := He.str_ok X G (c.fact 12 rfl)
  x_NoLetters := (He.exc_ok (c.fact 14 rfl)).1
  k_NoLetters := (He.exc_ok (c.fact 14 rfl)).2.1
  b_NoLetters := (He.exc_ok (c.fact 14 rfl)).2.2.1
  t_NoLetters := (He.exc_ok (c.fact 14 rfl)).2.2.2
  x_NoPlace := (He.exc_ok (c.fact 15 rfl)).1
  k_NoPlace := (He.exc_ok (c.fact 15 rfl)).2.1
  b_NoPlace := (He.exc_ok (c.fact 15 rfl)).2.2.1
  t_NoPlace := (He.exc_ok (c.fact 15 rfl)).2.2.2
  x_NoRoom := (He.exc_ok (c.fact 16 rfl)).1
  k_NoRoom := (He.exc_ok (c.fact 16 rfl)).2.1
  b_NoRoom := (He.exc_ok (c.fact 16 rfl)).2.2.1
  t_NoRoom := (He.exc_ok (c.fact 16 rfl)).2.2.2
  x_NoThing := (He.exc_ok (c.fact 17 rfl)).1
  k_NoThing := (He.exc_ok (c.fact 17 rfl)).2.1
  b_NoThing := (He.exc_ok (c.fact 17 rfl)).2.2.1
  t_NoThing := (He.exc_ok (c.fact 17 rfl)).2.2.2
  g_NoLetters := He.glo_ok X G (c.fact 22 rfl)
  g_NoPlace := He.glo_ok X G (c.fact 23 rfl)
  g_NoRoom := He.glo_ok X G (c.fact 24 rfl)
  g_NoThing := He.glo_ok X G (c.fact 25 rfl)
  g_Shelf := He.glo_ok X G (c.fact 26 rfl)
  kx := {c_Shelf := He.cls_ok (c.fact 13 rfl), e_NoPlace := excB_ok (all_at cx 0 rfl), e_NoRoom := excB_ok (all_at cx 1 rfl), e_NoThing := excB_ok (all_at cx 2 rfl), m_NoLetters_NoThing := He.exm_ok (c.fact 18 rfl), m_NoPlace_NoThing := He.exm_ok (c.fact 19 rfl), m_NoRoom_NoThing := He.exm_ok (c.fact 20 rfl), m_NoThing_NoThing := He.exm_ok (c.fact 21 rfl), i_NoPlace_NoPlace := of_decide_eq_true (all_at cx 3 rfl), i_NoRoom_NoPlace := of_decide_eq_true (all_at cx 4 rfl), i_NoThing_NoPlace := of_decide_eq_true (all_at cx 5 rfl), m_Shelf_ask_put := He.meth_ok (c.fact 27 rfl), m_Shelf_longest := He.meth_ok (c.fact 28 rfl), m_Shelf_marks := He.meth_ok (c.fact 29 rfl), m_Shelf_marks_round := He.meth_ok (c.fact 30 rfl), m_Shelf_put := He.meth_ok (c.fact 31 rfl), m_Shelf_put_row := He.meth_ok (c.fact 32 rfl), m_Shelf_renew := He.meth_ok (c.fact 33 rfl), m_Shelf_take := He.meth_ok (c.fact 34 rfl), m_Shelf_things := He.meth_ok (c.fact 35 rfl), mk_Shelf := He.mkr_ok (c.fact 36 rfl), a_Shelf_letters := He.noat_ok (c.fact 37 rfl), a_Shelf_row_marks := He.noat_ok (c.fact 38 rfl), a_Shelf_row_things := He.noat_ok (c.fact 39 rfl)}
theorem facts {P : Program} {w : World} {K : PySem.W.Frag} {h : Heap} {mg : Str → Option Value} {f : Addr} (X : K.In h) (G : h.Ns mainGlobals mg) (hfa : mg ("law" : Str) = some (.ref f)) (c : He.SaysD fa fn K) (cx : exb K = true) :
    ∃ fd : FuncData, (∀ (s : Shared) (v : Value), BindsTo s fd ⟨[v], []⟩ [("script", v)]) ∧ ∀ base : Heap, K.In base → base.Ns mainGlobals mg → FnOk P w K mg base (L2.CX P w) 8 f fd ["script"] (sp_law K) := by
  have T : Tx K mg := tx (w := w) X G c cx
  obtain ⟨fd_ask_letters, F_ask_letters⟩ := c.def_ 0 (d := d_ask_letters) rfl
  obtain ⟨fd_whole_of, F_whole_of⟩ := c.def_ 1 (d := d_whole_of) rfl
  obtain ⟨fd_mark_of, F_mark_of⟩ := c.def_ 2 (d := d_mark_of) rfl
  obtain ⟨fd_ends_of, F_ends_of⟩ := c.def_ 3 (d := d_ends_of) rfl
  obtain ⟨fd_numbers_between, F_numbers_between⟩ := c.def_ 4 (d := d_numbers_between) rfl
  obtain ⟨fd_figures_of, F_figures_of⟩ := c.def_ 5 (d := d_figures_of) rfl
  obtain ⟨fd_many_below, F_many_below⟩ := c.def_ 6 (d := d_many_below) rfl
  obtain ⟨fd_room_at, F_room_at⟩ := c.def_ 7 (d := d_room_at) rfl
  obtain ⟨fd_nth_mark, F_nth_mark⟩ := c.def_ 8 (d := d_nth_mark) rfl
  obtain ⟨fd_least_long, F_least_long⟩ := c.def_ 9 (d := d_least_long) rfl
  obtain ⟨fd_mark_between, F_mark_between⟩ := c.def_ 10 (d := d_mark_between) rfl
  obtain ⟨fd_run_between, F_run_between⟩ := c.def_ 11 (d := d_run_between) rfl
  obtain ⟨fd_renewed_long, F_renewed_long⟩ := c.def_ 12 (d := d_renewed_long) rfl
  obtain ⟨fd_renewed, F_renewed⟩ := c.def_ 13 (d := d_renewed) rfl
  obtain ⟨fd_is_thing, F_is_thing⟩ := c.def_ 14 (d := d_is_thing) rfl
  obtain ⟨fd_Shelf___init__, F_Shelf___init__⟩ := c.def_ 15 (d := d_Shelf___init__) rfl
  obtain ⟨fd_Shelf_ask_put, F_Shelf_ask_put⟩ := c.def_ 16 (d := d_Shelf_ask_put) rfl
  obtain ⟨fd_Shelf_marks_round, F_Shelf_marks_round⟩ := c.def_ 17 (d := d_Shelf_marks_round) rfl
  obtain ⟨fd_Shelf_put, F_Shelf_put⟩ := c.def_ 18 (d := d_Shelf_put) rfl
  obtain ⟨fd_Shelf_put_row, F_Shelf_put_row⟩ := c.def_ 19 (d := d_Shelf_put_row) rfl
  obtain ⟨fd_Shelf_take, F_Shelf_take⟩ := c.def_ 20 (d := d_Shelf_take) rfl
  obtain ⟨fd_Shelf_renew, F_Shelf_renew⟩ := c.def_ 21 (d := d_Shelf_renew) rfl
  obtain ⟨fd_Shelf_marks, F_Shelf_marks⟩ := c.def_ 22 (d := d_Shelf_marks) rfl
  obtain ⟨fd_Shelf_things, F_Shelf_things⟩ := c.def_ 23 (d := d_Shelf_things) rfl
  obtain ⟨fd_Shelf_longest, F_Shelf_longest⟩ := c.def_ 24 (d := d_Shelf_longest) rfl
  obtain ⟨fd_law_draw, F_law_draw⟩ := c.def_ 25 (d := d_law_draw) rfl
  obtain ⟨fd_law_whole, F_law_whole⟩ := c.def_ 26 (d := d_law_whole) rfl
  obtain ⟨fd_law_text, F_law_text⟩ := c.def_ 27 (d := d_law_text) rfl
  obtain ⟨fd_law_span, F_law_span⟩ := c.def_ 28 (d := d_law_span) rfl
  obtain ⟨fd_law_run, F_law_run⟩ := c.def_ 29 (d := d_law_run) rfl
  obtain ⟨fd_law_renewed, F_law_renewed⟩ := c.def_ 30 (d := d_law_renewed) rfl
  obtain ⟨fd_law_spots, F_law_spots⟩ := c.def_ 31 (d := d_law_spots) rfl
  obtain ⟨fd_law_round, F_law_round⟩ := c.def_ 32 (d := d_law_round) rfl
  obtain ⟨fd_law_shown, F_law_shown⟩ := c.def_ 33 (d := d_law_shown) rfl
  obtain ⟨fd_law_row_right, F_law_row_right⟩ := c.def_ 34 (d := d_law_row_right) rfl
  obtain ⟨fd_law_renewal_right, F_law_renewal_right⟩ := c.def_ 35 (d := d_law_renewal_right) rfl
  obtain ⟨fd_law_single_right, F_law_single_right⟩ := c.def_ 36 (d := d_law_single_right) rfl
  obtain ⟨fd_law, F_law⟩ := c.def_ 37 (d := d_law) rfl
  have e := hfa.symm.trans (He.glo_ok X G (c.fact 67 (f := .glo "law") rfl))
  cases e
  have b := FunD.bindsA (ps := ["script"]) F_law fun _ _ _ _ _ _ us hl => match us, hl with | [_], _ => rfl
  refine ⟨fd_law, fun s v => b s [v] rfl, fun base _ _ => ?_⟩
  have G_ask_letters : FnG P w K mg base (L2.CX P w) "ask_letters" ["letters", "hands"] 1 (sp_ask_letters K) := ⟨⟨_, fd_ask_letters, He.glo_ok X G (c.fact 40 (f := .glo "ask_letters") rfl), F_ask_letters.kp, F_ask_letters.bindsN (fun _ _ _ _ _ _ us hl => match us, hl with | [_, _], _ => rfl), ok_ask_letters F_ask_letters T ⟩⟩
  have G_whole_of : FnG P w K mg base (L2.CX P w) "whole_of" ["letters", "mark", "long"] 1 (sp_whole_of K) := ⟨⟨_, fd_whole_of, He.glo_ok X G (c.fact 41 (f := .glo "whole_of") rfl), F_whole_of.kp, F_whole_of.bindsN (fun _ _ _ _ _ _ us hl => match us, hl with | [_, _, _], _ => rfl), ok_whole_of F_whole_of T ⟩⟩
  have G_mark_of : FnG P w K mg base (L2.CX P w) "mark_of" ["letters", "number", "long"] 1 (sp_mark_of K) := ⟨⟨_, fd_mark_of, He.glo_ok X G (c.fact 42 (f := .glo "mark_of") rfl), F_mark_of.kp, F_mark_of.bindsN (fun _ _ _ _ _ _ us hl => match us, hl with | [_, _, _], _ => rfl), ok_mark_of F_mark_of T ⟩⟩
  have G_ends_of : FnG P w K mg base (L2.CX P w) "ends_of" ["letters", "hands", "hand"] 1 (sp_ends_of K) := ⟨⟨_, fd_ends_of, He.glo_ok X G (c.fact 43 (f := .glo "ends_of") rfl), F_ends_of.kp, F_ends_of.bindsN (fun _ _ _ _ _ _ us hl => match us, hl with | [_, _, _], _ => rfl), ok_ends_of F_ends_of T ⟩⟩
  have G_numbers_between : FnG P w K mg base (L2.CX P w) "numbers_between" ["letters", "low", "high", "long"] 2 (sp_numbers_between K) := ⟨⟨_, fd_numbers_between, He.glo_ok X G (c.fact 44 (f := .glo "numbers_between") rfl), F_numbers_between.kp, F_numbers_between.bindsN (fun _ _ _ _ _ _ us hl => match us, hl with | [_, _, _, _], _ => rfl), ok_numbers_between F_numbers_between T G_whole_of⟩⟩
  have G_figures_of : FnG P w K mg base (L2.CX P w) "figures_of" ["letters", "hands", "hand"] 2 (sp_figures_of K) := ⟨⟨_, fd_figures_of, He.glo_ok X G (c.fact 45 (f := .glo "figures_of") rfl), F_figures_of.kp, F_figures_of.bindsN (fun _ _ _ _ _ _ us hl => match us, hl with | [_, _, _], _ => rfl), ok_figures_of F_figures_of T G_ends_of⟩⟩
  have G_many_below : FnG P w K mg base (L2.CX P w) "many_below" ["letters", "figures", "number"] 1 (sp_many_below K) := ⟨⟨_, fd_many_below, He.glo_ok X G (c.fact 46 (f := .glo "many_below") rfl), F_many_below.kp, F_many_below.bindsN (fun _ _ _ _ _ _ us hl => match us, hl with | [_, _, _], _ => rfl), ok_many_below F_many_below T ⟩⟩
  have G_room_at : FnG P w K mg base (L2.CX P w) "room_at" ["letters", "hands", "hand", "low", "high", "long"] 3 (sp_room_at K) := ⟨⟨_, fd_room_at, He.glo_ok X G (c.fact 47 (f := .glo "room_at") rfl), F_room_at.kp, F_room_at.bindsN (fun _ _ _ _ _ _ us hl => match us, hl with | [_, _, _, _, _, _], _ => rfl), ok_room_at F_room_at T G_numbers_between G_figures_of G_many_below⟩⟩
  have G_nth_mark : FnG P w K mg base (L2.CX P w) "nth_mark" ["letters", "hands", "hand", "low", "high", "long", "number"] 3 (sp_nth_mark K) := ⟨⟨_, fd_nth_mark, He.glo_ok X G (c.fact 48 (f := .glo "nth_mark") rfl), F_nth_mark.kp, F_nth_mark.bindsN (fun _ _ _ _ _ _ us hl => match us, hl with | [_, _, _, _, _, _, _], _ => rfl), ok_nth_mark F_nth_mark T G_numbers_between G_figures_of G_many_below G_mark_of⟩⟩
  have G_least_long : FnG P w K mg base (L2.CX P w) "least_long" ["letters", "hands", "hand", "low", "high", "many"] 4 (sp_least_long K) := ⟨⟨_, fd_least_long, He.glo_ok X G (c.fact 49 (f := .glo "least_long") rfl), F_least_long.kp, F_least_long.bindsN (fun _ _ _ _ _ _ us hl => match us, hl with | [_, _, _, _, _, _], _ => rfl), ok_least_long F_least_long T G_room_at⟩⟩
  have G_mark_between : FnG P w K mg base (L2.CX P w) "mark_between" ["letters", "hands", "hand", "low", "high"] 5 (sp_mark_between K) := ⟨⟨_, fd_mark_between, He.glo_ok X G (c.fact 50 (f := .glo "mark_between") rfl), F_mark_between.kp, F_mark_between.bindsN (fun _ _ _ _ _ _ us hl => match us, hl with | [_, _, _, _, _], _ => rfl), ok_mark_between F_mark_between T G_least_long G_room_at G_nth_mark⟩⟩
  have G_run_between : FnG P w K mg base (L2.CX P w) "run_between" ["letters", "hands", "hand", "low", "high", "many"] 5 (sp_run_between K) := ⟨⟨_, fd_run_between, He.glo_ok X G (c.fact 51 (f := .glo "run_between") rfl), F_run_between.kp, F_run_between.bindsN (fun _ _ _ _ _ _ us hl => match us, hl with | [_, _, _, _, _, _], _ => rfl), ok_run_between F_run_between T G_least_long G_room_at G_nth_mark⟩⟩
  have G_renewed_long : FnG P w K mg base (L2.CX P w) "renewed_long" ["letters", "many"] 1 (sp_renewed_long K) := ⟨⟨_, fd_renewed_long, He.glo_ok X G (c.fact 52 (f := .glo "renewed_long") rfl), F_renewed_long.kp, F_renewed_long.bindsN (fun _ _ _ _ _ _ us hl => match us, hl with | [_, _], _ => rfl), ok_renewed_long F_renewed_long T ⟩⟩
  have G_renewed : FnG P w K mg base (L2.CX P w) "renewed" ["letters", "many"] 2 (sp_renewed K) := ⟨⟨_, fd_renewed, He.glo_ok X G (c.fact 53 (f := .glo "renewed") rfl), F_renewed.kp, F_renewed.bindsN (fun _ _ _ _ _ _ us hl => match us, hl with | [_, _], _ => rfl), ok_renewed F_renewed T G_renewed_long G_mark_of⟩⟩
  have G_is_thing : FnG P w K mg base (L2.CX P w) "is_thing" ["text"] 1 (sp_is_thing K) := ⟨⟨_, fd_is_thing, He.glo_ok X G (c.fact 54 (f := .glo "is_thing") rfl), F_is_thing.kp, F_is_thing.bindsN (fun _ _ _ _ _ _ us hl => match us, hl with | [_], _ => rfl), ok_is_thing F_is_thing T ⟩⟩
  have G_Shelf___init__ : FnI P w K mg base (L2.CX P w) (He.ga K "Shelf") ["self", "letters"] 2 (sp_Shelf___init__ K) := ⟨⟨_, fd_Shelf___init__, T.kx.mk_Shelf, F_Shelf___init__.bindsN (fun _ _ _ _ _ _ us hl => match us, hl with | [_, _], _ => rfl), ok_Shelf___init__ F_Shelf___init__ T G_ask_letters⟩⟩
  have G_Shelf_ask_put : FnM P w K mg base (L2.CX P w) (He.ga K "Shelf") "ask_put" ["self", "place", "some"] 2 (sp_Shelf_ask_put K) := ⟨⟨_, fd_Shelf_ask_put, T.kx.m_Shelf_ask_put, F_Shelf_ask_put.bindsN (fun _ _ _ _ _ _ us hl => match us, hl with | [_, _, _], _ => rfl), ok_Shelf_ask_put F_Shelf_ask_put T G_is_thing⟩⟩
  have G_Shelf_marks_round : FnM P w K mg base (L2.CX P w) (He.ga K "Shelf") "marks_round" ["self", "place"] 1 (sp_Shelf_marks_round K) := ⟨⟨_, fd_Shelf_marks_round, T.kx.m_Shelf_marks_round, F_Shelf_marks_round.bindsN (fun _ _ _ _ _ _ us hl => match us, hl with | [_, _], _ => rfl), ok_Shelf_marks_round F_Shelf_marks_round T ⟩⟩
  have G_Shelf_put : FnM P w K mg base (L2.CX P w) (He.ga K "Shelf") "put" ["self", "place", "thing"] 6 (sp_Shelf_put K) := ⟨⟨_, fd_Shelf_put, T.kx.m_Shelf_put, F_Shelf_put.bindsN (fun _ _ _ _ _ _ us hl => match us, hl with | [_, _, _], _ => rfl), ok_Shelf_put F_Shelf_put T G_Shelf_ask_put G_Shelf_marks_round G_mark_between⟩⟩
  have G_Shelf_put_row : FnM P w K mg base (L2.CX P w) (He.ga K "Shelf") "put_row" ["self", "place", "some"] 6 (sp_Shelf_put_row K) := ⟨⟨_, fd_Shelf_put_row, T.kx.m_Shelf_put_row, F_Shelf_put_row.bindsN (fun _ _ _ _ _ _ us hl => match us, hl with | [_, _, _], _ => rfl), ok_Shelf_put_row F_Shelf_put_row T G_Shelf_ask_put G_Shelf_marks_round G_run_between⟩⟩
  have G_Shelf_take : FnM P w K mg base (L2.CX P w) (He.ga K "Shelf") "take" ["self", "place"] 1 (sp_Shelf_take K) := ⟨⟨_, fd_Shelf_take, T.kx.m_Shelf_take, F_Shelf_take.bindsN (fun _ _ _ _ _ _ us hl => match us, hl with | [_, _], _ => rfl), ok_Shelf_take F_Shelf_take T ⟩⟩
  have G_Shelf_renew : FnM P w K mg base (L2.CX P w) (He.ga K "Shelf") "renew" ["self"] 3 (sp_Shelf_renew K) := ⟨⟨_, fd_Shelf_renew, T.kx.m_Shelf_renew, F_Shelf_renew.bindsN (fun _ _ _ _ _ _ us hl => match us, hl with | [_], _ => rfl), ok_Shelf_renew F_Shelf_renew T G_renewed⟩⟩
  have G_Shelf_marks : FnM P w K mg base (L2.CX P w) (He.ga K "Shelf") "marks" ["self"] 1 (sp_Shelf_marks K) := ⟨⟨_, fd_Shelf_marks, T.kx.m_Shelf_marks, F_Shelf_marks.bindsN (fun _ _ _ _ _ _ us hl => match us, hl with | [_], _ => rfl), ok_Shelf_marks F_Shelf_marks T ⟩⟩
  have G_Shelf_things : FnM P w K mg base (L2.CX P w) (He.ga K "Shelf") "things" ["self"] 1 (sp_Shelf_things K) := ⟨⟨_, fd_Shelf_things, T.kx.m_Shelf_things, F_Shelf_things.bindsN (fun _ _ _ _ _ _ us hl => match us, hl with | [_], _ => rfl), ok_Shelf_things F_Shelf_things T ⟩⟩
  have G_Shelf_longest : FnM P w K mg base (L2.CX P w) (He.ga K "Shelf") "longest" ["self"] 1 (sp_Shelf_longest K) := ⟨⟨_, fd_Shelf_longest, T.kx.m_Shelf_longest, F_Shelf_longest.bindsN (fun _ _ _ _ _ _ us hl => match us, hl with | [_], _ => rfl), ok_Shelf_longest F_Shelf_longest T ⟩⟩
  have G_law_draw : FnG P w K mg base (L2.CX P w) "_law_draw" ["script", "k", "many"] 1 (sp_law_draw K) := ⟨⟨_, fd_law_draw, He.glo_ok X G (c.fact 55 (f := .glo "_law_draw") rfl), F_law_draw.kp, F_law_draw.bindsN (fun _ _ _ _ _ _ us hl => match us, hl with | [_, _, _], _ => rfl), ok_law_draw F_law_draw T ⟩⟩
  have G_law_whole : FnG P w K mg base (L2.CX P w) "_law_whole" ["letters", "mark", "long"] 1 (sp_law_whole K) := ⟨⟨_, fd_law_whole, He.glo_ok X G (c.fact 56 (f := .glo "_law_whole") rfl), F_law_whole.kp, F_law_whole.bindsN (fun _ _ _ _ _ _ us hl => match us, hl with | [_, _, _], _ => rfl), ok_law_whole F_law_whole T ⟩⟩
  have G_law_text : FnG P w K mg base (L2.CX P w) "_law_text" ["letters", "number", "long"] 1 (sp_law_text K) := ⟨⟨_, fd_law_text, He.glo_ok X G (c.fact 57 (f := .glo "_law_text") rfl), F_law_text.kp, F_law_text.bindsN (fun _ _ _ _ _ _ us hl => match us, hl with | [_, _, _], _ => rfl), ok_law_text F_law_text T ⟩⟩
  have G_law_span : FnG P w K mg base (L2.CX P w) "_law_span" ["letters", "low", "high", "long"] 2 (sp_law_span K) := ⟨⟨_, fd_law_span, He.glo_ok X G (c.fact 58 (f := .glo "_law_span") rfl), F_law_span.kp, F_law_span.bindsN (fun _ _ _ _ _ _ us hl => match us, hl with | [_, _, _, _], _ => rfl), ok_law_span F_law_span T G_law_whole⟩⟩
  have G_law_run : FnG P w K mg base (L2.CX P w) "_law_run" ["letters", "low", "high", "many", "spots"] 3 (sp_law_run K) := ⟨⟨_, fd_law_run, He.glo_ok X G (c.fact 59 (f := .glo "_law_run") rfl), F_law_run.kp, F_law_run.bindsN (fun _ _ _ _ _ _ us hl => match us, hl with | [_, _, _, _, _], _ => rfl), ok_law_run F_law_run T G_law_span G_law_text⟩⟩
  have G_law_renewed : FnG P w K mg base (L2.CX P w) "_law_renewed" ["letters", "many", "spots"] 2 (sp_law_renewed K) := ⟨⟨_, fd_law_renewed, He.glo_ok X G (c.fact 60 (f := .glo "_law_renewed") rfl), F_law_renewed.kp, F_law_renewed.bindsN (fun _ _ _ _ _ _ us hl => match us, hl with | [_, _, _], _ => rfl), ok_law_renewed F_law_renewed T G_law_text⟩⟩
  have G_law_spots : FnG P w K mg base (L2.CX P w) "_law_spots" ["script", "base", "many"] 2 (sp_law_spots K) := ⟨⟨_, fd_law_spots, He.glo_ok X G (c.fact 61 (f := .glo "_law_spots") rfl), F_law_spots.kp, F_law_spots.bindsN (fun _ _ _ _ _ _ us hl => match us, hl with | [_, _, _], _ => rfl), ok_law_spots F_law_spots T G_law_draw⟩⟩
  have G_law_round : FnG P w K mg base (L2.CX P w) "_law_round" ["marks", "place"] 1 (sp_law_round K) := ⟨⟨_, fd_law_round, He.glo_ok X G (c.fact 62 (f := .glo "_law_round") rfl), F_law_round.kp, F_law_round.bindsN (fun _ _ _ _ _ _ us hl => match us, hl with | [_, _], _ => rfl), ok_law_round F_law_round T ⟩⟩
  have G_law_shown : FnG P w K mg base (L2.CX P w) "_law_shown" ["shelf", "things", "marks"] 2 (sp_law_shown K) := ⟨⟨_, fd_law_shown, He.glo_ok X G (c.fact 63 (f := .glo "_law_shown") rfl), F_law_shown.kp, F_law_shown.bindsN (fun _ _ _ _ _ _ us hl => match us, hl with | [_, _, _], _ => rfl), ok_law_shown F_law_shown T G_Shelf_longest G_Shelf_marks G_Shelf_things⟩⟩
  have G_law_row_right : FnG P w K mg base (L2.CX P w) "_law_row_right" ["script", "base", "letters", "shelf", "kept", "many"] 7 (sp_law_row_right K) := ⟨⟨_, fd_law_row_right, He.glo_ok X G (c.fact 64 (f := .glo "_law_row_right") rfl), F_law_row_right.kp, F_law_row_right.bindsN (fun _ _ _ _ _ _ us hl => match us, hl with | [_, _, _, _, _, _], _ => rfl), ok_law_row_right F_law_row_right T G_law_draw G_Shelf_put_row G_law_shown G_law_spots G_law_round G_law_run⟩⟩
  have G_law_renewal_right : FnG P w K mg base (L2.CX P w) "_law_renewal_right" ["script", "base", "letters", "shelf", "kept"] 4 (sp_law_renewal_right K) := ⟨⟨_, fd_law_renewal_right, He.glo_ok X G (c.fact 65 (f := .glo "_law_renewal_right") rfl), F_law_renewal_right.kp, F_law_renewal_right.bindsN (fun _ _ _ _ _ _ us hl => match us, hl with | [_, _, _, _, _], _ => rfl), ok_law_renewal_right F_law_renewal_right T G_law_spots G_law_renewed G_Shelf_renew G_law_shown⟩⟩
  have G_law_single_right : FnG P w K mg base (L2.CX P w) "_law_single_right" ["script", "base", "letters", "shelf", "kept"] 7 (sp_law_single_right K) := ⟨⟨_, fd_law_single_right, He.glo_ok X G (c.fact 66 (f := .glo "_law_single_right") rfl), F_law_single_right.kp, F_law_single_right.bindsN (fun _ _ _ _ _ _ us hl => match us, hl with | [_, _, _, _, _], _ => rfl), ok_law_single_right F_law_single_right T G_law_draw G_law_round G_law_span G_law_text G_Shelf_put G_Shelf_things G_Shelf_marks G_Shelf_take G_law_shown⟩⟩
  exact ok_law F_law T G_law_draw G_Shelf_put G_law_row_right G_law_single_right G_law_renewal_right G_Shelf___init__
end Sm
open PySem PySem.W PySem.Calls PyProof.Rows
set_option maxRecDepth 100000 in
set_option maxHeartbeats 0 in
theorem PySem.Challenge.cw_shelfmark_k34_long_rows_and_renewals_holds : PySem.Challenge.rw_shelfmark_k34_long_rows_and_renewals.Holds := by
  w_on; o_law
  refine HandSHeadRun.head_any (r := OpenLaw.row PySem.Challenge.rw_shelfmark_k34_long_rows_and_renewals) (q := view (OpenLaw.row PySem.Challenge.rw_shelfmark_k34_long_rows_and_renewals).prog [44]) (H := Sm.hk) (ob := Sm.ob) (M := 38806) (loose := (("ShelfError" : Str) :: ("NoLetters" : Str) :: ("NoRoom" : Str) :: ("NoThing" : Str) :: ("NoPlace" : Str) :: ("LETTERS" : Str) :: ("ask_letters" : Str) :: ("whole_of" : Str) :: ("mark_of" : Str) :: ("ends_of" : Str) :: ("numbers_between" : Str) :: ("figures_of" : Str) :: ("many_below" : Str) :: ("room_at" : Str) :: ("nth_mark" : Str) :: ("least_long" : Str) :: ("mark_between" : Str) :: ("run_between" : Str) :: ("renewed_long" : Str) :: ("renewed" : Str) :: ("SIGNS" : Str) :: ("LONGEST_THING" : Str) :: ("MOST_THINGS" : Str) :: ("is_thing" : Str) :: ("Shelf" : Str) :: ("_law_draw" : Str) :: ("_law_whole" : Str) :: ("_law_text" : Str) :: ("_law_span" : Str) :: ("_law_run" : Str) :: ("_law_renewed" : Str) :: ("_law_spots" : Str) :: ("_law_round" : Str) :: ("_law_shown" : Str) :: ("_law_row_right" : Str) :: ("_law_renewal_right" : Str) :: ("_law_single_right" : Str) :: [])) (d := HandSHeadRun.topDef (OpenLaw.row PySem.Challenge.rw_shelfmark_k34_long_rows_and_renewals).prog 44) (kwd := []) Sm.ob_eq
    (by kernel_rfl) (fun s => by kernel_rfl) Sm.run (by kernel_rfl) (by kernel_rfl) (by kernel_rfl) (by rfl) (by first | assumption | decide +kernel) (by decide +kernel) ⟨rfl, rfl, rfl, rfl, rfl, by decide +kernel⟩ ?hw ?hc
  case hw => w_witness2
  case hc =>
    refine Sm.walk_ofW (l := PySem.Challenge.rw_shelfmark_k34_long_rows_and_renewals) (n := 63) (k := 8) (x := "script") (CX := fun w => L2.CX (PySem.Challenge.rw_shelfmark_k34_long_rows_and_renewals).prog w) rfl (by decide) (by kernel_rfl) ⟨rfl, by decide, by decide⟩ ?F (fun _ _ _ _ _ z => Sm.cx_none z)
    case F =>
      intro w mg fa h Y G hmg0
      obtain ⟨K, KX, c, cx⟩ := Y
      have hmg : mg ("law" : PySem.Str) = some (.ref fa) := by
        have e : (HandSHeadRun.topDef (OpenLaw.row PySem.Challenge.rw_shelfmark_k34_long_rows_and_renewals).prog 44).name = ("law" : PySem.Str) := by kernel_rfl
        rw [← e]
        exact hmg0
      obtain ⟨fd, hb, hF⟩ := Sm.facts (P := (PySem.Challenge.rw_shelfmark_k34_long_rows_and_renewals).prog) (w := w) KX G hmg c cx
      exact ⟨K, fd, Sm.sp_law K, KX, hb, fun H a ns hl hO hS => Sm.law_in hO hS hl, hF⟩
