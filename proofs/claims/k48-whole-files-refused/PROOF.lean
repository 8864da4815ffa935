import PyProof.Rows.All
import Wide.All
import OpenK.AllK
import Wide.FinOn
import PyProof.EqAt
import PyProof.EqKinds
import PyProof.TupleCall
import KE.KTryMore
import KE.KExcIs
import HandS.Base
import HandS.Call
import HandS.List
import HandS.Exc
import PyProof.ReprRoads
import PyProof.SumWalkG
import KE.GoesMore
import HandS.Iter
import HandS.Walk
import HandS.IsInst
import HandS.ExcField
import PyProof.EnumMake
import PyProof.Draws
import HandS.Comp
import HandS.Ends
import HandS.Dict
import HandS.TupAny
import HandS.Words
import HandS.WordsList
import HandS.Lambda
import HandS.Style
import HandS.Defaults
import KE.BitLaws
import KE.KStateDown
import HandS.More
import HandS.WordsExc
import HandS.Head0
import HandS.Head1
import HandS.Head2
import HandS.HeadEnd
import HandS.HeadHook1
import HandS.HeadHook2
import HandS.HeadHook3
import HandS.HeadHook4
import HandS.HeadWalk
import HandS.ExcInit
import PySem.Challenge.RW_stepsound_k48_whole_files_refused
import KE.KOwnIn
import PyProof.ReprLen
import HandS.EndBits
import HandS.EndTab
import KE.KNestM
set_option Elab.async false
set_option linter.all false
set_option maxRecDepth 100000
set_option maxHeartbeats 4000000
namespace Kt
open PySem PySem.Spec PyProof.Rows L2
/-! ### a clause that names eight classes -/
section
open PySem.W PySem.Calls
variable {M : Model} {K : PySem.W.Frag}
theorem exm_eight {c1 c2 c3 c4 c5 c6 c7 c8 cls : Value} {tp e : Addr} {h : Heap} (X : K.In h) (LT : PySem.W.Looks M h (typeOf (.ref e)) cls)
    (hp : h.get? tp = some { cls := .type "tuple", data := .seq [c1, c2, c3, c4, c5, c6, c7, c8].toArray })
    (x1 : PySem.W.exmOne K cls c1 = some false) (x2 : PySem.W.exmOne K cls c2 = some false) (x3 : PySem.W.exmOne K cls c3 = some false) (x4 : PySem.W.exmOne K cls c4 = some true)
    (x5 : PySem.W.exmOne K cls c5 = some false) (x6 : PySem.W.exmOne K cls c6 = some false) (x7 : PySem.W.exmOne K cls c7 = some false) (x8 : PySem.W.exmOne K cls c8 = some false) :
    PySem.W.Looks M h (excMatches (.ref e) (.ref tp)) true := by
  intro A Q E s kk q
  obtain ⟨hh, g, d, tk, os⟩ := s
  have k : ∀ b o, h.get? b = some o → hh.get? b = some o := kk
  have LT0 : PySem.W.Looks M h (isInstance (.ref tp) (.type "tuple")) true := ((PySem.W.Looks.ld hp).andThen .now).andThen (PySem.W.Looks.of_pure isSubtype_tuple_tuple)
  obtain ⟨e1, S1⟩ := PySem.W.exm_cls (M := M) X x1
  obtain ⟨e2, S2⟩ := PySem.W.exm_cls (M := M) X x2
  obtain ⟨e3, S3⟩ := PySem.W.exm_cls (M := M) X x3
  obtain ⟨e4, S4⟩ := PySem.W.exm_cls (M := M) X x4
  obtain ⟨e5, _⟩ := PySem.W.exm_cls (M := M) X x5
  obtain ⟨e6, _⟩ := PySem.W.exm_cls (M := M) X x6
  obtain ⟨e7, _⟩ := PySem.W.exm_cls (M := M) X x7
  obtain ⟨e8, _⟩ := PySem.W.exm_cls (M := M) X x8
  have e1 := e1.keeps k
  have e2 := e2.keeps k
  have e3 := e3.keeps k
  have e4 := e4.keeps k
  have e5 := e5.keeps k
  have e6 := e6.keeps k
  have e7 := e7.keeps k
  have e8 := e8.keeps k
  have S1 := S1.keeps k
  have S2 := S2.keeps k
  have S3 := S3.keeps k
  have S4 := S4.keeps k
  have LT := LT.keeps k
  have LT0 := LT0.keeps k
  have hq := k _ _ hp
  unfold excMatches
  refine wpAny_bind (LT0.at ?_)
  dsimp only
  rw [if_pos rfl]
  first
    | refine wpAny_bind (wpAny_seqItems hq rfl ?_)
    | refine wpAny_bind (wpAny_bind (wpAny_seqItems hq rfl (wpAny_pure ?_)))
  dsimp only [Option.getD_some, Option.getD]
  repeat (first | simp only [List.forIn_cons, List.forIn_nil, Bool.not_true, Bool.false_eq_true, if_false, if_true] | lk)
  exact q
end
/-! ### names, one behind the other -/
inductive NamesAll (X : Cx) : List Expr → List Value → Prop
  | nil : NamesAll X [] []
  | cons {x : Str} {p : Pos} {c : Value} {es : List Expr} {us : List Value} (h : Names X x c) (r : NamesAll X es us) : NamesAll X (.Name x p :: es) (c :: us)
theorem names_run {X Y : Cx} {es : List Expr} {us : List Value} (h : NamesAll X es us) (hy : Y.env = X.env) (hmg : Y.mg = X.mg) {pins : List (Addr × Obj)} {σ : L2.St} {H : Hp} {s : Shared} (I : Inv Y pins σ H s) :
    ∀ {A : Around} (pos : Pos) {Q : List Value → Shared → Prop} {E : Value → Shared → Prop}, Q us s →
      wpAny (model Y.prog Y.w) Y.A (spliced (backTo pos (starEach es Y.env))) Q E s := by
  induction h with
  | nil => intro A pos Q E q; exact Calls.spliced_nil q
  | cons hc r ih =>
    intro A pos Q E q
    rename_i x p c es us
    show wpAny _ _ (spliced ((false, eval (.Name x p) Y.env) :: backTo pos (starEach es Y.env))) _ _ s
    obtain ⟨hg, hdbg, hm⟩ := hc
    have hg' : Gl Y x := by
      show Y.env.kindOf x = _
      rw [hy]; exact hg
    rcases hm with hm | ⟨hm, hv, hnn⟩
    · exact Calls.spliced_cons (ld_glob I hg' (by rw [hmg]; exact hm) (ih (A := A) pos q) hdbg)
    · exact Calls.spliced_cons (ld_blt I hg' (by rw [hmg]; exact hm) hv (ih (A := A) pos q) hnn hdbg)
/-! ### an exception kept behind its suite -/
/-- at a: an exception of the class cls, its dict d -/
def KeptX (cls : Value) (d : Option Addr) (a : Addr) : HO := .ext fun h => ∃ oe : Obj, h.get? a = some oe ∧ Zc cls d oe ∧ ∃ vs, oe.data = .fields vs
theorem keptX_ok {P : Program} {w : World} {H : Hp} {h : Heap} {a : Addr} {cls : Value} {d : Option Addr} {oe : Obj} {vs : Array Value} (e : h.get? a = some oe) (z : Zc cls d oe) (hd : oe.data = .fields vs) : ObjOk P w H h a (KeptX cls d a) :=
  ⟨⟨oe, e, z, vs, hd⟩, ⟨oe, e⟩, fun _ _ ⟨o, q, r⟩ k => ⟨o, k o q, r⟩⟩
theorem keptX_get {P : Program} {w : World} {H : Hp} {h : Heap} {a : Addr} {cls : Value} {d : Option Addr} (hok : HOk P w H h) (e : H a = some (KeptX cls d a)) : ∃ (oe : Obj) (vs : Array Value), h.get? a = some oe ∧ Zc cls d oe ∧ oe.data = .fields vs := by
  have x : ObjOk P w H h a (.ext fun h => ∃ oe : Obj, h.get? a = some oe ∧ Zc cls d oe ∧ ∃ vs, oe.data = .fields vs) := hok a _ e
  obtain ⟨⟨oe, h1, h2, vs, h3⟩, _⟩ := x
  exact ⟨oe, vs, h1, h2, h3⟩
section
variable {X : Cx} {pins : List (Addr × Obj)} {σ : L2.St} {H : Hp} {s : Shared}
/-- an object that stands and was not there at the entry is tracked from now on -/
theorem Inv_track {a : Addr} {o : Obj} {u : HO} (I : Inv X pins σ H s) (ha : s.heap.get? a = some o) (hn : H a = none) (h0 : X.s_0.heap.get? a = none) (nL : a ≠ X.env.locals)
    (nC : ∀ x c, X.env.cells.lookup x = some c → c ≠ a) (nP : ∀ p ∈ X.pn ++ pins, p.1 ≠ a) (new : ObjOk X.prog X.w (upd H a u) s.heap a u) : Inv X pins σ (upd H a u) s where
  ok := I.ok
  os := I.os
  bare := I.bare
  base := {
    keep := I.base.keep
    slot := I.base.slot
    free := fun b o' e n hx => by
      have hb : b ≠ a := fun z => by rw [z, h0] at e; cases e
      rw [upd_ne hb]; exact I.base.free b o' e n hx
    there := I.base.there
    tups := fun b xs e => by
      have q := I.base.tups b xs e
      rw [upd_ne (ne_of_none q hn)]; exact q
    frzs := fun b o' xs e => by
      have q := I.base.frzs b o' xs e
      rw [upd_ne (ne_of_none q hn)]; exact q
    tbls := fun b ps e => by
      obtain ⟨m, q⟩ := I.base.tbls b ps e
      exact ⟨m, by rw [upd_ne (ne_of_none q hn)]; exact q⟩ }
  loc := I.loc
  cell := I.cell
  free := by rw [upd_ne (Ne.symm nL)]; exact I.free
  freeC := fun x c e => by rw [upd_ne (nC x c e)]; exact I.freeC x c e
  pin := fun p hp => by
    obtain ⟨e, n, r⟩ := I.pin p hp
    exact ⟨e, by rw [upd_ne (nP p hp)]; exact n, r⟩
  hok := fun b v e => by
    by_cases hb : b = a
    · subst hb
      rw [upd_same] at e
      cases e
      exact new
    · rw [upd_ne hb] at e
      exact (I.hok b v e).stay (fun _ _ _ q => q) (fun c q => by rw [upd_ne (ne_of_none q hn)]; exact q) fun c xs q => by rw [upd_ne (ne_of_none q hn)]; exact q
  len := I.len
end
/-! ### try: body / except (eight classes) as n: suite; n's exception is kept by another name -/
/-- what the clause wishes of an exception of the body -/
def wEight (K : PySem.W.Frag) (cs : List V) (i : Nat) (ts : Addr → Value → Option Addr → TS) (D : Ends) : WX := fun cls d σ H =>
  cs.length = 8 ∧ (∀ (j : Nat) (C : Addr), cs[j]? = some (V.ref C) → PySem.W.exmOne K cls (.ref C) = some (decide (j = 3))) ∧
  ∀ a, H a = none → ts a cls d { nx := fun σ' H' => H' a = none → D.nx (σ'.set i none) (upd H' a (KeptX cls d a)), rt := fun _ _ => False } (σ.set i (some (.ref a))) H
theorem flyingZ_keeps {B h h' : Heap} {l : List Env} {a : Addr} {Z : Obj → Prop} (x : HandSPX.FlyingZ B l a Z h) (k : ∀ b o, h.get? b = some o → h'.get? b = some o) : HandSPX.FlyingZ B l a Z h' := by
  obtain ⟨h1, h2, h3, oe, vs, T, oT, ts, t1, t2, t3, t4, t5, t6, t7, t8, t9⟩ := x
  exact ⟨fun b o e => k _ _ (h1 b o e), h2, Heap.FunFrames.of_keeps (fun b o e _ => ⟨o, k b o e, rfl⟩) h3, oe, vs, T, oT, ts, k _ _ t1, t2, t3, t4, t5, t6, k _ _ t7, t8, t9⟩
section
variable {X : Cx} {n : Str} {i : Nat} {body suite : List Stmt} {b0 : Stmt} {es : List Expr} {cs : List V} {us : List Value} {kk : Nat} {tpos pos pos' : Pos} {tb : WX → TS} {ts : Addr → Value → Option Addr → TS}
theorem eight_list {us : List Value} {cs : List V} (hl : cs.length = 8) (r : Vals cs us) (hc : ∀ (j : Nat) (c : V), cs[j]? = some c → ∃ C : Addr, c = V.ref C) :
    ∃ C1 C2 C3 C4 C5 C6 C7 C8 : Addr, us = [Value.ref C1, Value.ref C2, Value.ref C3, Value.ref C4, Value.ref C5, Value.ref C6, Value.ref C7, Value.ref C8] ∧ cs = [V.ref C1, V.ref C2, V.ref C3, V.ref C4, V.ref C5, V.ref C6, V.ref C7, V.ref C8] := by
  match cs, hl, hc with
  | [c1, c2, c3, c4, c5, c6, c7, c8], _, hc =>
    obtain ⟨C1, rfl⟩ := hc 0 _ rfl
    obtain ⟨C2, rfl⟩ := hc 1 _ rfl
    obtain ⟨C3, rfl⟩ := hc 2 _ rfl
    obtain ⟨C4, rfl⟩ := hc 3 _ rfl
    obtain ⟨C5, rfl⟩ := hc 4 _ rfl
    obtain ⟨C6, rfl⟩ := hc 5 _ rfl
    obtain ⟨C7, rfl⟩ := hc 6 _ rfl
    obtain ⟨C8, rfl⟩ := hc 7 _ rfl
    cases r with
    | cons r1 r =>
    cases r with
    | cons r2 r =>
    cases r with
    | cons r3 r =>
    cases r with
    | cons r4 r =>
    cases r with
    | cons r5 r =>
    cases r with
    | cons r6 r =>
    cases r with
    | cons r7 r =>
    cases r with
    | cons r8 r =>
    cases r
    cases r1; cases r2; cases r3; cases r4; cases r5; cases r6; cases r7; cases r8
    exact ⟨C1, C2, C3, C4, C5, C6, C7, C8, rfl, rfl⟩
theorem ps_try_eight (hs : X.stack = X.env :: X.outer) (hf : X.env.frame = some X.env.locals) (hex : X.ex = []) (hN : X.N.Nodup) (hi : X.N[i]? = some n) (hln : X.env.kindOf n = some .local) (hc : NamesAll X es us) (hv : Vals cs us) (hr : ∀ (j : Nat) (c : V), cs[j]? = some c → ∃ C : Addr, c = V.ref C)
    (hb : ∀ (W : WX) (pn : List (Addr × Obj)) (xe : Value → Shared → Prop), Takes (X.tr pn xe) W → PassesOwn (model X.prog X.w) X.A X.env xe → PSs (X.tr pn xe) body (tb W))
    (hsu : ∀ (a : Addr) (oe : Obj) (cls : Value) (d : Option Addr) (pn : List (Addr × Obj)), Zc cls d oe → (∃ vs, oe.data = .fields vs) → PSs (X.suite a ((a, oe) :: pn)) (b0 :: suite) (ts a cls d)) :
    PS X (.Try body [.ExceptHandler (some (.Tuple es kk tpos)) (some n) (b0 :: suite) pos'] [] [] pos) (fun D σ H => tb (wEight X.K cs i ts D) D σ H) := by
  refine ⟨fun pins s σ H D I h => ?_⟩
  have ok := I.ok
  have hfr : X.A.frames = some (X.env :: X.outer) := by rw [ok.frames, hs]
  have hloc : Loc X.env.scope n := .inl hln
  refine wpAny_Try_except ?_
  refine wpAny_mono ((hb (wEight X.K cs i ts D) (X.pn ++ pins) _ (fun u s' xx => ?_) PassesOwn.looking).run [] s σ H D (I.toTry _) h) (fun f s1 hsp => ?_) (fun e s1 he => he)
  · obtain ⟨a, B, sI, pins', σ', H', cls, d, rfl, J', nb, up, sky, na, os, ag, hl8, hex8, hgo⟩ := xx
    have J : Inv X pins σ' H' sI := J'.ofTry ok
    have sky' : Sky B (X.env :: X.outer) a (Zc cls d) X.env.locals s'.heap := by rw [← hs]; exact sky
    refine Sky.land Zc.steady hfr hf sky' fun h3 fl3 up3 => ?_
    have J3 : Inv X pins σ' H' { s' with heap := h3 } := J.landed nb fl3.1 (up.trans up3) os ag
    obtain ⟨oe3, vs3, he3, hz3, hd3⟩ := fl3.there
    have notFr : ∀ {h : Heap} {o : Obj} {vs : Array Value}, h.FunFrames B (X.env :: X.outer) → h.get? a = some o → o.data = .fields vs → a ∉ frs (X.env :: X.outer) := fun {h o vs} ff e dd hm => by
      obtain ⟨_, o', e', hnf⟩ := ff.mem hm
      rw [e] at e'; cases e'
      exact hnf _ dd
    have nfr := notFr fl3.2.2.1 he3 hd3
    have nL : a ≠ X.env.locals := fun z => nfr (List.mem_filterMap.mpr ⟨X.env, List.mem_cons_self, by rw [hf, z]⟩)
    have nF : a ∉ X.fs := fun hm => by
      obtain ⟨e, he, q⟩ := List.mem_filterMap.mp hm
      exact nfr (List.mem_filterMap.mpr ⟨e, List.mem_cons_of_mem _ he, q⟩)
    have nStk : a ∉ frs X.stack := by rw [hs]; exact nfr
    have Ba : B.get? a = none := fl3.2.1
    have nI : sI.heap.get? a = none := by
      cases q : sI.heap.get? a with
      | none => rfl
      | some o => have z := nb a o q nStk; rw [Ba] at z; cases z
    have n0 : X.s_0.heap.get? a = none := by
      cases q : X.s_0.heap.get? a with
      | none => rfl
      | some o =>
        obtain ⟨o', z⟩ := J.base.there a o q (by rw [hex]; exact fun y => nomatch y)
        rw [nI] at z; cases z
    have nC : ∀ x c, X.env.cells.lookup x = some c → c ≠ a := fun x c e z => by
      obtain ⟨v, o, ho, _⟩ := J.cell x c e
      rw [z, nI] at ho; cases ho
    have nP : ∀ p ∈ X.pn ++ pins, p.1 ≠ a := fun p hp z => by
      have q := (J.pin p hp).1
      rw [z, nI] at q; cases q
    have S3 := J3.suite he3 hd3 na nL nF
    refine wpAny_handleBy_cons (codeAny_handlers_test ?_) (by intro q; cases q)
    obtain ⟨C1, C2, C3, C4, C5, C6, C7, C8, rfl, rfl⟩ := eight_list hl8 hv hr
    refine wpAny_Tuple_spliced (names_run (X := X) (Y := X.suite a ((a, oe3) :: (X.pn ++ pins))) hc rfl rfl S3 (A := X.A) _ ⟨by rw [sizeLine_eq]; show (8 : Nat) ≤ 16777216; decide, ?_⟩)
    have sz : h3.objs.size ≤ h3.objs.size := Nat.le_refl _
    have kp : ∀ b o, h3.get? b = some o → (h3.push { cls := .type "tuple", data := .seq [Value.ref C1, .ref C2, .ref C3, .ref C4, .ref C5, .ref C6, .ref C7, .ref C8].toArray }).get? b = some o := fun b o e => Heap.get?_push_of_some _ e
    have ht : (h3.push { cls := .type "tuple", data := .seq [Value.ref C1, .ref C2, .ref C3, .ref C4, .ref C5, .ref C6, .ref C7, .ref C8].toArray }).get? h3.objs.size = some { cls := .type "tuple", data := .seq [Value.ref C1, .ref C2, .ref C3, .ref C4, .ref C5, .ref C6, .ref C7, .ref C8].toArray } := Heap.get?_push_size _ rfl
    have nT : H' h3.objs.size = none := J3.hok.fresh sz
    have ta : h3.objs.size ≠ a := Nat.ne_of_gt (Heap.lt_size he3)
    have fl5 := flyingZ_keeps fl3 kp
    have LT : PySem.W.Looks (model X.prog X.w) (h3.push { cls := .type "tuple", data := .seq [Value.ref C1, .ref C2, .ref C3, .ref C4, .ref C5, .ref C6, .ref C7, .ref C8].toArray }) (typeOf (.ref a)) cls :=
      fun A Q E s k q => wpAny_typeOf_ref (k _ _ (kp _ _ he3)) (by rw [hz3.1]; exact q)
    have LM := exm_eight (M := model X.prog X.w) (J3.kIn.keeps kp) LT ht (hex8 0 C1 rfl) (hex8 1 C2 rfl) (hex8 2 C3 rfl) (hex8 3 C4 rfl) (hex8 4 C5 rfl) (hex8 5 C6 rfl) (hex8 6 C7 rfl) (hex8 7 C8 rfl)
    refine LM.here ?_
    refine codeAny_handlers_suite_as ?_
    refine HandSPX.lands_againZ fl5 fun h4 fl4 up4 => ?_
    have J4 : Inv X pins σ' H' { s' with heap := h4 } := J.landed nb fl4.1 (((up.trans up3).trans (Heap.UpToSlots.of_keeps kp)).trans up4) os ag
    obtain ⟨oe4, vs4, he4, hz4, hd4⟩ := fl4.there
    have S4 := J4.suite he4 hd4 na nL nF
    refine store_ok (X := X.suite a ((a, oe4) :: (X.pn ++ pins))) (v := .ref a) S4 hN hi hloc rfl (fun s5 S5 => ?_) (.inr hln)
    refine wpAny_mono ((hsu a oe4 cls d (X.pn ++ pins) hz4 ⟨_, hd4⟩).run [] s5 _ H' _ S5 (hgo a na)) (fun f s6 hsp => ?_) (fun _ _ z => False.elim z)
    cases f with
    | next =>
      obtain ⟨σ6, H6, S6, q6⟩ := hsp
      refine gone_ok (X := X.suite a ((a, oe4) :: (X.pn ++ pins))) S6 hN hi hln fun s7 S7 => ?_
      obtain ⟨e7, n7, _⟩ := S7.pin (a, oe4) (List.mem_append_left _ List.mem_cons_self)
      exact ⟨_, _, Inv_track (S7.unsuite ok) e7 n7 n0 nL nC nP (keptX_ok e7 hz4 hd4), q6 n7⟩
    | brk =>
      obtain ⟨_, _, _, q6⟩ := hsp
      exact False.elim q6
    | cont =>
      obtain ⟨_, _, _, q6⟩ := hsp
      exact False.elim q6
    | ret u =>
      obtain ⟨_, _, _, _, _, q6⟩ := hsp
      exact False.elim q6
  · cases f with
    | next =>
      obtain ⟨σ', H', J', q⟩ := hsp
      exact wpAny_execs_nil ⟨σ', H', J'.ofTry ok, q⟩
    | brk =>
      obtain ⟨σ', H', J', q⟩ := hsp
      exact ⟨σ', H', J'.ofTry ok, q⟩
    | cont =>
      obtain ⟨σ', H', J', q⟩ := hsp
      exact ⟨σ', H', J'.ofTry ok, q⟩
    | ret u =>
      obtain ⟨v, σ', H', J', r, q⟩ := hsp
      exact ⟨v, σ', H', J'.ofTry ok, r, q⟩
end
end Kt
set_option Elab.async false
set_option linter.all false
set_option maxRecDepth 100000
set_option maxHeartbeats 4000000
namespace Kt
open PySem PySem.Spec PyProof.Rows L2
/-! ### a kept exception: its field, isinstance of it -/
theorem look_xd {P : Program} {w : World} {H : Hp} {h : Heap} {d : Addr} {fs : List (Str × V)} (x : ObjOk P w H h d (.xd fs)) : ∃ od, h.get? d = some od ∧ ∀ n, ∃ o, PySem.W.lookIn n od = some o ∧ RelO (fs.lookup n) o := by
  obtain ⟨mA, hns, hr⟩ := x
  obtain ⟨od, ho, hl⟩ := lookIn_ns hns
  exact ⟨od, ho, fun n => ⟨mA n, hl n, hr n⟩⟩
/-- e.n of a kept exception -/
def tKf (n : Str) (te : TE) : TE := fun σ H Q => te σ H fun x H1 => ∃ (a C d : Addr) (fs : List (Str × V)) (v : V), x = .ref a ∧ H1 a = some (KeptX (.ref C) (some d) a) ∧ H1 d = some (.xd fs) ∧ fs.lookup n = some v ∧ Q v H1
section
variable {X : Cx} {e : Expr} {te : TE} {pos : Pos} {n : Str}
theorem pe_kf {C : Addr} (T : XfC X.K C) (hno : PySem.W.findIn X.K (.ref C) n = some none) (he : PE X e te) (hb : attributeBase e n X.env (eval e X.env) = eval e X.env := by rfl) :
    PE X (.Attribute e n pos) (fun σ H Q => te σ H fun x H1 => ∃ (a d : Addr) (fs : List (Str × V)) (v : V), x = .ref a ∧ H1 a = some (KeptX (.ref C) (some d) a) ∧ H1 d = some (.xd fs) ∧ fs.lookup n = some v ∧ Q v H1) := by
  refine ⟨fun pins s σ H Q I h => ?_⟩
  refine attr_of hb (thn (he.run pins s σ H _ I h) fun u s1 hh => ?_)
  obtain ⟨x, H1, I1, rx, a, d, fs, v, rfl, ea, ed, l, q⟩ := hh
  obtain rfl : u = Value.ref a := rx
  obtain ⟨oe, vs, ho, hz, hd⟩ := keptX_get I1.hok ea
  obtain ⟨od, hod, hl⟩ := look_xd (I1.hok d _ ed)
  obtain ⟨o, h1, h2⟩ := hl n
  obtain ⟨u, hu, ru⟩ := RelO.some_of (v := v) (o := o) (by rw [← l]; exact h2)
  have J : PySem.W.InstAt s1.heap a oe C (some od) := ⟨ho, hz.1, by unfold PySem.W.notCls; rw [hd] <;> rfl, by rw [hz.2]; exact hod⟩
  exact HandSPX.exc_get I1.kIn J T.ga T.gg T.exC (PySem.W.findObj_own T.hdC hno rfl (by rw [h1, hu])) (handed_of ru) ⟨v, H1, I1.tok _, ru, q⟩
end
/-- what the class at C says, so that isinstance asks its instances rightly -/
structure IsC (K : PySem.W.Frag) (C : Addr) : Prop where
  cl : (PySem.W.clsIn K C).isSome = true
  ga : PySem.W.findIn K (.ref C) "__getattribute__" = some (some (.builtin "BaseException.__getattribute__"))
  gt : PySem.W.findIn K (.ref C) "__getattr__" = some none
  sub : PySem.W.subIn K (.ref C) (.type "BaseException") = some true
  ha : PySem.W.findIn K (.ref C) "__class__" = some (some (.builtin "object.__class__"))
  hn : PySem.W.specialIn K (.builtin "object.__class__") "__get__" = some (some (.builtin "getset_descriptor.__get__"))
  tk : PySem.W.takesIn K (.builtin "object.__class__") = some true
  hm : PySem.W.mroIn K C (.type "object") = some true
def rIsK (K : PySem.W.Frag) (C : Addr) : List V → Hp → VK → Prop := fun xs H Q => ∃ (a d D : Addr) (fs : List (Str × V)) (b : Bool), xs = [.ref a, .ref D] ∧ H a = some (KeptX (.ref C) (some d) a) ∧ H d = some (.xd fs) ∧ PySem.W.kitOne K (.ref C) (.ref D) = some b ∧ Q (.bl b) H
theorem call_isK {X : Cx} {C : Addr} (T : IsC X.K C) : CallR X (.builtin "isinstance") (rIsK X.K C) := by
  intro pins s σ H xs us Q I r h
  obtain ⟨a, d, D, fs, b, rfl, ea, ed, k, q⟩ := h
  obtain ⟨u1, u2, rfl, r1, r2⟩ := vals2 r
  cases (show u1 = Value.ref a from r1)
  cases (show u2 = Value.ref D from r2)
  obtain ⟨oe, vs, ho, hz, hd⟩ := keptX_get I.hok ea
  obtain ⟨od, hod, hl⟩ := look_xd (I.hok d _ ed)
  have J : PySem.W.InstAt s.heap a oe C (some od) := ⟨ho, hz.1, by unfold PySem.W.notCls; rw [hd] <;> rfl, by rw [hz.2]; exact hod⟩
  exact PySem.W.kia_one (PySem.W.kitx_exc T.cl T.ga T.gt T.sub T.ha T.hn T.tk T.hm) I.kIn J k (fun z => nomatch z) fun tk => ⟨.bl b, H, I.tok tk, rfl, q⟩
/-! ### sum of a tuple of ints -/
def rSumT (K : PySem.W.Frag) : List V → Hp → VK → Prop := fun vs H Q => ∃ (a : Addr) (ns : List Int), vs = [V.ref a] ∧ SqT K H a (ns.map V.int) ∧ Q (.int ns.sum) H
theorem cr_sumT {X : Cx} (hc : X.calm = true) : CallR X (.builtin "sum") (rSumT X.K) := by
  intro pins s σ H vs us Q I r h
  obtain ⟨a, ns, rfl, hs, q⟩ := h
  obtain ⟨its, rv, hl, hz⟩ := I.tuple hs
  rw [Vals.ref1 r]
  have hi := rv.ints
  obtain ⟨xs, e⟩ := hi.allInts.items
  have hn : numsOf (intItems xs).toList = ns := by rw [← e]; exact hi.numsOf
  rw [nums_intItems] at hn
  have hlt : s.heap.IsTuple a its.toArray := hl
  have al : a < s.heap.objs.size := by obtain ⟨o, ho, _⟩ := hlt; exact Heap.lt_size ho
  refine PySem.call_sum_walkG (wpAny_pyIter_tuple hlt ⟨_, _, _, _, _, _, numAt xs, rfl, Walks.tuple (A := X.A.in1) (show X.A.in1.handled = none from I.ok.hd hc) s.heap.objs.size a (Nat.ne_of_lt al) its.toArray, ⟨⟨{ cls := .type "tuple_iterator", data := .fields #[.ref a, .int 0 0] }, Heap.get?_push_size _ rfl, rfl, rfl⟩, hlt.push _⟩, ?_, ?_, ?_⟩)
  · intro b hb
    have e' : b = s.heap.objs.size ∨ b = a := by simpa using hb
    show b < (s.heap.push _).objs.size
    rw [Heap.size_push]
    rcases e' with z | z
    · rw [z]; exact Nat.lt_succ_self _
    · rw [z]; exact Nat.lt_succ_of_lt al
  · intro i v hv
    rw [e] at hv
    exact intItems_at hv
  · intro h' tk t' hk
    have hsz : its.toArray.size = xs.size := by rw [e]; simp [intItems]
    have es : preSum (numAt xs) its.toArray.size = ns.sum := by
      rw [hsz, preSum_eq, List.take_of_length_le (by simp), hn]
    rw [es]
    refine ⟨.int _, H, I.kept (h' := h') (t' := tk) (fun b o eb => hk b o ?_ (Heap.get?_push_of_some _ eb)), ⟨_, rfl⟩, q⟩
    intro hm
    have z : b = s.heap.objs.size := by simpa using hm
    exact Nat.lt_irrefl _ (z ▸ Heap.lt_size eb)
end Kt
set_option Elab.async false
set_option linter.all false
set_option maxRecDepth 100000
set_option maxHeartbeats 4000000
namespace Kt
open PySem PySem.Spec PyProof.Rows L2
/-! ### enumerate(a tuple) -/
section
open AutoSeq1 (wpAny_loadPart')
theorem meets_enumT (l : Addr) (items : Array Value) (n : Nat) (dct : Option Addr) (sl : Array (Option Value)) :
    Meets (Builtin.«enumerate.__new__» ⟨[.type "enumerate", .ref l], []⟩) (fun _ R s => s.heap.get? l = some { cls := .type "tuple", dict := dct, data := .seq items n, slots := sl } ∧
      R (.ok (.ret (.ref (s.heap.push { cls := .type "tuple_iterator", data := .fields #[.ref l, .int 0 0] }).objs.size)))
        { s with heap := (s.heap.push { cls := .type "tuple_iterator", data := .fields #[.ref l, .int 0 0] }).push { cls := .type "enumerate", data := .fields #[.none, .bool false, .ref s.heap.objs.size, rawInt 0, .none, .none] } }) :=
  .of_wp fun prog w A R s hh => by
    obtain ⟨hp, g, d, tk, os⟩ := s
    obtain ⟨ht, hR⟩ := hh
    have hsub := sub_enumerate
    have hT : Heap.IsTuple (Shared.heap ⟨hp, g, d, tk, os⟩) l items := ⟨_, ht, rfl, n, rfl⟩
    wp_walk using wpAny_loadPart' ht
    refine wpAny_stack_any fun st => wpAny_pure ?_
    split
    · rename_i c _ _ _ _ _
      cases (c == Value.type "enumerate")
      · wp_walk using wpAny_loadPart' ht, wpAny_pyIter_tuple hT
        exact ⟨_, rfl, hR⟩
      · wp_walk using wpAny_loadPart' ht, wpAny_pyIter_tuple hT
        exact ⟨_, rfl, hR⟩
    · wp_walk using wpAny_loadPart' ht, wpAny_pyIter_tuple hT
      exact ⟨_, rfl, hR⟩
theorem call_enumT {prog : Program} {w : World} {A : Around} {E : Value → Shared → Prop} {s : Shared} {l : Addr} {items : Array Value} {Q : Value → Shared → Prop} (hT : s.heap.IsTuple l items)
    (hq : ∀ h', IsEnum h' (s.heap.objs.size + 1) s.heap.objs.size 0 .none → h'.IsTupleIter s.heap.objs.size l 0 → h'.objs.size = s.heap.objs.size + 2 →
      (∀ b o, s.heap.get? b = some o → h'.get? b = some o) → Q (.ref (s.heap.objs.size + 1)) { s with heap := h' }) :
    wpAny (model prog w) A (call (.type "enumerate") [.ref l]) Q E s := by
  obtain ⟨⟨c, dct, dt, sl⟩, hl, hc, n, hd⟩ := hT
  cases (show c = .type "tuple" from hc)
  cases (show dt = .seq items n from hd)
  refine callType_new F.called_enumerate (by decide) (F.typeCall_enumerate_1 _) (F.newCall_enumerate_1 _) (fun obj => F.args_object_init_2 obj _) F.entry_enumerate_new
    (meets_enumT l items n dct sl) ⟨hl, ?_⟩
  have sz : (s.heap.push { cls := .type "tuple_iterator", data := .fields #[.ref l, .int 0 0] }).objs.size = s.heap.objs.size + 1 := Heap.size_push ..
  show _ ∧ _
  rw [sz]
  have e1 : IsEnum ((s.heap.push { cls := .type "tuple_iterator", data := .fields #[.ref l, .int 0 0] }).push
      { cls := .type "enumerate", data := .fields #[.none, .bool false, .ref s.heap.objs.size, rawInt 0, .none, .none] }) (s.heap.objs.size + 1) s.heap.objs.size 0 .none := by
    have z := Heap.get?_push_size (s.heap.push { cls := .type "tuple_iterator", data := .fields #[.ref l, .int 0 0] })
      (o := { cls := .type "enumerate", data := .fields #[.none, .bool false, .ref s.heap.objs.size, rawInt 0, .none, .none] }) rfl
    rw [sz] at z; exact z
  exact ⟨⟨_, e1, rfl⟩, hq _ e1 ⟨_, Heap.get?_push_of_some _ (Heap.get?_push_size _ rfl), rfl, rfl⟩ (by rw [Heap.size_push, sz]) fun b o x => Heap.get?_push_of_some _ (Heap.get?_push_of_some _ x)⟩
end
/-- the tuple at a, each item in a new pair -/
def IteU (K : PySem.W.Frag) (a : Addr) : It where
  go := fun i H => ∃ (xs : List V) (x : V), SqT K H a xs ∧ xs[i]? = some x
  yld := fun i H v H' => ∃ T x, v = .ref T ∧ H T = none ∧ H' = upd H T (.tup [.int (i : Nat), x]) ∧ ∀ xs, SqT K H a xs → xs[i]? = some x
  stop := fun i H => ∃ xs : List V, SqT K H a xs ∧ xs.length = i
theorem turn_enumT {P : Program} {w : World} {K : PySem.W.Frag} {elts : List Expr} {kk : Nat} {tpos : Pos} (a e it : Addr) :
    Turn P w K (.Tuple elts kk tpos) (IteU K a) [e, it] e (fun i h => (∃ old, IsEnum h e it ((i : Nat) : Int) old) ∧ h.IsTupleIter it a i ∧ e ≠ it) where
  mem := List.mem_cons_self
  obj := fun i h ⟨⟨old, he⟩, ⟨o, ho, _, hd⟩, _⟩ b hb => by
    rcases List.mem_cons.mp hb with z | z
    · rw [z]; exact ⟨_, he, fun v q => nomatch q⟩
    · rw [List.mem_singleton.mp z]; exact ⟨o, ho, fun v q => by rw [hd] at q; cases q⟩
  keep := fun i h h' ⟨⟨old, he⟩, hi, hne⟩ k => ⟨⟨old, k e (by simp) _ he⟩, hi.at fun o q => k it (by simp) o q, hne⟩
  item := by
    intro X hP hw hK hc i pins s σ H E I hf st hg
    subst hP hw hK
    obtain ⟨⟨old, he⟩, hit, hne⟩ := st
    obtain ⟨xs, x, hq, hx⟩ := hg
    obtain ⟨its, rv, p, hz⟩ := I.tuple hq
    obtain ⟨u, hu, ru⟩ := rv.get hx
    have pT : s.heap.IsTuple a its.toArray := p
    obtain ⟨oa, hoa, hca, na, hda⟩ := id pT
    have ea : a ≠ e := fun z => by
      rw [z, (show s.heap.get? e = some _ from he)] at hoa
      cases hoa; cases hda
    obtain ⟨oi, hoi, hci, hdi⟩ := id hit
    have ia : a ≠ it := fun z => by
      rw [z, hoi] at hoa
      cases hoa; rw [hdi] at hda; cases hda
    have elt : e < s.heap.objs.size := Heap.lt_size he
    have ilt : it < s.heap.objs.size := Heap.lt_size hoi
    have hil : i < its.toArray.size := by
      have z := (List.getElem?_eq_some_iff.mp hu).1
      simpa using z
    refine wpAny_pyNext_enum_itemD (Draws.tuple (A := X.A.in1) (show X.A.in1.handled = none from I.ok.hd hc) it a ia its.toArray) he ⟨hit, pT⟩ hil hne (fun z => ?_) fun y h' tk hy ho hst hT hsz hk => ?_
    · rcases List.mem_cons.mp z with z | z
      · exact hne z
      · exact ea (List.mem_singleton.mp z).symm
    · have eyu : y = u := by
        have z : its[i]? = some y := by simpa using hy
        rw [hu] at z; exact (Option.some.inj z).symm
      subst eyu
      refine ⟨_, rfl, wpAny_letOwnedTupleGo_enum (s := { s with heap := h', toks := tk + 1 }) ho fun h'' he' sb => ?_⟩
      have hT2 : h''.get? s.heap.objs.size = some { cls := .type "tuple", data := .seq #[.int i tk, y] } := (sb.2 _ (Nat.ne_of_gt elt)).trans hT
      have new : ObjOk X.prog X.w (upd H s.heap.objs.size (.tup [.int (i : Nat), x])) h'' s.heap.objs.size (.tup [.int (i : Nat), x]) :=
        ⟨by show 2 ≤ sizeLine; decide, [.int i tk, y], .cons ⟨_, rfl⟩ (.cons ru .nil), ⟨_, hT2, rfl, _, rfl⟩⟩
      have I1 : Inv X pins σ (upd H s.heap.objs.size (.tup [.int (i : Nat), x])) { s with heap := h'', toks := tk + 1 } :=
        I.turnedNew (ch := [e, it]) (fun b ob hb q => (sb.2 b (fun z => hb (by simp [z]))).trans (hk b ob (fun z => hb (by simp [z])) (fun z => hb (by simp [z])) q)) hf (Nat.le_refl _) new
      refine ⟨.ref s.heap.objs.size, _, I1, rfl, ⟨_, x, rfl, I.hok.fresh (Nat.le_refl _), rfl, fun ys hy => by rw [I.tuple_inj hy hq]; exact hx⟩, ⟨⟨y, ?_⟩, hst.1.at fun o q => (sb.2 it (Ne.symm hne)).trans q, hne⟩, fun b hb => ?_⟩
      · have e1 : ((i + 1 : Nat) : Int) = (i : Int) + 1 := by omega
        rw [e1]; exact he'
      · have lt : b < s.heap.objs.size := by
          rcases List.mem_cons.mp hb with z | z
          · rw [z]; exact elt
          · rw [List.mem_singleton.mp z]; exact ilt
        rw [upd_ne (Nat.ne_of_lt lt)]
        exact (hf b hb).1
  done := by
    intro X hP hw hK hc i pins s σ H E I hf st hg
    subst hP hw hK
    obtain ⟨⟨old, he⟩, hit, hne⟩ := st
    obtain ⟨xs, hq, hx⟩ := hg
    obtain ⟨its, rv, p, hz⟩ := I.tuple hq
    obtain ⟨f0, f1, f2, f3, f4, f5⟩ := hf it (by simp)
    have pT : s.heap.IsTuple a its.toArray := p
    have ia : a ≠ it := fun z => by
      obtain ⟨oi, hoi, hci, hdi⟩ := hit
      obtain ⟨oa, hoa, hca, na, hda⟩ := pT
      rw [z, hoi] at hoa
      cases hoa; rw [hdi] at hda; cases hda
    have en : its.toArray.size = i := by
      have z := rv.length
      simp only [List.size_toArray]
      omega
    exact wpAny_pyNext_enum_endD (Draws.tuple (A := X.A.in1) (show X.A.in1.handled = none from I.ok.hd hc) it a ia its.toArray) he (by rw [en]; exact ⟨hit, pT⟩) fun h' eb => ⟨rfl, I.turned (t' := s.toks) (fun b o hb q => eb b o hb q) f0 f1 f3 f4 f5⟩
  self := fun A i s Q E ⟨⟨_, he⟩, _⟩ hq => wpAny_pyIter_enum he hq
def iEnumT (K : PySem.W.Frag) (ta : TA) : TI := fun σ H R => ta σ H fun vs H1 => ∃ a xs, vs = [.ref a] ∧ SqT K H1 a xs ∧ R (IteU K a) H1
theorem pi_enumT {X : Cx} {e : Expr} {ta : TA} {p pos tpos : Pos} {elts : List Expr} {kk : Nat} (hg : Gl X "enumerate") (hm : X.mg "enumerate" = none) (ha : PA X [e] ta) (hs : starEach [e] X.env = [(false, eval e X.env)] := by rfl) :
    PI X (.Tuple elts kk tpos) (.Call (.Name "enumerate" p) [e] [] pos) (iEnumT X.K ta) := by
  refine ⟨fun pins s σ H R I h => ?_⟩
  refine Call_ (ld_blt I hg hm boot_enumerate (PyProof.Rows.callWith_type1 (thn (ha.run pos pins s σ H _ I h) fun us s1 ⟨vs, H1, I1, r1, a, xs, ex, hq, q⟩ => ?_) hs rfl))
  subst ex
  cases r1 with
  | cons r rr =>
    cases rr
    cases r
    obtain ⟨its, rv, pt, hz⟩ := I1.tuple hq
    refine call_enumT (show s1.heap.IsTuple a its.toArray from pt) fun h' he hit hsz hk => wpAny_pyIter_enum he ?_
    have I2 : Inv X pins σ H1 { s1 with heap := h' } := I1.kept (t' := s1.toks) hk
    refine ⟨s1.heap.objs.size + 1, [s1.heap.objs.size + 1, s1.heap.objs.size], _, _, H1, rfl, I2, turn_enumT a (s1.heap.objs.size + 1) s1.heap.objs.size, ⟨⟨.none, he⟩, hit, Nat.succ_ne_self _⟩, fun b hb => ?_, q⟩
    have le : s1.heap.objs.size ≤ b := by
      rcases List.mem_cons.mp hb with z | z
      · rw [z]; exact Nat.le_succ _
      · rw [List.mem_singleton.mp z]; exact Nat.le_refl _
    exact I1.fpOk le (I1.hok.fresh le)
theorem walk_enumT {K : PySem.W.Frag} {a : Addr} {xs : List V} : Walk (IteU K a) xs.length (fun H => SqT K H a xs) (YPair (fun i => some (.int (i : Nat))) (fun i => xs[i]?)) where
  goes := fun i _ hi q => ⟨xs, xs[i], q, by simp [hi]⟩
  stops := fun _ q => ⟨xs, q, rfl⟩
  yields := fun i H v H' _ q ⟨T, x, h1, h2, h3, h4⟩ => ⟨T, .int (i : Nat), x, h1, h2, h3, rfl, h4 xs q⟩
/-! ### repr of data -/
/-- an item of the data: what Dp tells, or an empty dict -/
def It1 (K : PySem.W.Frag) (H : Hp) (v : V) (d : PyData) : Prop := Dp K H v d ∨ (d = .dict [] ∧ ∃ a, v = .ref a ∧ H a = some (.dK []))
inductive ItAll (K : PySem.W.Frag) (H : Hp) : List V → List PyData → Prop
  | nil : ItAll K H [] []
  | cons {v : V} {vs : List V} {d : PyData} {ds : List PyData} (h : It1 K H v d) (r : ItAll K H vs ds) : ItAll K H (v :: vs) (d :: ds)
mutual
theorem dp_noDict {K : PySem.W.Frag} {H : Hp} : ∀ (d : PyData) (v : V), Dp K H v d → d.hasDict = false
  | .none, _, _ => by simp only [PyData.hasDict]
  | .bool _, _, _ => by simp only [PyData.hasDict]
  | .int _, _, _ => by simp only [PyData.hasDict]
  | .str _, _, _ => by simp only [PyData.hasDict]
  | .list ds, _, h => by
    cases h with
    | lst _ ha => simp only [PyData.hasDict]; exact dpAll_noDict ds _ ha
  | .tuple ds, _, h => by
    cases h with
    | tup _ ha => simp only [PyData.hasDict]; exact dpAll_noDict ds _ ha
  | .dict _, _, h => by cases h
theorem dpAll_noDict {K : PySem.W.Frag} {H : Hp} : ∀ (ds : List PyData) (vs : List V), DpAll K H vs ds → PyData.hasDictAll ds = false
  | [], _, _ => by simp only [PyData.hasDictAll]
  | d :: ds, _, h => by
    cases h with
    | cons h1 h2 => simp only [PyData.hasDictAll, dp_noDict d _ h1, dpAll_noDict ds _ h2, Bool.or_self]
end
section
variable {X : Cx} {pins : List (Addr × Obj)} {σ : L2.St} {H : Hp} {s : Shared}
theorem it_reads (I : Inv X pins σ H s) : ∀ (ds : List PyData) (vs : List V) (us : List Value), ItAll X.K H vs ds → Vals vs us → ∃ as, ReadsAll s.heap us ds as
  | [], _, _, h, r => by
    cases h; cases r
    exact ⟨_, .nil⟩
  | d :: ds, _, _, h, r => by
    cases h with
    | cons h1 h2 =>
      cases r with
      | cons r1 r2 =>
        obtain ⟨bs, q2⟩ := it_reads I ds _ _ h2 r2
        rcases h1 with h1 | ⟨rfl, a, rfl, ha⟩
        · obtain ⟨as, q1⟩ := Dp.reads I d _ _ h1 r1
          exact ⟨_, .cons q1 q2⟩
        · cases r1
          obtain ⟨_, _, vs', kv, o, es, ep, e1, e2, e3, _, e5, _⟩ := I.hok a _ ha
          cases kv
          have e0 : es.toList = [] := by
              generalize es.toList = l at e5
              cases e5
              rfl
          exact ⟨_, .cons (.dict (kvs := []) e1 e2.1 e3 (by rw [e0]; exact .nil) (by rw [e0]; exact .nil)) q2⟩
theorem it_repr (I : Inv X pins σ H s) {prog : Program} {w : World} : ∀ (ds : List PyData) (vs : List V) (us : List Value), ItAll X.K H vs ds → Vals vs us → PyData.showableAll ds = true → (∀ t ∈ PyData.shownAll ds, t.length ≤ sizeLine) →
    ∃ bs, ReadAtMost s.heap (PyData.depthAll ds) bs ∧ ReprAllK prog w bs s.heap (PyData.depthAll ds) us (PyData.shownAll ds)
  | [], _, _, h, r, _, _ => by
    cases h; cases r
    exact ⟨[], (fun _ h => nomatch h), by simp only [PyData.shownAll]; exact .nil⟩
  | d :: ds, _, _, h, r, hs, hz => by
    cases h with
    | cons h1 h2 =>
      cases r with
      | @cons v0 u0 vs0 us0 r1 r2 =>
        have hs' : d.showable = true ∧ PyData.showableAll ds = true := by simpa [PyData.showableAll] using hs
        obtain ⟨b2, hb2, k2⟩ := it_repr I (prog := prog) (w := w) ds _ _ h2 r2 hs'.2 (fun t ht => hz t (by simp only [PyData.shownAll]; exact List.mem_cons_of_mem _ ht))
        have one : ∃ b1, ReadAtMost s.heap d.depth b1 ∧ ReprK prog w b1 s.heap d.depth u0 d.shown := by
          rcases h1 with h1 | ⟨rfl, a, rfl, ha⟩
          · obtain ⟨as, q1⟩ := Dp.reads I d _ _ h1 r1
            exact ReprK.of_reads q1 hs'.1 (fun z => by rw [dp_noDict d _ h1] at z; cases z) (hz _ (by simp only [PyData.shownAll]; exact List.mem_cons_self ..))
          · cases r1
            obtain ⟨_, hsys, vs', kv, o, es, ep, e1, e2, e3, _, e5, _⟩ := I.hok a _ ha
            cases kv
            have e0 : es.toList = [] := by
              generalize es.toList = l at e5
              cases e5
              rfl
            have rd : Reads s.heap (.ref a) (.dict []) _ := .dict (kvs := []) e1 e2.1 e3 (by rw [e0]; exact .nil) (by rw [e0]; exact .nil)
            refine ⟨[a], fun b hb => ?_, ?_⟩
            · rw [List.mem_singleton.mp hb]
              exact ⟨_, _, rd, Nat.le_refl _⟩
            · have k := ReprK.dict (prog := prog) (w := w) (as := []) (d := PyData.depthKv []) (ps := []) e1 e2.1 e3 hsys (fun z => nomatch z) (by rw [e0]; exact .nil)
              simpa only [PyData.depth, PyData.shown, PyData.shownKv] using k
        obtain ⟨b1, hb1, k1⟩ := one
        refine ⟨b1 ++ b2, (hb1.mono (by simp only [PyData.depthAll]; exact Nat.le_max_left _ _)).append (hb2.mono (by simp only [PyData.depthAll]; exact Nat.le_max_right _ _)), ?_⟩
        simp only [PyData.depthAll, PyData.shownAll]
        exact .cons ((k1.more fun b hb => List.mem_append_left _ hb).level_le (Nat.le_max_left _ _)) (k2.more_le (fun b hb => List.mem_append_right _ hb) (Nat.le_max_right _ _))
end
/-- repr(x), x a tuple of items, or what Dp tells of a list or a tuple -/
def rRepr (K : PySem.W.Frag) : List V → Hp → VK → Prop := fun xs H Q => ∃ (a : Addr), xs = [.ref a] ∧
  ((∃ vs ds, SqT K H a vs ∧ ItAll K H vs ds ∧ (PyData.tuple ds).showable = true ∧ (PyData.tuple ds).depth ≤ 100 ∧ (PyData.tuple ds).shown.length ≤ sizeLine ∧ Q (.str (PyData.tuple ds).shown) H) ∨
    (∃ d, Dp K H (.ref a) d ∧ d.showable = true ∧ d.depth ≤ 100 ∧ d.shown.length ≤ sizeLine ∧ Q (.str d.shown) H))
theorem call_repr {X : Cx} (hg : X.A.guards = some []) (hu : X.A.units + 150 < cLine) : CallR X (.builtin "repr") (rRepr X.K) := by
  intro pins s σ H xs us Q I r h
  obtain ⟨a, rfl, h⟩ := h
  obtain ⟨u, rfl, ru⟩ := vals1 r
  cases (show u = Value.ref a from ru)
  rcases h with ⟨vs, ds, hS, hI, hsh, hdp, hsz, q⟩ | ⟨d, hD, hsh, hdp, hsz, q⟩
  · obtain ⟨its, rv, ⟨o, h1, h2, n, h3⟩, _⟩ := I.tuple hS
    obtain ⟨as, hr⟩ := it_reads I ds vs its hI rv
    have hz' : (tupleText (PyData.shownAll ds)).length ≤ sizeLine := by simpa only [PyData.shown] using hsz
    obtain ⟨bs, hb, hk⟩ := it_repr I (prog := X.prog) (w := X.w) ds vs its hI rv (by simpa [PyData.showable] using hsh) (fun t ht => Nat.le_trans (tupleText_mem_le ht) hz')
    have hna : a ∉ bs := not_mem_of_deeper (.tuple h1 h2 h3 (by simpa using hr)) (by simp only [PyData.depth]; omega) hb
    have hdp' : PyData.depthAll ds + 1 ≤ 100 := by simpa only [PyData.depth] using hdp
    have hA1 : X.A.in1.units = X.A.units + 1 := rfl
    refine call_repr_slot (by omega) (T := "tuple") ⟨o, h1, h2⟩ F.slot_tuple_repr (call_tuple_reprK (g := []) h1 h2 h3 hna (by simpa using hk) hg (fun b _ => Clear.nil b) (by omega) (fun _ _ e => e) (fun h' u tk k => ⟨_, _, rfl, ?_⟩) hz')
    simp only [PyData.shown] at q
    exact ⟨.str _, H, I.kept k, ⟨_, rfl⟩, q⟩
  · obtain ⟨as, hr⟩ := Dp.reads I d _ _ hD rfl
    exact repr_of_reads' hr hsh (fun z => by rw [dp_noDict d _ hD] at z; cases z) hg (by omega) (fun _ _ e => e) (fun h' u tk k => ⟨.str _, H, I.kept k, ⟨_, rfl⟩, q⟩) hsz
end Kt
set_option Elab.async false
set_option linter.all false
set_option maxRecDepth 100000
set_option maxHeartbeats 4000000
namespace Kt
open PySem PySem.Spec PyProof.Rows L2
/-! ### data of values -/
mutual
inductive Is (K : PySem.W.Frag) (mm : Option Addr) (H : Hp) : V → PyData → Prop
  | non : Is K mm H .non .none
  | bl (b : Bool) : Is K mm H (.bl b) (.bool b)
  | int (i : Int) : Is K mm H (.int i) (.int i)
  | str (x : Str) : Is K mm H (.str x) (.str x)
  | lst {a : Addr} {xs : List V} {ds : List PyData} (h : H a = some (.lst xs)) (r : IsAll K mm H xs ds) : Is K mm H (.ref a) (.list ds)
  | tup {a : Addr} {xs : List V} {ds : List PyData} (h : SqT K H a xs) (r : IsAll K mm H xs ds) : Is K mm H (.ref a) (.tuple ds)
  | dct {a : Addr} (h : H a = some (.dK [])) : Is K mm H (.ref a) (.dict [])
  | em {a : Addr} (h : mm = some a) : Is K mm H (.ref a) (.dict [(.none, .none)])
inductive IsAll (K : PySem.W.Frag) (mm : Option Addr) (H : Hp) : List V → List PyData → Prop
  | nil : IsAll K mm H [] []
  | cons {v : V} {vs : List V} {d : PyData} {ds : List PyData} (h : Is K mm H v d) (r : IsAll K mm H vs ds) : IsAll K mm H (v :: vs) (d :: ds)
end
abbrev markD : PyData := .dict [(.none, .none)]
theorem sqT_same {K : PySem.W.Frag} {H H' : Hp} {a : Addr} {xs : List V} (e : Same H H') (h : SqT K H a xs) : SqT K H' a xs := by
  rcases h with (h | ⟨o, h⟩) | h
  · exact .inl (.inl (e _ _ h))
  · exact .inl (.inr ⟨o, e _ _ h⟩)
  · exact .inr h
section
variable {K : PySem.W.Frag} {mm : Option Addr} {H H' W W' : Hp}
mutual
theorem Is.same (e : Same H H') : ∀ (d : PyData) (v : V), Is K mm H v d → Is K mm H' v d
  | .none, _, h => by cases h; exact .non
  | .bool b, _, h => by cases h; exact .bl b
  | .int i, _, h => by cases h; exact .int i
  | .str x, _, h => by cases h; exact .str x
  | .list ds, _, h => by
    cases h with
    | lst h r => exact .lst (e _ _ h) (IsAll.same e ds _ r)
  | .tuple ds, _, h => by
    cases h with
    | tup h r => exact .tup (sqT_same e h) (IsAll.same e ds _ r)
  | .dict _, _, h => by
    cases h with
    | dct h => exact .dct (e _ _ h)
    | em h => exact .em h
theorem IsAll.same (e : Same H H') : ∀ (ds : List PyData) (vs : List V), IsAll K mm H vs ds → IsAll K mm H' vs ds
  | [], _, h => by cases h; exact .nil
  | d :: ds, _, h => by
    cases h with
    | cons h r => exact .cons (Is.same e d _ h) (IsAll.same e ds _ r)
end
theorem Is.up {d : PyData} {v : V} (h : Is K mm H v d) (e : Same H H') : Is K mm H' v d := Is.same e d v h
theorem IsAll.up {ds : List PyData} {vs : List V} (h : IsAll K mm H vs ds) (e : Same H H') : IsAll K mm H' vs ds := IsAll.same e ds vs h
theorem IsAll.length : ∀ {vs : List V} {ds : List PyData}, IsAll K mm H vs ds → vs.length = ds.length
  | _, _, .nil => rfl
  | _, _, .cons _ r => by rw [List.length_cons, List.length_cons, IsAll.length r]
theorem IsAll.at : ∀ {vs : List V} {ds : List PyData} {i : Nat} {d : PyData}, IsAll K mm H vs ds → ds[i]? = some d → ∃ v, vs[i]? = some v ∧ Is K mm H v d
  | _, _, _, _, .nil, e => by simp at e
  | _, _, 0, _, .cons h _, e => by simp at e; subst e; exact ⟨_, rfl, h⟩
  | _, _, i + 1, _, .cons _ r, e => by
    obtain ⟨v, h1, h2⟩ := IsAll.at (i := i) r (by simpa using e)
    exact ⟨v, by simpa using h1, h2⟩
theorem IsAll.atV : ∀ {vs : List V} {ds : List PyData} {i : Nat} {v : V}, IsAll K mm H vs ds → vs[i]? = some v → ∃ d, ds[i]? = some d ∧ Is K mm H v d
  | _, _, _, _, .nil, e => by simp at e
  | _, _, 0, _, .cons h _, e => by simp at e; subst e; exact ⟨_, rfl, h⟩
  | _, _, i + 1, _, .cons _ r, e => by
    obtain ⟨v, h1, h2⟩ := IsAll.atV (i := i) r (by simpa using e)
    exact ⟨v, by simpa using h1, h2⟩
theorem IsAll.app : ∀ {vs ws : List V} {ds es : List PyData}, IsAll K mm H vs ds → IsAll K mm H ws es → IsAll K mm H (vs ++ ws) (ds ++ es)
  | _, _, _, _, .nil, s => s
  | _, _, _, _, .cons h r, s => .cons h (IsAll.app r s)
theorem IsAll.drop : ∀ {vs : List V} {ds : List PyData} (n : Nat), IsAll K mm H vs ds → IsAll K mm H (vs.drop n) (ds.drop n)
  | _, _, 0, h => h
  | _, _, _ + 1, .nil => .nil
  | _, _, n + 1, .cons _ r => IsAll.drop n r
theorem IsAll.take : ∀ {vs : List V} {ds : List PyData} (n : Nat), IsAll K mm H vs ds → IsAll K mm H (vs.take n) (ds.take n)
  | _, _, 0, _ => .nil
  | _, _, _ + 1, .nil => .nil
  | _, _, n + 1, .cons h r => .cons h (IsAll.take n r)
theorem IsAll.ints : ∀ {vs : List V} {ns : List Int}, IsAll K mm H vs (ns.map PyData.int) → vs = ns.map V.int
  | _, [], h => by cases h; rfl
  | _, n :: ns, h => by
    cases h with
    | cons h r =>
      cases h
      rw [IsAll.ints r]; rfl
theorem IsAll.of_ints : ∀ (ns : List Int), IsAll K mm H (ns.map V.int) (ns.map PyData.int)
  | [] => .nil
  | n :: ns => .cons (.int n) (IsAll.of_ints ns)
/-! ### no list and no dict within -/
mutual
def flat : PyData → Bool
  | .none | .bool _ | .int _ | .str _ => true
  | .list _ | .dict _ => false
  | .tuple ds => flatAll ds
def flatAll : List PyData → Bool
  | [] => true
  | d :: ds => flat d && flatAll ds
end
def hid (a : Addr) (H : Hp) : Hp := fun b => if b = a then none else H b
theorem hid_same {a : Addr} : hid a H a = none := if_pos rfl
theorem hid_ne {a b : Addr} (h : b ≠ a) : hid a H b = H b := if_neg h
theorem Same.hid_le {a : Addr} : Same (hid a H) H := fun b o e => by
  by_cases h : b = a
  · rw [h, hid_same] at e; cases e
  · rw [hid_ne h] at e; exact e
theorem sqT_hid {a p : Addr} {xs ys : List V} (hp : H p = some (.lst ys)) (h : SqT K H a xs) : SqT K (hid p H) a xs := by
  rcases h with (h | ⟨o, h⟩) | h
  · have ne : a ≠ p := ne_of h hp (fun z => by cases z)
    exact .inl (.inl (by rw [hid_ne ne]; exact h))
  · have ne : a ≠ p := ne_of h hp (fun z => by cases z)
    exact .inl (.inr ⟨o, by rw [hid_ne ne]; exact h⟩)
  · exact .inr h
mutual
theorem Is.hide {p : Addr} {ys : List V} (hp : H p = some (.lst ys)) : ∀ (d : PyData) (v : V), flat d = true → Is K mm H v d → Is K mm (hid p H) v d
  | .none, _, _, h => by cases h; exact .non
  | .bool b, _, _, h => by cases h; exact .bl b
  | .int i, _, _, h => by cases h; exact .int i
  | .str x, _, _, h => by cases h; exact .str x
  | .list ds, _, f, _ => by simp [flat] at f
  | .dict ds, _, f, _ => by simp [flat] at f
  | .tuple ds, _, f, h => by
    cases h with
    | tup h r => exact .tup (sqT_hid hp h) (IsAll.hide hp ds _ (by simpa [flat] using f) r)
theorem IsAll.hide {p : Addr} {ys : List V} (hp : H p = some (.lst ys)) : ∀ (ds : List PyData) (vs : List V), flatAll ds = true → IsAll K mm H vs ds → IsAll K mm (hid p H) vs ds
  | [], _, _, h => by cases h; exact .nil
  | d :: ds, _, f, h => by
    have f' : flat d = true ∧ flatAll ds = true := by simpa [flatAll] using f
    cases h with
    | cons h r => exact .cons (Is.hide hp d _ f'.1 h) (IsAll.hide hp ds _ f'.2 r)
end
end
/-! ### environments -/
abbrev En := List (Option PyData)
def EnvOk (K : PySem.W.Frag) (mm : Option Addr) (W : Hp) (σ : L2.St) (ρ : En) : Prop := σ.length = ρ.length ∧ ∀ (i : Nat) (d : PyData), ρ[i]? = some (some d) → ∃ v, σ[i]? = some (some v) ∧ Is K mm W v d
section
variable {K : PySem.W.Frag} {mm : Option Addr} {W W' H H' : Hp} {σ : L2.St} {ρ : En}
theorem EnvOk.up (h : EnvOk K mm W σ ρ) (e : Same W W') : EnvOk K mm W' σ ρ := ⟨h.1, fun i d q => by
  obtain ⟨v, h1, h2⟩ := h.2 i d q
  exact ⟨v, h1, h2.up e⟩⟩
theorem EnvOk.set {i : Nat} {v : V} {d : PyData} (h : EnvOk K mm W σ ρ) (hv : Is K mm W v d) : EnvOk K mm W (σ.set i (some v)) (ρ.set i (some d)) := by
  refine ⟨by rw [List.length_set, List.length_set]; exact h.1, fun j e q => ?_⟩
  by_cases hj : j = i
  · subst hj
    have lt : j < ρ.length := by
      have z := (List.getElem?_eq_some_iff.mp q).1
      simpa using z
    rw [List.getElem?_set_self lt] at q
    cases q
    exact ⟨v, List.getElem?_set_self (by rw [h.1]; exact lt), hv⟩
  · rw [List.getElem?_set_ne (Ne.symm hj)] at q
    obtain ⟨u, h1, h2⟩ := h.2 j e q
    exact ⟨u, by rw [List.getElem?_set_ne (Ne.symm hj)]; exact h1, h2⟩
theorem EnvOk.clr {i : Nat} (h : EnvOk K mm W σ ρ) (x : Option V) : EnvOk K mm W (σ.set i x) (ρ.set i none) := by
  refine ⟨by rw [List.length_set, List.length_set]; exact h.1, fun j e q => ?_⟩
  by_cases hj : j = i
  · subst hj
    have lt : j < ρ.length := by
      have z := (List.getElem?_eq_some_iff.mp q).1
      simpa using z
    rw [List.getElem?_set_self lt] at q
    cases q
  · rw [List.getElem?_set_ne (Ne.symm hj)] at q
    obtain ⟨u, h1, h2⟩ := h.2 j e q
    exact ⟨u, by rw [List.getElem?_set_ne (Ne.symm hj)]; exact h1, h2⟩
theorem EnvOk.weak {ρ' : En} (h : EnvOk K mm W σ ρ) (hl : ρ'.length = ρ.length) (hw : ∀ (i : Nat) (d : PyData), ρ'[i]? = some (some d) → ρ[i]? = some (some d)) : EnvOk K mm W σ ρ' :=
  ⟨h.1.trans hl.symm, fun i d q => h.2 i d (hw i d q)⟩
theorem EnvOk.start {N : List Str} {vs : List V} {ds : List PyData} (h : IsAll K mm W vs ds) : EnvOk K mm W (L2.start N vs) (ds.map some ++ List.replicate (N.length - ds.length) none) := by
  have hl := h.length
  refine ⟨by unfold L2.start; simp [hl], fun i d q => ?_⟩
  by_cases hi : i < ds.length
  · rw [List.getElem?_append_left (by simpa using hi), List.getElem?_map] at q
    cases e : ds[i]? with
    | none => rw [e] at q; cases q
    | some d' =>
      rw [e] at q
      cases q
      obtain ⟨v, h1, h2⟩ := h.at e
      refine ⟨v, ?_, h2⟩
      unfold L2.start
      rw [List.getElem?_append_left (by simpa [hl] using hi), List.getElem?_map, h1]
      rfl
  · rw [List.getElem?_append_right (by simpa using hi)] at q
    have z := List.getElem?_replicate (n := N.length - ds.length) (a := (none : Option PyData)) (i := i - (ds.map some).length)
    rw [z] at q
    split at q <;> cases q
end
/-! ### steps: a pure one; what a draw may do -/
structure Up (W H W' H' : Hp) : Prop where
  w : Same W W'
  h : Same H H'
  i : Same W' H'
  f : ∀ b, H b ≠ none → W' b = W b
  t : ∀ b ps, W' b = some (.tbl ps) → W b = some (.tbl ps)
theorem Up.refl {W H : Hp} (i : Same W H) : Up W H W H := ⟨Same.refl _, Same.refl _, i, fun _ _ => rfl, fun _ _ z => z⟩
theorem Up.trans {W H W1 H1 W2 H2 : Hp} (a : Up W H W1 H1) (b : Up W1 H1 W2 H2) : Up W H W2 H2 :=
  ⟨a.w.trans b.w, a.h.trans b.h, b.i, fun c hc => by
    have h1 : H1 c ≠ none := fun z => by
      cases q : H c with
      | none => exact hc q
      | some o => rw [a.h c o q] at z; cases z
    rw [b.f c h1, a.f c hc], fun c ps z => a.t c ps (b.t c ps z)⟩
theorem Same.none {H H' : Hp} (e : Same H H') {p : Addr} (h : H' p = none) : H p = none := e.free h
theorem Up.new {W H : Hp} {p : Addr} {o : HO} (i : Same W H) (h : H p = none) (ho : ∀ ps, o ≠ .tbl ps := by intro _ z; cases z) : Up W H (upd W p o) (upd H p o) where
  w := fun b u e => by rw [upd_ne (ne_of_none e (i.free h))]; exact e
  h := fun b u e => by rw [upd_ne (ne_of_none e h)]; exact e
  i := fun b u e => by
    by_cases hb : b = p
    · rw [hb, upd_same] at e ⊢; exact e
    · rw [upd_ne hb] at e ⊢; exact i b u e
  f := fun b hb => upd_ne (fun z => hb (by rw [z]; exact h))
  t := fun b ps e => by
    by_cases hb : b = p
    · rw [hb, upd_same] at e; exact absurd (Option.some.inj e) (ho ps)
    · rw [upd_ne hb] at e; exact e
/-- m's dict: its cells, what is left of the great ones, the counter (at most n) -/
structure MSt (m : Addr) (T : List (Addr × Str)) (n : Nat) (W H : Hp) : Prop where
  ex : ∃ (c l : Addr) (cells left : List Int) (k : Nat), H m = some (.dK [(Sum.inr "cells", .ref c), (Sum.inr "left", .ref l), (Sum.inr "at", .int k)]) ∧ H c = some (.lst (cells.map V.int)) ∧ H l = some (.lst (left.map V.int)) ∧
    c ≠ l ∧ W m = none ∧ W l = none ∧ W c = none ∧ cells.length ≤ 100 ∧ left.length ≤ 100 ∧ k ≤ n
  tb : LamX.Tabs T H
  wt : ∀ b ps, W b ≠ some (.tbl ps)
theorem MSt.mono {m : Addr} {T : List (Addr × Str)} {n n' : Nat} {W H : Hp} (h : MSt m T n W H) (hn : n ≤ n') : MSt m T n' W H := by
  obtain ⟨c, l, cs, lf, k, h1, h2, h3, h4, h5, h6, h7, h8, h9, h10⟩ := h.ex
  exact ⟨⟨c, l, cs, lf, k, h1, h2, h3, h4, h5, h6, h7, h8, h9, Nat.le_trans h10 hn⟩, h.tb, h.wt⟩
theorem MSt.up {m : Addr} {T : List (Addr × Str)} {n : Nat} {W H W' H' : Hp} (h : MSt m T n W H) (u : Up W H W' H') : MSt m T n W' H' := by
  obtain ⟨c, l, cs, lf, k, h1, h2, h3, h4, h5, h6, h7, h8, h9, h10⟩ := h.ex
  have ne : ∀ {b : Addr} {o : HO}, H b = some o → H b ≠ none := fun {b o} e z => by rw [e] at z; cases z
  exact ⟨⟨c, l, cs, lf, k, u.h _ _ h1, u.h _ _ h2, u.h _ _ h3, h4, by rw [u.f m (ne h1)]; exact h5, by rw [u.f l (ne h3)]; exact h6, by rw [u.f c (ne h2)]; exact h7, h8, h9, h10⟩, h.tb.ext u.h, fun b ps z => h.wt b ps (u.t b ps z)⟩
inductive Mode where
  | pure (mm : Option Addr)
  | em (m : Addr) (T : List (Addr × Str))
  | rel (mm : Option Addr) (W0 H0 : Hp)
def Mode.mm : Mode → Option Addr
  | .pure o => o
  | .em m _ => some m
  | .rel o _ _ => o
def Mode.S : Mode → Nat → Hp → Hp → Prop
  | .pure _ => fun _ _ _ => True
  | .em m T => MSt m T
  | .rel _ W0 H0 => fun _ W H => Up W0 H0 W H
def Mode.F : Mode → Hp → Hp → Hp → Hp → Prop
  | .pure _ => fun W H W' H' => Same H H' ∧ (∀ b, H b ≠ none → W' b = W b) ∧ ∀ b ps, W' b = some (.tbl ps) → W b = some (.tbl ps)
  | .em _ _ => fun _ _ _ _ => True
  | .rel _ _ _ => fun W H W' H' => Same H H' ∧ (∀ b, H b ≠ none → W' b = W b) ∧ ∀ b ps, W' b = some (.tbl ps) → W b = some (.tbl ps)
def lim : Nat := 1000000000
structure Go (M : Mode) (c n : Nat) (W H W' H' : Hp) : Prop where
  w : Same W W'
  i : Same W' H'
  f : M.F W H W' H'
  s : M.S (n + c) W' H'
section
variable {M : Mode} {c c1 c2 n : Nat} {W H W1 H1 W2 H2 W' H' : Hp}
theorem Mode.S.mono {a b : Nat} (h : M.S a W H) (hn : a ≤ b) : M.S b W H := by
  cases M with
  | pure _ => trivial
  | em m T => exact MSt.mono (show MSt m T a W H from h) hn
  | rel o W0 H0 => exact h
theorem Mode.S.up {a : Nat} (h : M.S a W H) (u : Up W H W' H') : M.S a W' H' := by
  cases M with
  | pure _ => trivial
  | em m T => exact MSt.up (show MSt m T a W H from h) u
  | rel o W0 H0 => exact Up.trans (show Up W0 H0 W H from h) u
theorem Mode.F.up (u : Up W H W' H') : M.F W H W' H' := by
  cases M with
  | pure _ => exact ⟨u.h, u.f, u.t⟩
  | em m T => trivial
  | rel o W0 H0 => exact ⟨u.h, u.f, u.t⟩
theorem Go.up (u : Up W H W' H') (h : M.S n W H) : Go M 0 n W H W' H' := ⟨u.w, u.i, Mode.F.up u, h.up u⟩
theorem Go.refl (i : Same W H) (h : M.S n W H) : Go M 0 n W H W H := Go.up (Up.refl i) h
theorem Go.trans (a : Go M c1 n W H W1 H1) (b : Go M c2 (n + c1) W1 H1 W2 H2) : Go M (c1 + c2) n W H W2 H2 := by
  refine ⟨a.w.trans b.w, b.i, ?_, by have z := b.s; rw [Nat.add_assoc] at z; exact z⟩
  cases M with
  | pure o =>
    obtain ⟨a1, a2, a3⟩ := a.f
    obtain ⟨b1, b2, b3⟩ := b.f
    refine ⟨a1.trans b1, fun x hx => ?_, fun x ps z => a3 x ps (b3 x ps z)⟩
    have h1 : H1 x ≠ none := fun z => by
      cases q : H x with
      | none => exact hx q
      | some o => rw [a1 x o q] at z; cases z
    rw [b2 x h1, a2 x hx]
  | em m T => trivial
  | rel o W0 H0 =>
    obtain ⟨a1, a2, a3⟩ := a.f
    obtain ⟨b1, b2, b3⟩ := b.f
    refine ⟨a1.trans b1, fun x hx => ?_, fun x ps z => a3 x ps (b3 x ps z)⟩
    have h1 : H1 x ≠ none := fun z => by
      cases q : H x with
      | none => exact hx q
      | some o => rw [a1 x o q] at z; cases z
    rw [b2 x h1, a2 x hx]
theorem Go.mono (a : Go M c1 n W H W' H') (h : c1 ≤ c2) : Go M c2 n W H W' H' := ⟨a.w, a.i, a.f, a.s.mono (by omega)⟩
theorem Go.toUpR {o : Option Addr} {W0 H0 : Hp} (a : Go (.rel o W0 H0) c n W H W' H') : Up W H W' H' := ⟨a.w, a.f.1, a.i, a.f.2.1, a.f.2.2⟩
theorem Go.toUp {o : Option Addr} (a : Go (.pure o) c n W H W' H') : Up W H W' H' := ⟨a.w, a.f.1, a.i, a.f.2.1, a.f.2.2⟩
end
/-! ### what an expression is worth -/
section
variable (K : PySem.W.Frag) (M : Mode)
def EV (c : Nat) (te : TE) (ρ : En) (P : PyData → Prop) : Prop := ∀ (n : Nat) (σ : L2.St) (W H : Hp), Same W H → M.S n W H → n + c ≤ lim → EnvOk K M.mm W σ ρ →
  ∀ Q : VK, (∀ v d W' H', Go M c n W H W' H' → P d → Is K M.mm W' v d → Q v H') → te σ H Q
def TV (c : Nat) (tt : TT) (ρ : En) (P : Bool → Prop) : Prop := ∀ (n : Nat) (σ : L2.St) (W H : Hp), Same W H → M.S n W H → n + c ≤ lim → EnvOk K M.mm W σ ρ →
  ∀ Q : Bool → Hp → Prop, (∀ b W' H', Go M c n W H W' H' → P b → Q b H') → tt σ H Q
def AV (c : Nat) (ta : TA) (ρ : En) (P : List PyData → Prop) : Prop := ∀ (n : Nat) (σ : L2.St) (W H : Hp), Same W H → M.S n W H → n + c ≤ lim → EnvOk K M.mm W σ ρ →
  ∀ Q : List V → Hp → Prop, (∀ vs ds W' H', Go M c n W H W' H' → P ds → IsAll K M.mm W' vs ds → Q vs H') → ta σ H Q
def OV (to : TO) (ρ : En) (o : Option Int) : Prop := ∀ (n : Nat) (σ : L2.St) (W H : Hp), Same W H → M.S n W H → n ≤ lim → EnvOk K M.mm W σ ρ →
  ∀ Q : Option Int → Hp → Prop, (∀ W' H', Go M 0 n W H W' H' → Q o H') → to σ H Q
/-- an operator on values, by data -/
def RD (r : R2) (x y : PyData) (P : PyData → Prop) : Prop := ∀ (W H : Hp) (v w : V), Same W H → Is K M.mm W v x → Is K M.mm W w y → ∀ Q : VK, (∀ u d W' H', Up W H W' H' → P d → Is K M.mm W' u d → Q u H') → r v w H Q
def UD (r : V → Hp → VK → Prop) (x : PyData) (P : PyData → Prop) : Prop := ∀ (W H : Hp) (v : V), Same W H → Is K M.mm W v x → ∀ Q : VK, (∀ u d W' H', Up W H W' H' → P d → Is K M.mm W' u d → Q u H') → r v H Q
/-- a call on values -/
def CD (r : List V → Hp → VK → Prop) (ds : List PyData) (P : PyData → Prop) : Prop := ∀ (W H : Hp) (vs : List V), Same W H → IsAll K M.mm W vs ds → ∀ Q : VK, (∀ u d W' H', Up W H W' H' → P d → Is K M.mm W' u d → Q u H') → r vs H Q
/-- a promise -/
def SD (c : Nat) (sp : Sp) (ds : List PyData) (P : PyData → Prop) : Prop := ∀ (n : Nat) (W H : Hp) (vs : List V), Same W H → M.S n W H → n + c ≤ lim → IsAll K M.mm W vs ds →
  ∀ (Q : VK) (E : XK), (∀ u d W' H', Go M c n W H W' H' → P d → Is K M.mm W' u d → Q u H') → sp vs H Q E
abbrev E (te : TE) (ρ : En) (d : PyData) : Prop := EV K M 0 te ρ (· = d)
abbrev T (tt : TT) (ρ : En) (b : Bool) : Prop := TV K M 0 tt ρ (· = b)
abbrev A (ta : TA) (ρ : En) (ds : List PyData) : Prop := AV K M 0 ta ρ (· = ds)
end
section
variable {K : PySem.W.Frag} {M : Mode} {c c1 c2 c3 : Nat} {te ta tb tc : TE} {tt tu : TT} {ts : TA} {ρ : En} {d x y z : PyData} {ds es : List PyData} {P P1 P2 : PyData → Prop} {r r' : R2} {b b1 b2 : Bool} {i j : Int}
theorem EV.mono {P' : PyData → Prop} {c' : Nat} (h : EV K M c te ρ P) (hc : c ≤ c') (hp : ∀ d, P d → P' d) : EV K M c' te ρ P' := fun n σ W H i s l e Q q =>
  h n σ W H i s (by omega) e Q fun v d W' H' g p iv => q v d W' H' (g.mono hc) (hp d p) iv
theorem TV.mono {P P' : Bool → Prop} {c' : Nat} (h : TV K M c tt ρ P) (hc : c ≤ c') (hp : ∀ d, P d → P' d) : TV K M c' tt ρ P' := fun n σ W H i s l e Q q =>
  h n σ W H i s (by omega) e Q fun b W' H' g p => q b W' H' (g.mono hc) (hp b p)
theorem e_var {k : Nat} (h : ρ[k]? = some (some d)) : E K M (tVar k) ρ d := fun n σ W H i s l e Q q => by
  obtain ⟨v, h1, h2⟩ := e.2 k d h
  exact ⟨v, h1, q v d W H (Go.refl i s) rfl h2⟩
theorem e_c {v : V} (h : ∀ W, Is K M.mm W v d) : E K M (tC v) ρ d := fun n σ W H i s l e Q q => q v d W H (Go.refl i s) rfl (h W)
theorem e_int : E K M (tC (.int i)) ρ (.int i) := e_c fun _ => .int i
theorem e_str {x : Str} : E K M (tC (.str x)) ρ (.str x) := e_c fun _ => .str x
theorem e_bl : E K M (tC (.bl b)) ρ (.bool b) := e_c fun _ => .bl b
theorem e_non : E K M (tC .non) ρ .none := e_c fun _ => .non
theorem ev_op (ha : EV K M c1 ta ρ P1) (hb : EV K M c2 tb ρ P2) (hr : ∀ x y, P1 x → P2 y → RD K M r x y P) : EV K M (c1 + c2) (tOp r ta tb) ρ P := fun n σ W H i s l e Q q =>
  ha n σ W H i s (by omega) e _ fun v x W1 H1 g1 p1 iv => hb (n + c1) σ W1 H1 g1.i g1.s (by omega) (e.up g1.w) _ fun w y W2 H2 g2 p2 iw =>
    hr x y p1 p2 W2 H2 v w g2.i (iv.up g2.w) iw Q fun u d W3 H3 g3 p3 iu => q u d W3 H3 ((g1.trans g2).trans (Go.up g3 (g1.trans g2).s)) p3 iu
theorem e_op (ha : E K M ta ρ x) (hb : E K M tb ρ y) (hr : RD K M r x y (· = z)) : E K M (tOp r ta tb) ρ z := ev_op ha hb fun _ _ hx hy => by rw [hx, hy]; exact hr
theorem ev_un {r : V → Hp → VK → Prop} (ha : EV K M c ta ρ P1) (hr : ∀ x, P1 x → UD K M r x P) : EV K M c (tUn r ta) ρ P := fun n σ W H i s l e Q q =>
  ha n σ W H i s l e _ fun v x W1 H1 g1 p1 iv => hr x p1 W1 H1 v g1.i iv Q fun u d W3 H3 g3 p3 iu => q u d W3 H3 (g1.trans (Go.up g3 g1.s)) p3 iu
theorem e_un {r : V → Hp → VK → Prop} (ha : E K M ta ρ x) (hr : UD K M r x (· = z)) : E K M (tUn r ta) ρ z := ev_un ha fun _ hx => by rw [hx]; exact hr
/-! the argument lists -/
theorem av_nil : A K M tNil ρ [] := fun n σ W H i s l e Q q => q [] [] W H (Go.refl i s) rfl .nil
theorem av_cons {PA : List PyData → Prop} (h : EV K M c1 te ρ P1) (hr : AV K M c2 ts ρ PA) : AV K M (c1 + c2) (tCons te ts) ρ (fun l => ∃ d ds, l = d :: ds ∧ P1 d ∧ PA ds) := fun n σ W H i s l e Q q =>
  h n σ W H i s (by omega) e _ fun v x W1 H1 g1 p1 iv => hr (n + c1) σ W1 H1 g1.i g1.s (by omega) (e.up g1.w) _ fun vs ds W2 H2 g2 p2 ivs =>
    q (v :: vs) (x :: ds) W2 H2 (g1.trans g2) ⟨x, ds, rfl, p1, p2⟩ (.cons (iv.up g2.w) ivs)
theorem AV.mono {PA PB : List PyData → Prop} {c' : Nat} (h : AV K M c ts ρ PA) (hc : c ≤ c') (hp : ∀ d, PA d → PB d) : AV K M c' ts ρ PB := fun n σ W H i s l e Q q =>
  h n σ W H i s (by omega) e Q fun v d W' H' g p iv => q v d W' H' (g.mono hc) (hp d p) iv
theorem a_nil : A K M tNil ρ [] := av_nil
theorem a_cons (h : E K M te ρ d) (hr : A K M ts ρ ds) : A K M (tCons te ts) ρ (d :: ds) := (av_cons h hr).mono (Nat.le_refl _) fun l ⟨d', ds', e, h1, h2⟩ => by rw [e, h1, h2]
theorem ev_callB {r : List V → Hp → VK → Prop} {PA : List PyData → Prop} (ha : AV K M c ts ρ PA) (hr : ∀ ds, PA ds → CD K M r ds P) : EV K M c (tCB r ts) ρ P := fun n σ W H i s l e Q q =>
  ha n σ W H i s l e _ fun vs ds W1 H1 g1 p1 iv => hr ds p1 W1 H1 vs g1.i iv Q fun u d W3 H3 g3 p3 iu => q u d W3 H3 (g1.trans (Go.up g3 g1.s)) p3 iu
theorem e_callB {r : List V → Hp → VK → Prop} (ha : A K M ts ρ ds) (hr : CD K M r ds (· = z)) : E K M (tCB r ts) ρ z := ev_callB ha fun _ h => by rw [h]; exact hr
theorem ev_call {sp : Sp} {X : XK} {PA : List PyData → Prop} (ha : AV K M c1 ts ρ PA) (hr : ∀ ds, PA ds → SD K M c2 sp ds P) : EV K M (c1 + c2) (tCall sp [] X ts) ρ P := fun n σ W H i s l e Q q =>
  ha n σ W H i s (by omega) e _ fun vs ds W1 H1 g1 p1 iv => by
    rw [List.append_nil]
    exact hr ds p1 (n + c1) W1 H1 vs g1.i g1.s (by omega) iv Q X fun u d W3 H3 g3 p3 iu => q u d W3 H3 (g1.trans g3) p3 iu
theorem e_call {sp : Sp} {X : XK} (ha : A K M ts ρ ds) (hr : SD K M 0 sp ds (· = z)) : E K M (tCall sp [] X ts) ρ z := ev_call ha fun _ h => by rw [h]; exact hr
theorem ec_call {sp : Sp} {X : XK} (ha : A K M ts ρ ds) (hr : SD K M c sp ds P) : EV K M c (tCall sp [] X ts) ρ P := (ev_call (c1 := 0) ha fun _ h => by rw [h]; exact hr).mono (by omega) fun _ p => p
theorem sl_of {n : Nat} (h : n ≤ 16000000) : n ≤ sizeLine := Nat.le_trans h (by decide)
theorem ev_tup {PA : List PyData → Prop} (ha : AV K M c ts ρ PA) (hl : ∀ ds, PA ds → ds.length ≤ 16000000) (hp : ∀ ds, PA ds → P (.tuple ds)) : EV K M c (tTup ts) ρ P := fun n σ W H i s l e Q q =>
  ha n σ W H i s l e _ fun vs ds W1 H1 g1 p1 iv => ⟨by rw [iv.length]; exact sl_of (hl ds p1), fun p hn => by
    have u := Up.new (o := .tup vs) g1.i hn
    exact q _ _ _ _ (g1.trans (Go.up u g1.s)) (hp ds p1) (.tup (.inl (.inl upd_same)) (iv.up u.w))⟩
theorem e_tup (ha : A K M ts ρ ds) (hl : ds.length ≤ 16000000) : E K M (tTup ts) ρ (.tuple ds) := ev_tup ha (fun _ h => by rw [h]; exact hl) fun _ h => by rw [h]
theorem ev_lst {PA : List PyData → Prop} (ha : AV K M c ts ρ PA) (hl : ∀ ds, PA ds → ds.length ≤ 16000000) (hp : ∀ ds, PA ds → P (.list ds)) : EV K M c (tLst ts) ρ P := fun n σ W H i s l e Q q =>
  ha n σ W H i s l e _ fun vs ds W1 H1 g1 p1 iv => ⟨by rw [iv.length]; exact sl_of (hl ds p1), fun p hn => by
    have u := Up.new (o := .lst vs) g1.i hn
    exact q _ _ _ _ (g1.trans (Go.up u g1.s)) (hp ds p1) (.lst upd_same (iv.up u.w))⟩
theorem e_lst (ha : A K M ts ρ ds) (hl : ds.length ≤ 16000000) : E K M (tLst ts) ρ (.list ds) := ev_lst ha (fun _ h => by rw [h]; exact hl) fun _ h => by rw [h]
/-! tests -/
theorem tv_val {PB : Bool → Prop} (h : EV K M c te ρ (fun d => ∃ b, d = .bool b ∧ PB b)) : TV K M c (tB te) ρ PB := fun n σ W H i s l e Q q =>
  h n σ W H i s l e _ fun v d W' H' g p iv => by
    obtain ⟨b, rfl, pb⟩ := p
    cases iv
    exact ⟨b, rfl, q b W' H' g pb⟩
theorem tv_test {PB : Bool → Prop} (h : EV K M c te ρ (fun d => ∃ b, d = .bool b ∧ PB b)) : TV K M c (tTest te) ρ PB := tv_val h
theorem t_val (h : E K M te ρ (.bool b)) : T K M (tB te) ρ b := tv_val (h.mono (Nat.le_refl _) fun _ z => ⟨b, z, rfl⟩)
theorem t_test (h : E K M te ρ (.bool b)) : T K M (tTest te) ρ b := t_val h
theorem t_not (h : T K M tt ρ b) : T K M (tNot tt) ρ (!b) := fun n σ W H i s l e Q q => h n σ W H i s l e _ fun b' W' H' g p => q _ W' H' g (by rw [p])
theorem tv_not {PB : Bool → Prop} (h : TV K M c tt ρ PB) : TV K M c (tNot tt) ρ (fun b => PB (!b)) := fun n σ W H i s l e Q q => h n σ W H i s l e _ fun b' W' H' g p => q _ W' H' g (by show PB (!(!b')); rw [Bool.not_not]; exact p)
theorem t_and (h : T K M tt ρ b1) (h2 : b1 = true → T K M tu ρ b2) : T K M (tAnd tt tu) ρ (b1 && b2) := fun n σ W H i s l e Q q =>
  h n σ W H i s l e _ fun b' W' H' g p => by
    cases p
    cases b1 with
    | true => exact h2 rfl n σ W' H' g.i g.s l (e.up g.w) Q fun b'' W2 H2 g2 p2 => q _ W2 H2 (g.trans g2) p2
    | false => exact q _ W' H' g rfl
theorem t_or (h : T K M tt ρ b1) (h2 : b1 = false → T K M tu ρ b2) : T K M (tOr tt tu) ρ (b1 || b2) := fun n σ W H i s l e Q q =>
  h n σ W H i s l e _ fun b' W' H' g p => by
    cases p
    cases b1 with
    | false => exact h2 rfl n σ W' H' g.i g.s l (e.up g.w) Q fun b'' W2 H2 g2 p2 => q _ W2 H2 (g.trans g2) p2
    | true => exact q _ W' H' g rfl
theorem tv_or {PB : Bool → Prop} (h : TV K M c1 tt ρ (fun b => b = true → PB true)) (h2 : TV K M c2 tu ρ PB) : TV K M (c1 + c2) (tOr tt tu) ρ PB := fun n σ W H i s l e Q q =>
  h n σ W H i s (by omega) e _ fun b' W' H' g p => by
    cases b' with
    | false => exact h2 (n + c1) σ W' H' g.i g.s (by omega) (e.up g.w) Q fun b'' W2 H2 g2 p2 => q _ W2 H2 (g.trans g2) p2
    | true => exact q _ W' H' (g.mono (by omega)) (p rfl)
theorem T.eq {b' : Bool} (h : T K M tt ρ b) (e : b = b') : T K M tt ρ b' := e ▸ h
theorem E.eq {d' : PyData} (h : E K M te ρ d) (e : d = d') : E K M te ρ d' := e ▸ h
theorem e_andV (h : E K M ta ρ (.bool b1)) (h2 : b1 = true → E K M tb ρ (.bool b2)) : E K M (tAndV ta tb) ρ (.bool (b1 && b2)) := fun n σ W H i s l e Q q =>
  h n σ W H i s l e _ fun v d W' H' g p iv => by
    cases p
    cases iv
    refine ⟨b1, rfl, ?_⟩
    cases b1 with
    | true => exact h2 rfl n σ W' H' g.i g.s l (e.up g.w) Q fun v d W2 H2 g2 p2 i2 => q v d W2 H2 (g.trans g2) p2 i2
    | false => exact q _ _ W' H' g rfl (.bl false)
theorem e_notV (h : E K M ta ρ (.bool b)) : E K M (tNotV ta) ρ (.bool (!b)) := fun n σ W H i s l e Q q =>
  h n σ W H i s l e _ fun v d W' H' g p iv => by
    cases p
    cases iv
    exact ⟨b, rfl, q _ _ W' H' g rfl (.bl _)⟩
theorem e_if (h : T K M tt ρ b) (h1 : b = true → E K M ta ρ d) (h2 : b = false → E K M tb ρ d) : E K M (tIf tt ta tb) ρ d := fun n σ W H i s l e Q q =>
  h n σ W H i s l e _ fun b' W' H' g p => by
    cases p
    cases b with
    | true => exact h1 rfl n σ W' H' g.i g.s l (e.up g.w) Q fun v d W2 H2 g2 p2 i2 => q v d W2 H2 (g.trans g2) p2 i2
    | false => exact h2 rfl n σ W' H' g.i g.s l (e.up g.w) Q fun v d W2 H2 g2 p2 i2 => q v d W2 H2 (g.trans g2) p2 i2
theorem ev_if {PB : Bool → Prop} (h : TV K M c1 tt ρ PB) (h1 : PB true → EV K M c2 ta ρ P) (h2 : PB false → EV K M c2 tb ρ P) : EV K M (c1 + c2) (tIf tt ta tb) ρ P := fun n σ W H i s l e Q q =>
  h n σ W H i s (by omega) e _ fun b' W' H' g p => by
    cases b' with
    | true => exact h1 p (n + c1) σ W' H' g.i g.s (by omega) (e.up g.w) Q fun v d W2 H2 g2 p2 i2 => q v d W2 H2 (g.trans g2) p2 i2
    | false => exact h2 p (n + c1) σ W' H' g.i g.s (by omega) (e.up g.w) Q fun v d W2 H2 g2 p2 i2 => q v d W2 H2 (g.trans g2) p2 i2
/-- a <= b <= c, b asked once -/
theorem e_chain (ha : E K M ta ρ x) (hb : E K M tb ρ y) (hc : E K M tc ρ z) (h1 : RD K M r x y (· = .bool b1)) (h2 : b1 = true → RD K M r' y z (· = .bool b2)) : E K M (tChain r r' ta tb tc) ρ (.bool (b1 && b2)) := fun n σ W H i s l e Q q =>
  ha n σ W H i s l e _ fun v dx W1 H1 g1 p1 iv => hb n σ W1 H1 g1.i g1.s l (e.up g1.w) _ fun w dy W2 H2 g2 p2 iw => by
    cases p1
    cases p2
    refine h1 W2 H2 v w g2.i (iv.up g2.w) iw _ fun u d W3 H3 g3 p3 iu => ?_
    cases p3
    cases iu
    refine ⟨b1, rfl, ?_⟩
    have g123 := (g1.trans g2).trans (Go.up g3 (g1.trans g2).s)
    cases b1 with
    | true =>
      refine hc n σ W3 H3 g3.i g123.s l (e.up g123.w) _ fun w2 dz W4 H4 g4 p4 iw2 => ?_
      cases p4
      exact h2 rfl W4 H4 w w2 g4.i (iw.up (g3.w.trans g4.w)) iw2 Q fun u d W5 H5 g5 p5 iu => q u d W5 H5 ((g123.trans g4).trans (Go.up g5 (g123.trans g4).s)) p5 iu
    | false => exact q _ _ W3 H3 g123 rfl (.bl false)
end
end Kt
set_option Elab.async false
set_option linter.all false
set_option maxRecDepth 100000
set_option maxHeartbeats 4000000
namespace Kt
open PySem PySem.Spec PyProof.Rows L2
section
variable {K : PySem.W.Frag} {M : Mode} {c c1 c2 c3 : Nat} {te ta tb tc tl th : TE} {tt tu : TT} {ts : TA} {ρ : En} {d x y z : PyData} {ds es : List PyData} {P P1 P2 : PyData → Prop} {r r' : R2} {b b1 b2 : Bool} {i j k : Int}
/-! ### operators by data -/
theorem rd_I0 {g : Int → Int → V} (h : ∀ W, Is K M.mm W (g i j) z) : RD K M (rI0 g) (.int i) (.int j) (· = z) := fun W H v w e iv iw Q q => by
  cases iv; cases iw
  exact ⟨i, j, rfl, rfl, q _ _ W H (Up.refl e) rfl (h W)⟩
theorem rd_I {C : Int → Int → Prop} {g : Int → Int → V} (hc : C i j) (h : ∀ W, Is K M.mm W (g i j) z) : RD K M (rI C g) (.int i) (.int j) (· = z) := fun W H v w e iv iw Q q => by
  cases iv; cases iw
  exact ⟨i, j, rfl, rfl, hc, q _ _ W H (Up.refl e) rfl (h W)⟩
theorem rd_add : RD K M (rI0 fun i j => .int (i + j)) (.int i) (.int j) (· = .int (i + j)) := rd_I0 fun _ => .int _
theorem rd_sub : RD K M (rI0 fun i j => .int (i - j)) (.int i) (.int j) (· = .int (i - j)) := rd_I0 fun _ => .int _
theorem rd_mul (h : CMul i j) : RD K M (rI CMul fun i j => .int (i * j)) (.int i) (.int j) (· = .int (i * j)) := rd_I h fun _ => .int _
theorem rd_div (h : CDivN i j) : RD K M (rI CDivN fun i j => .int (i.fdiv j)) (.int i) (.int j) (· = .int (i.fdiv j)) := rd_I h fun _ => .int _
theorem rd_mod (h : j ≠ 0) : RD K M (rI (fun _ j => j ≠ 0) fun i j => .int (i.fmod j)) (.int i) (.int j) (· = .int (i.fmod j)) := rd_I h fun _ => .int _
theorem rd_pow (h : CPow i j) : RD K M (rI CPow fun i j => .int (i ^ j.toNat)) (.int i) (.int j) (· = .int (i ^ j.toNat)) := rd_I h fun _ => .int _
theorem rd_shr (h : 0 ≤ j) : RD K M (rI (fun _ j => 0 ≤ j) fun i j => .int (i / 2 ^ j.toNat)) (.int i) (.int j) (· = .int (i / 2 ^ j.toNat)) := rd_I h fun _ => .int _
theorem rd_and : RD K M (rI0 fun i j => .int (Builtin.bitAnd i j)) (.int i) (.int j) (· = .int (Builtin.bitAnd i j)) := rd_I0 fun _ => .int _
theorem rd_lt : RD K M (rI0 fun i j => .bl (decide (i < j))) (.int i) (.int j) (· = .bool (decide (i < j))) := rd_I0 fun _ => .bl _
theorem rd_le : RD K M (rI0 fun i j => .bl (decide (i ≤ j))) (.int i) (.int j) (· = .bool (decide (i ≤ j))) := rd_I0 fun _ => .bl _
theorem rd_gt : RD K M (rI0 fun i j => .bl (decide (j < i))) (.int i) (.int j) (· = .bool (decide (j < i))) := rd_I0 fun _ => .bl _
theorem rd_ge : RD K M (rI0 fun i j => .bl (decide (j ≤ i))) (.int i) (.int j) (· = .bool (decide (j ≤ i))) := rd_I0 fun _ => .bl _
theorem decV_int {i j : Int} : decide (V.int i = V.int j) = decide (i = j) := by
  by_cases h : i = j
  · subst h; simp
  · rw [decide_eq_false h, decide_eq_false (fun e => h (V.int.inj e))]
theorem rd_eq : RD K M rEq (.int i) (.int j) (· = .bool (decide (i = j))) := fun W H v w e iv iw Q q => by
  cases iv; cases iw
  exact ⟨rfl, q _ _ W H (Up.refl e) rfl (by rw [decV_int]; exact .bl _)⟩
theorem rd_ne : RD K M rNe (.int i) (.int j) (· = .bool (!decide (i = j))) := fun W H v w e iv iw Q q => by
  cases iv; cases iw
  exact ⟨rfl, q _ _ W H (Up.refl e) rfl (by rw [decV_int]; exact .bl _)⟩
theorem rd_eqS {s t : Str} : RD K M rEq (.str s) (.str t) (· = .bool (decide (s = t))) := fun W H v w e iv iw Q q => by
  cases iv; cases iw
  have z : decide (V.str s = V.str t) = decide (s = t) := by
    by_cases h : s = t
    · subst h; simp
    · rw [decide_eq_false h, decide_eq_false (fun e => h (V.str.inj e))]
  exact ⟨rfl, q _ _ W H (Up.refl e) rfl (by rw [z]; exact .bl _)⟩
def isNon : PyData → Bool
  | .none => true
  | _ => false
theorem is_non {W : Hp} {mm : Option Addr} {v : V} (h : Is K mm W v d) : decide (v = .non) = isNon d := by
  cases h <;> rfl
def rIsN : R2 := fun x y H Q => y = .non ∧ Q (.bl (decide (x = .non))) H
def rNotN : R2 := fun x y H Q => y = .non ∧ Q (.bl (!decide (x = .non))) H
theorem op_isNone {X : Cx} : OpR X (compareOp .Is) rIsN := op_isN
theorem op_notNone {X : Cx} : OpR X (compareOp .IsNot) rNotN := op_notN
theorem rd_isN : RD K M rIsN x .none (· = .bool (isNon x)) := fun W H v w e iv iw Q q => by
  cases iw
  exact ⟨rfl, q _ _ W H (Up.refl e) rfl (by rw [is_non iv]; exact .bl _)⟩
theorem rd_notN : RD K M rNotN x .none (· = .bool (!isNon x)) := fun W H v w e iv iw Q q => by
  cases iw
  exact ⟨rfl, q _ _ W H (Up.refl e) rfl (by rw [is_non iv]; exact .bl _)⟩
theorem IsAll.atI {W : Hp} {mm : Option Addr} {vs : List V} (h : IsAll K mm W vs ds) (e : L2.atI ds i = some d) : ∃ v, L2.atI vs i = some v ∧ Is K mm W v d := by
  unfold L2.atI at e ⊢
  rw [h.length]
  cases q : ixN ds.length i with
  | none => rw [q] at e; cases e
  | some j =>
    rw [q] at e
    obtain ⟨v, h1, h2⟩ := h.at (show ds[j]? = some d from e)
    exact ⟨v, h1, h2⟩
theorem rd_ixT (h : L2.atI ds i = some d) : RD K M (rIxT K) (.tuple ds) (.int i) (· = d) := fun W H v w e iv iw Q q => by
  cases iw
  cases iv with
  | tup hs r =>
    obtain ⟨u, h1, h2⟩ := r.atI h
    exact ⟨_, _, i, u, rfl, rfl, sqT_same e hs, h1, q _ _ W H (Up.refl e) rfl h2⟩
theorem rd_ixL (h : L2.atI ds i = some d) : RD K M (rIxL K) (.list ds) (.int i) (· = d) := fun W H v w e iv iw Q q => by
  cases iw
  cases iv with
  | lst hs r =>
    obtain ⟨u, h1, h2⟩ := r.atI h
    exact ⟨_, _, i, u, rfl, rfl, .inl (.inl (e _ _ hs)), h1, q _ _ W H (Up.refl e) rfl h2⟩
theorem at_nat {n : Nat} (h : ds[n]? = some d) : L2.atI ds (n : Int) = some d := atI_nat h
theorem at_int (h0 : 0 ≤ i) (h : ds[i.toNat]? = some d) : L2.atI ds i = some d := by
  have e : ((i.toNat : Nat) : Int) = i := by omega
  rw [← e]
  exact atI_nat h
theorem rd_catT (h : ds.length + es.length ≤ 16000000) : RD K M (rCatA K) (.tuple ds) (.tuple es) (· = .tuple (ds ++ es)) := fun W H v w e iv iw Q q => by
  cases iv with
  | @tup a xs _ hs r =>
    cases iw with
    | @tup b ys _ ht s =>
      refine ⟨_, _, _, _, rfl, rfl, sqT_same e hs, sqT_same e ht, by rw [r.length, s.length]; exact sl_of h, fun hx => ?_, fun hx hy => ?_, fun hx hy p hp => ?_⟩
      · subst hx
        cases r
        exact q _ _ W H (Up.refl e) rfl (.tup ht s)
      · subst hy
        cases s
        rw [List.append_nil] at q
        exact q _ _ W H (Up.refl e) rfl (.tup hs r)
      · have u := Up.new (o := .tup (xs ++ ys)) e hp
        exact q _ _ _ _ u rfl (.tup (.inl (.inl upd_same)) ((r.up u.w).app (s.up u.w)))
theorem rd_cat (h : ds.length + es.length ≤ 16000000) : RD K M rCat (.list ds) (.list es) (· = .list (ds ++ es)) := fun W H v w e iv iw Q q => by
  cases iv with
  | @lst a xs _ hs r =>
    cases iw with
    | @lst b ys _ ht s =>
      refine ⟨_, _, _, _, rfl, rfl, e _ _ hs, e _ _ ht, by rw [r.length, s.length]; exact sl_of h, fun p hp => ?_⟩
      have u := Up.new (o := .lst (xs ++ ys)) e hp
      exact q _ _ _ _ u rfl (.lst upd_same ((r.up u.w).app (s.up u.w)))
theorem rd_rep1 {n : Nat} (h : n ≤ 1000) : RD K M rRep (.list [x]) (.int (n : Int)) (· = .list (List.replicate n x)) := fun W H v w e iv iw Q q => by
  cases iw
  cases iv with
  | @lst a xs _ hs r =>
    cases r with
    | @cons v0 _ _ _ r1 r2 =>
      cases r2
      refine ⟨_, _, _, rfl, rfl, e _ _ hs, by omega, by omega, ?_, fun p hp => ?_⟩
      · show 1 * (n : Int).toNat ≤ sizeLine
        rw [Int.toNat_natCast]
        exact sl_of (by omega)
      · have key : ∀ k : Nat, IsAll K M.mm W (List.replicate k [v0]).flatten (List.replicate k x) := fun k => by
          induction k with
          | zero => exact .nil
          | succ k ih => rw [List.replicate_succ, List.replicate_succ, List.flatten_cons]; exact .cons r1 ih
        have u := Up.new (o := .lst (List.replicate (n : Int).toNat [v0]).flatten) e hp
        refine q _ _ _ _ u rfl (.lst upd_same ?_)
        rw [Int.toNat_natCast]
        exact (key n).up u.w
/-! ### slices -/
def cutD (xs : List PyData) (lo hi : Option Int) : List PyData := (xs.drop (HT.sIx xs.length 0 lo)).take (HT.sIx xs.length xs.length hi - HT.sIx xs.length 0 lo)
theorem IsAll.cut {W : Hp} {mm : Option Addr} {vs : List V} (h : IsAll K mm W vs ds) (lo hi : Option Int) : IsAll K mm W (cutV vs lo hi) (cutD ds lo hi) := by
  unfold cutV cutD
  rw [h.length]
  exact (h.drop _).take _
theorem cutD_whole {lo hi : Option Int} (h1 : HT.sIx ds.length 0 lo = 0) (h2 : HT.sIx ds.length ds.length hi = ds.length) : cutD ds lo hi = ds := by
  unfold cutD
  rw [h1, h2, List.drop_zero, Nat.sub_zero, List.take_length]
theorem o_none : OV K M tNoPart ρ none := fun n σ W H i s l e Q q => q W H (Go.refl i s)
theorem o_some (h : E K M te ρ (.int k)) : OV K M (tPart te) ρ (some k) := fun n σ W H i s l e Q q => h n σ W H i s l e _ fun v d W' H' g p iv => by
  cases p; cases iv
  exact ⟨k, rfl, q W' H' g⟩
theorem e_slT {to1 to2 : TO} {lo hi : Option Int} (ha : E K M ta ρ (.tuple ds)) (h1 : OV K M to1 ρ lo) (h2 : OV K M to2 ρ hi) : E K M (tSl (rSlA K) ta to1 to2) ρ (.tuple (cutD ds lo hi)) := fun n σ W H i s l e Q q =>
  ha n σ W H i s l e _ fun v d W1 H1 g1 p1 iv => h1 n σ W1 H1 g1.i g1.s l (e.up g1.w) _ fun W2 H2 g2 => h2 n σ W2 H2 g2.i (g1.trans g2).s l (e.up (g1.trans g2).w) _ fun W3 H3 g3 => by
    have g := (g1.trans g2).trans g3
    cases p1
    have iv3 := iv.up (g2.trans g3).w
    cases iv3 with
    | @tup a xs _ hs r =>
      refine ⟨a, xs, rfl, sqT_same g.i hs, fun hw => ?_, fun hw p hp => ?_⟩
      · rw [r.length] at hw
        exact q _ _ W3 H3 g rfl (by rw [cutD_whole hw.1 hw.2]; exact .tup hs r)
      · have u := Up.new (o := .tup (cutV xs lo hi)) g.i hp
        exact q _ _ _ _ (g.trans (Go.up u g.s)) rfl (.tup (.inl (.inl upd_same)) ((r.up u.w).cut lo hi))
theorem e_slL {to1 to2 : TO} {lo hi : Option Int} (ha : E K M ta ρ (.list ds)) (h1 : OV K M to1 ρ lo) (h2 : OV K M to2 ρ hi) : E K M (tSl (rSlL K) ta to1 to2) ρ (.list (cutD ds lo hi)) := fun n σ W H i s l e Q q =>
  ha n σ W H i s l e _ fun v d W1 H1 g1 p1 iv => h1 n σ W1 H1 g1.i g1.s l (e.up g1.w) _ fun W2 H2 g2 => h2 n σ W2 H2 g2.i (g1.trans g2).s l (e.up (g1.trans g2).w) _ fun W3 H3 g3 => by
    have g := (g1.trans g2).trans g3
    cases p1
    have iv3 := iv.up (g2.trans g3).w
    cases iv3 with
    | @lst a xs _ hs r =>
      refine ⟨a, xs, rfl, .inl (.inl (g.i _ _ hs)), fun p hp => ?_⟩
      have u := Up.new (o := .lst (cutV xs lo hi)) g.i hp
      exact q _ _ _ _ (g.trans (Go.up u g.s)) rfl (.lst upd_same ((r.up u.w).cut lo hi))
theorem cutD_to {n : Nat} : cutD ds none (some (n : Int)) = ds.take n := by
  unfold cutD
  rw [HT.sIx_none, HT.sIx_nat, List.drop_zero, Nat.sub_zero]
  by_cases h : n ≤ ds.length
  · rw [Nat.min_eq_left h]
  · rw [Nat.min_eq_right (by omega), List.take_length, List.take_of_length_le (by omega)]
theorem cutD_from {n : Nat} : cutD ds (some (n : Int)) none = ds.drop n := by
  unfold cutD
  rw [HT.sIx_none, HT.sIx_nat]
  by_cases h : n ≤ ds.length
  · rw [Nat.min_eq_left h, List.take_of_length_le (by rw [List.length_drop]; exact Nat.le_refl _)]
  · rw [Nat.min_eq_right (by omega), List.drop_of_length_le (Nat.le_refl _), List.drop_of_length_le (by omega), List.take_nil]
theorem cutD_mid {n m : Nat} : cutD ds (some (n : Int)) (some (m : Int)) = (ds.drop n).take (m - n) := by
  unfold cutD
  rw [HT.sIx_nat, HT.sIx_nat]
  by_cases h : n ≤ ds.length
  · rw [Nat.min_eq_left h]
    by_cases h2 : m ≤ ds.length
    · rw [Nat.min_eq_left h2]
    · rw [Nat.min_eq_right (by omega), List.take_of_length_le (by rw [List.length_drop]; exact Nat.le_refl _), List.take_of_length_le (by rw [List.length_drop]; omega)]
  · rw [Nat.min_eq_right (show ds.length ≤ n by omega), List.drop_of_length_le (Nat.le_refl _), List.drop_of_length_le (by omega), List.take_nil, List.take_nil]
/-! ### built-ins by data -/
def rLenQ (K : PySem.W.Frag) : List V → Hp → VK → Prop := fun xs H Q => ∃ p ys, xs = [.ref p] ∧ (SqL K H p ys ∨ SqT K H p ys) ∧ Q (.int ys.length) H
theorem call_lenQ {X : Cx} : CallR X (.builtin "len") (rLenQ X.K) := call_len_seq
theorem cd_lenT : CD K M (rLenQ K) [.tuple ds] (· = .int ds.length) := fun W H vs e h Q q => by
  cases h with
  | cons h r =>
    cases r
    cases h with
    | @tup a xs _ hs r => exact ⟨a, xs, rfl, .inr (sqT_same e hs), q _ _ W H (Up.refl e) rfl (by rw [r.length]; exact .int _)⟩
theorem cd_lenL : CD K M (rLenQ K) [.list ds] (· = .int ds.length) := fun W H vs e h Q q => by
  cases h with
  | cons h r =>
    cases r
    cases h with
    | @lst a xs _ hs r => exact ⟨a, xs, rfl, .inl (.inl (.inl (e _ _ hs))), q _ _ W H (Up.refl e) rfl (by rw [r.length]; exact .int _)⟩
def rMaxQ : List V → Hp → VK → Prop := fun xs H Q => ∃ i j, xs = [.int i, .int j] ∧ Q (.int (if j > i then j else i)) H
def rMinQ : List V → Hp → VK → Prop := fun xs H Q => ∃ i j, xs = [.int i, .int j] ∧ Q (.int (if j < i then j else i)) H
theorem call_maxQ {X : Cx} (hc : X.calm = true) : CallR X (.builtin "max") rMaxQ := call_max2 hc
theorem call_minQ {X : Cx} (hc : X.calm = true) : CallR X (.builtin "min") rMinQ := call_min2 hc
theorem cd_max : CD K M rMaxQ [.int i, .int j] (· = .int (if j > i then j else i)) := fun W H vs e h Q q => by
  cases h with
  | cons h r =>
    cases r with
    | cons h2 r =>
      cases r; cases h; cases h2
      exact ⟨i, j, rfl, q _ _ W H (Up.refl e) rfl (.int _)⟩
theorem cd_min : CD K M rMinQ [.int i, .int j] (· = .int (if j < i then j else i)) := fun W H vs e h Q q => by
  cases h with
  | cons h r =>
    cases r with
    | cons h2 r =>
      cases r; cases h; cases h2
      exact ⟨i, j, rfl, q _ _ W H (Up.refl e) rfl (.int _)⟩
def rIntQ : List V → Hp → VK → Prop := fun xs H Q => (∃ i, xs = [.int i] ∧ Q (.int i) H) ∨ ∃ k, xs = [.bl k] ∧ Q (.int (if k then 1 else 0)) H
theorem call_intQ {X : Cx} : CallR X (.type "int") rIntQ := call_int1
theorem cd_int : CD K M rIntQ [.int i] (· = .int i) := fun W H vs e h Q q => by
  cases h with
  | cons h r =>
    cases r; cases h
    exact .inl ⟨i, rfl, q _ _ W H (Up.refl e) rfl (.int _)⟩
def rListQ (K : PySem.W.Frag) : List V → Hp → VK → Prop := fun xs H Q => ∃ p ys, xs = [.ref p] ∧ (SqL K H p ys ∨ SqT K H p ys) ∧ ∀ l, H l = none → Q (.ref l) (upd H l (.lst ys))
def rTupQ (K : PySem.W.Frag) : List V → Hp → VK → Prop := fun xs H Q => ∃ p ys, xs = [.ref p] ∧ ((SqL K H p ys ∧ ∀ l, H l = none → Q (.ref l) (upd H l (.tup ys))) ∨ (SqT K H p ys ∧ Q (.ref p) H))
theorem call_listQ {X : Cx} : CallR X (.type "list") (rListQ X.K) := call_list_of
theorem call_tupQ {X : Cx} : CallR X (.type "tuple") (rTupQ X.K) := call_tuple_of
theorem cd_list : CD K M (rListQ K) [.tuple ds] (· = .list ds) := fun W H vs e h Q q => by
  cases h with
  | cons h r =>
    cases r
    cases h with
    | @tup a xs _ hs r => exact ⟨a, xs, rfl, .inr (sqT_same e hs), fun p hp => by
        have u := Up.new (o := .lst xs) e hp
        exact q _ _ _ _ u rfl (.lst upd_same (r.up u.w))⟩
theorem cd_tup : CD K M (rTupQ K) [.list ds] (· = .tuple ds) := fun W H vs e h Q q => by
  cases h with
  | cons h r =>
    cases r
    cases h with
    | @lst a xs _ hs r => exact ⟨a, xs, rfl, .inl ⟨.inl (.inl (e _ _ hs)), fun p hp => by
        have u := Up.new (o := .tup xs) e hp
        exact q _ _ _ _ u rfl (.tup (.inl (.inl upd_same)) (r.up u.w))⟩⟩
theorem cd_sumL {ns : List Int} : CD K M (rSum K) [.list (ns.map PyData.int)] (· = .int ns.sum) := fun W H vs e h Q q => by
  cases h with
  | cons h r =>
    cases r
    cases h with
    | @lst a xs _ hs r => exact ⟨a, ns, rfl, .inl (.inl (by rw [← r.ints]; exact e _ _ hs)), q _ _ W H (Up.refl e) rfl (.int _)⟩
theorem cd_sumT {ns : List Int} : CD K M (rSumT K) [.tuple (ns.map PyData.int)] (· = .int ns.sum) := fun W H vs e h Q q => by
  cases h with
  | cons h r =>
    cases r
    cases h with
    | @tup a xs _ hs r => exact ⟨a, ns, rfl, by rw [← r.ints]; exact sqT_same e hs, q _ _ W H (Up.refl e) rfl (.int _)⟩
/-! ### isinstance(x, int | bool | tuple) -/
def tyOf : PyData → String
  | .none => "NoneType"
  | .bool _ => "bool"
  | .int _ => "int"
  | .str _ => "str"
  | .list _ => "list"
  | .tuple _ => "tuple"
  | .dict _ => "dict"
theorem tyX_of {W H : Hp} {v : V} (e : Same W H) (h : Is K M.mm W v d) (hd : d ≠ markD) : TyX K H v (.type (tyOf d)) := by
  cases h with
  | non => exact .base .non
  | bl b => exact .base (.bl b)
  | int i => exact .base (.int i)
  | str x => exact .base (.str x)
  | lst h r => exact .base (.lst (e _ _ h))
  | tup h r =>
    rcases sqT_same e h with (h | ⟨o, h⟩) | ⟨o, its, n, h1, h2, _⟩
    · exact .base (.tup h)
    · exact .fTuple h
    · exact .kTuple h1 h2
  | dct h => exact .base (.dK (e _ _ h))
  | em h => exact absurd rfl hd
def isTy (n : String) (d : PyData) : Bool := (kitB (tyOf d) n).getD false
theorem e_isi {n : String} (ha : E K M te ρ d) (hd : d ≠ markD) (hk : kitB (tyOf d) n = some b) : E K M (tCB (rIsi K) (tCons te (tCons (tC (.ty n)) tNil))) ρ (.bool b) := fun m σ W H i s l e Q q =>
  ha m σ W H i s l e _ fun v d' W1 H1 g1 p1 iv => by
    cases p1
    exact ⟨v, .ty n, .type (tyOf d), .type n, b, rfl, .ty n, tyX_of g1.i iv hd, kit_ty hk, q _ _ W1 H1 g1 rfl (.bl b)⟩
end
end Kt
set_option Elab.async false
set_option linter.all false
set_option maxRecDepth 100000
set_option maxHeartbeats 4000000
namespace Kt
open PySem PySem.Spec PyProof.Rows L2
/-! ### statements -/
inductive Out where
  | nx (ρ : En)
  | rt (d : PyData)
  | bk (ρ : En)
  | ct (ρ : En)
  | ex (d : PyData)
/-- what is wanted where an error is raised, its number d -/
abbrev XW := PyData → Hp → Hp → Prop
def Fin (K : PySem.W.Frag) (M : Mode) (X : XW) (D : Ends) (W H : Hp) : Out → Prop
  | .nx ρ => ∀ σ, EnvOk K M.mm W σ ρ → D.nx σ H
  | .rt d => ∀ v, Is K M.mm W v d → D.rt v H
  | .bk ρ => ∀ σ, EnvOk K M.mm W σ ρ → D.bk σ H
  | .ct ρ => ∀ σ, EnvOk K M.mm W σ ρ → D.ct σ H
  | .ex d => X d W H
def SV (K : PySem.W.Frag) (M : Mode) (c : Nat) (ts : TS) (ρ : En) (O : Out → Prop) : Prop := ∀ (X : XW) (n : Nat) (σ : L2.St) (W H : Hp), Same W H → M.S n W H → n + c ≤ lim → EnvOk K M.mm W σ ρ →
  ∀ D : Ends, (∀ o W' H', Go M c n W H W' H' → O o → Fin K M X D W' H' o) → (∀ d, ¬ O (.ex d)) → ts D σ H
/-- a target's store -/
def GV (K : PySem.W.Frag) (M : Mode) (g : TG) (ρ : En) (d : PyData) (ρ' : En) : Prop := ∀ (σ : L2.St) (W H : Hp) (v : V), Same W H → EnvOk K M.mm W σ ρ → Is K M.mm W v d → ∀ Q : L2.St → Hp → Prop, (∀ σ', EnvOk K M.mm W σ' ρ' → Q σ' H) → g v σ H Q
def GVs (K : PySem.W.Frag) (M : Mode) (g : TGs) (ρ : En) (ds : List PyData) (ρ' : En) : Prop := ∀ (σ : L2.St) (W H : Hp) (vs : List V), Same W H → EnvOk K M.mm W σ ρ → IsAll K M.mm W vs ds → ∀ Q : L2.St → Hp → Prop, (∀ σ', EnvOk K M.mm W σ' ρ' → Q σ' H) → g vs σ H Q
section
variable {K : PySem.W.Frag} {M : Mode} {c c1 c2 c3 : Nat} {te ta tb : TE} {tt : TT} {t u tw : TS} {ρ ρ1 ρ2 ρ' : En} {d x y z : PyData} {ds es : List PyData} {P : PyData → Prop} {O O1 : Out → Prop} {b : Bool} {g : TG} {gs : TGs}
theorem SV.mono {O' : Out → Prop} {c' : Nat} (h : SV K M c t ρ O) (hc : c ≤ c') (ho : ∀ o, O o → O' o) : SV K M c' t ρ O' := fun X n σ W H i s l e D q nx =>
  h X n σ W H i s (by omega) e D (fun o W' H' g p => q o W' H' (g.mono hc) (ho o p)) fun d z => nx d (ho _ z)
theorem gv_name {k : Nat} : GV K M (gName k) ρ d (ρ.set k (some d)) := fun σ W H v _ e iv Q q => q _ (e.set iv)
theorem gvs_nil : GVs K M gNil ρ [] ρ := fun σ W H vs _ e ivs Q q => by
  cases ivs
  exact ⟨rfl, q σ e⟩
theorem gvs_cons (h : GV K M g ρ d ρ1) (r : GVs K M gs ρ1 ds ρ2) : GVs K M (gCons g gs) ρ (d :: ds) ρ2 := fun σ W H vs i e ivs Q q => by
  cases ivs with
  | cons h1 h2 => exact ⟨_, _, rfl, h σ W H _ i e h1 _ fun σ' e' => r σ' W H _ i e' h2 _ q⟩
theorem gv_tup {n : Nat} (h : GVs K M gs ρ ds ρ') (hn : ds.length = n) : GV K M (gTup K n gs) ρ (.tuple ds) ρ' := fun σ W H v i e iv Q q => by
  cases iv with
  | tup hs r => exact ⟨_, _, rfl, sqT_same i hs, r.length.trans hn, h σ W H _ i e r Q q⟩
theorem s_next (h : O (.nx ρ)) : SV K M 0 tNext ρ O := fun X n σ W H i s l e D q _ => q _ W H (Go.refl i s) h σ e
theorem s_asg (h : EV K M c te ρ P) (hg : ∀ d, P d → ∃ ρ', GV K M g ρ d ρ' ∧ O (.nx ρ')) : SV K M c (tAsg te g) ρ O := fun X n σ W H i s l e D q _ =>
  h n σ W H i s l e _ fun v d W' H' go p iv => by
    obtain ⟨ρ', h1, h2⟩ := hg d p
    exact h1 σ W' H' v go.i (e.up go.w) iv _ fun σ' e' => q _ W' H' go h2 σ' e'
theorem s_seq (h1 : SV K M c1 t ρ O1) (h2 : ∀ ρ1, O1 (.nx ρ1) → SV K M c2 u ρ1 O) (h3 : ∀ o, O1 o → (∀ ρ1, o ≠ .nx ρ1) → O o) : SV K M (c1 + c2) (tSeq t u) ρ O := fun X n σ W H i s l e D q nx =>
  h1 X n σ W H i s (by omega) e { D with nx := u D } (fun o W' H' go p => by
    cases o with
    | nx ρ1 => exact fun σ' e' => h2 ρ1 p X (n + c1) σ' W' H' go.i go.s (by omega) e' D (fun o W2 H2 g2 p2 => q o W2 H2 (go.trans g2) p2) nx
    | rt d => exact q _ W' H' (go.mono (by omega)) (h3 _ p (fun _ z => nomatch z))
    | bk ρ1 => exact q _ W' H' (go.mono (by omega)) (h3 _ p (fun _ z => nomatch z))
    | ct ρ1 => exact q _ W' H' (go.mono (by omega)) (h3 _ p (fun _ z => nomatch z))
    | ex d => exact q _ W' H' (go.mono (by omega)) (h3 _ p (fun _ z => nomatch z))) fun d z => nx d (h3 _ z (fun _ z => nomatch z))
/-- one store, then the rest -/
theorem s_set {k : Nat} (h : E K M te ρ d) (r : SV K M c u (ρ.set k (some d)) O) : SV K M c (tSeq (tAsg te (gName k)) u) ρ O :=
  (s_seq (O1 := (· = .nx (ρ.set k (some d)))) (s_asg h fun d' hd => ⟨_, gv_name, by rw [hd]⟩) (fun ρ1 z => by cases z; exact r) fun o z n => absurd z (n _)).mono (by omega) fun _ p => p
theorem s_setP {k : Nat} (h : EV K M c1 te ρ P) (r : ∀ d, P d → SV K M c2 u (ρ.set k (some d)) O) : SV K M (c1 + c2) (tSeq (tAsg te (gName k)) u) ρ O :=
  s_seq (O1 := fun o => ∃ d, P d ∧ o = .nx (ρ.set k (some d))) (s_asg h fun d' hd => ⟨_, gv_name, d', hd, rfl⟩) (fun ρ1 ⟨d, hd, z⟩ => by cases z; exact r d hd) fun o ⟨d, _, z⟩ n => absurd z (n _)
theorem s_setG (h : E K M te ρ d) (hg : GV K M g ρ d ρ') (r : SV K M c u ρ' O) : SV K M c (tSeq (tAsg te g) u) ρ O :=
  (s_seq (O1 := (· = .nx ρ')) (s_asg h fun d' hd => ⟨ρ', by rw [hd]; exact hg, rfl⟩) (fun ρ1 z => by cases z; exact r) fun o z n => absurd z (n _)).mono (by omega) fun _ p => p
theorem s_set1 {k : Nat} (h : E K M te ρ d) (r : O (.nx (ρ.set k (some d)))) : SV K M 0 (tAsg te (gName k)) ρ O := s_asg h fun d' hd => ⟨_, gv_name, by rw [hd]; exact r⟩
theorem s_setG1 (h : E K M te ρ d) (hg : GV K M g ρ d ρ') (r : O (.nx ρ')) : SV K M 0 (tAsg te g) ρ O := s_asg h fun d' hd => ⟨_, by rw [hd]; exact hg, r⟩
/-- a, b = x, y -/
theorem s_par {k j : Nat} {tx : TA} {PA : List PyData → Prop} (h : AV K M c1 tx ρ PA) (r : ∀ l, PA l → ∃ x y, l = [x, y] ∧ SV K M c2 u ((ρ.set k (some x)).set j (some y)) O) : SV K M (c1 + c2) (tSeq (tPar k j tx) u) ρ O := fun X n σ W H i s l e D q nx =>
  h n σ W H i s (by omega) e _ fun vs ds W' H' go p ivs => by
    obtain ⟨x, y, rfl, r⟩ := r ds p
    cases ivs with
    | cons h1 h2 =>
      cases h2 with
      | cons h2 h3 =>
        cases h3
        exact ⟨_, _, rfl, r X (n + c1) _ W' H' go.i go.s (by omega) (((e.up go.w).set h1).set h2) D (fun o W2 H2 g2 p2 => q o W2 H2 (go.trans g2) p2) nx⟩
theorem s_par3 {k j m : Nat} {tx : TA} {PA : List PyData → Prop} (h : AV K M c1 tx ρ PA) (r : ∀ l, PA l → ∃ x y z, l = [x, y, z] ∧ SV K M c2 u (((ρ.set k (some x)).set j (some y)).set m (some z)) O) : SV K M (c1 + c2) (tSeq (tPar3 k j m tx) u) ρ O := fun X n σ W H i s l e D q nx =>
  h n σ W H i s (by omega) e _ fun vs ds W' H' go p ivs => by
    obtain ⟨x, y, z, rfl, r⟩ := r ds p
    cases ivs with
    | cons h1 h2 =>
      cases h2 with
      | cons h2 h3 =>
        cases h3 with
        | cons h3 h4 =>
          cases h4
          exact ⟨_, _, _, rfl, r X (n + c1) _ W' H' go.i go.s (by omega) ((((e.up go.w).set h1).set h2).set h3) D (fun o W2 H2 g2 p2 => q o W2 H2 (go.trans g2) p2) nx⟩
theorem s_parD {k j : Nat} {tx : TA} (h : A K M tx ρ [x, y]) (r : SV K M c u ((ρ.set k (some x)).set j (some y)) O) : SV K M c (tSeq (tPar k j tx) u) ρ O := (s_par h fun l hl => ⟨x, y, hl, r⟩).mono (by omega) fun _ p => p
theorem s_par3D {k j m : Nat} {tx : TA} (h : A K M tx ρ [x, y, z]) (r : SV K M c u (((ρ.set k (some x)).set j (some y)).set m (some z)) O) : SV K M c (tSeq (tPar3 k j m tx) u) ρ O := (s_par3 h fun l hl => ⟨x, y, z, hl, r⟩).mono (by omega) fun _ p => p
theorem tseq_next : tSeq t tNext = t := rfl
theorem s_one (h : SV K M c (tSeq t tNext) ρ O) : SV K M c t ρ O := h
theorem s_ret (h : EV K M c te ρ P) (ho : ∀ d, P d → O (.rt d)) : SV K M c (tRet te) ρ O := fun X n σ W H i s l e D q _ =>
  h n σ W H i s l e _ fun v d W' H' go p iv => q _ W' H' go (ho d p) v iv
theorem s_retD (h : E K M te ρ d) (ho : O (.rt d)) : SV K M 0 (tRet te) ρ O := s_ret h fun _ hd => by rw [hd]; exact ho
theorem s_drop (h : EV K M c te ρ P) (ho : ∀ d, P d → O (.nx ρ)) : SV K M c (tDrop te) ρ O := fun X n σ W H i s l e D q _ =>
  h n σ W H i s l e _ fun v d W' H' go p iv => q _ W' H' go (ho d p) σ (e.up go.w)
theorem s_ifV {PB : Bool → Prop} (h : TV K M c1 tt ρ PB) (h1 : PB true → SV K M c2 u ρ O) (h2 : PB false → SV K M c2 tw ρ O) : SV K M (c1 + c2) (tIfS tt u tw) ρ O := fun X n σ W H i s l e D q nx =>
  h n σ W H i s (by omega) e _ fun b W' H' go p => by
    cases b with
    | true => exact h1 p X (n + c1) σ W' H' go.i go.s (by omega) (e.up go.w) D (fun o W2 H2 g2 p2 => q o W2 H2 (go.trans g2) p2) nx
    | false => exact h2 p X (n + c1) σ W' H' go.i go.s (by omega) (e.up go.w) D (fun o W2 H2 g2 p2 => q o W2 H2 (go.trans g2) p2) nx
theorem s_if (h : T K M tt ρ b) (h1 : b = true → SV K M c u ρ O) (h2 : b = false → SV K M c tw ρ O) : SV K M c (tIfS tt u tw) ρ O :=
  (s_ifV h (fun z => h1 z.symm) (fun z => h2 z.symm)).mono (by omega) fun _ p => p
/-- if t: return .. (or raise, break), then the rest -/
theorem s_ifr (h : T K M tt ρ b) (h1 : b = true → SV K M c t ρ (fun o => O o ∧ ∀ ρ1, o ≠ .nx ρ1)) (h2 : b = false → SV K M c u ρ O) : SV K M c (tSeq (tIfS tt t tNext) u) ρ O := fun X n σ W H i s l e D q nx =>
  h n σ W H i s (by omega) e _ fun b' W' H' go p => by
    cases p
    cases b with
    | true =>
      refine h1 rfl X n σ W' H' go.i go.s l (e.up go.w) _ (fun o W2 H2 g2 p2 => ?_) fun d z => nx d z.1
      have g' : Go M c n W H W2 H2 := (go.trans g2).mono (by omega)
      cases o with
      | nx ρ1 => exact absurd rfl (p2.2 ρ1)
      | rt d => exact q _ W2 H2 g' p2.1
      | bk ρ1 => exact q _ W2 H2 g' p2.1
      | ct ρ1 => exact q _ W2 H2 g' p2.1
      | ex d => exact q _ W2 H2 g' p2.1
    | false => exact h2 rfl X n σ W' H' go.i go.s l (e.up go.w) D (fun o W2 H2 g2 p2 => q o W2 H2 ((go.trans g2).mono (by omega)) p2) nx
theorem s_ifrV {PB : Bool → Prop} (h : TV K M c1 tt ρ PB) (h1 : PB true → SV K M c2 t ρ (fun o => O o ∧ ∀ ρ1, o ≠ .nx ρ1)) (h2 : PB false → SV K M c2 u ρ O) : SV K M (c1 + c2) (tSeq (tIfS tt t tNext) u) ρ O := fun X n σ W H i s l e D q nx =>
  h n σ W H i s (by omega) e _ fun b W' H' go p => by
    cases b with
    | true =>
      refine h1 p X (n + c1) σ W' H' go.i go.s (by omega) (e.up go.w) _ (fun o W2 H2 g2 p2 => ?_) fun d z => nx d z.1
      have g' := go.trans g2
      cases o with
      | nx ρ1 => exact absurd rfl (p2.2 ρ1)
      | rt d => exact q _ W2 H2 g' p2.1
      | bk ρ1 => exact q _ W2 H2 g' p2.1
      | ct ρ1 => exact q _ W2 H2 g' p2.1
      | ex d => exact q _ W2 H2 g' p2.1
    | false => exact h2 p X (n + c1) σ W' H' go.i go.s (by omega) (e.up go.w) D (fun o W2 H2 g2 p2 => q o W2 H2 (go.trans g2) p2) nx
theorem rt_ok {O : Out → Prop} (h : O (.rt d)) : (fun o => O o ∧ ∀ ρ1, o ≠ .nx ρ1) (.rt d) := ⟨h, fun _ z => nomatch z⟩
/-- a statement in pieces: then the rest, by what it leaves -/
theorem s_then (h1 : SV K M c1 t ρ (fun o => ∃ ρ1, o = .nx ρ1 ∧ SV K M c2 u ρ1 O)) : SV K M (c1 + c2) (tSeq t u) ρ O :=
  s_seq h1 (fun ρ1 ⟨ρ2, z, h⟩ => by cases z; exact h) fun o ⟨ρ2, z, _⟩ n => absurd z (n _)
end
/-! ### what is walked -/
/-- the items, as long as W stands -/
def Src (K : PySem.W.Frag) (mm : Option Addr) (J : It) (W : Hp) (items : List PyData) : Prop := ∀ W' H' : Hp, Same W W' → Same W' H' →
  (∀ i d, items[i]? = some d → J.go i H' ∧ ∀ x H'', J.yld i H' x H'' → ∃ W'', Up W' H' W'' H'' ∧ Is K mm W'' x d) ∧ J.stop items.length H'
def WV (K : PySem.W.Frag) (M : Mode) (c : Nat) (wi : TI) (ρ : En) (PI : List PyData → Prop) : Prop := ∀ (n : Nat) (σ : L2.St) (W H : Hp), Same W H → M.S n W H → n + c ≤ lim → EnvOk K M.mm W σ ρ →
  ∀ R : It → Hp → Prop, (∀ J items W' H', Go M c n W H W' H' → PI items → Src K M.mm J W' items → R J H') → wi σ H R
section
variable {K : PySem.W.Frag} {M : Mode} {c c1 c2 c3 : Nat} {te ta : TE} {tt : TT} {tb : TS} {ts : TA} {ρ ρ1 : En} {d : PyData} {ds : List PyData} {P : PyData → Prop} {O : Out → Prop} {g : TG} {wi : TI}
theorem w_tup (h : E K M te ρ (.tuple ds)) : WV K M 0 (iTup K te) ρ (· = ds) := fun n σ W H i s l e R q =>
  h n σ W H i s l e _ fun v d' W' H' go p iv => by
    cases p
    cases iv with
    | @tup a xs _ hs r =>
      refine ⟨a, rfl, ⟨xs, sqT_same go.i hs⟩, q _ ds W' H' go rfl fun W2 H2 e1 e2 => ?_⟩
      have hq := sqT_same e2 (sqT_same e1 hs)
      refine ⟨fun j d hj => ?_, ⟨xs, hq, by rw [r.length]; exact Nat.le_refl _⟩⟩
      obtain ⟨v, hv, iv⟩ := r.at hj
      exact ⟨⟨xs, v, hq, hv⟩, fun x H'' ⟨y1, y2⟩ => ⟨W2, by rw [y1]; exact Up.refl e2, by
        have z := y2 xs hq
        rw [hv] at z
        cases z
        exact iv.up e1⟩⟩
theorem w_list (h : E K M te ρ (.list ds)) : WV K M 0 (iList K te) ρ (· = ds) := fun n σ W H i s l e R q =>
  h n σ W H i s l e _ fun v d' W' H' go p iv => by
    cases p
    cases iv with
    | @lst a xs _ hs r =>
      refine ⟨a, rfl, ⟨xs, .inl (.inl (go.i _ _ hs))⟩, q _ ds W' H' go rfl fun W2 H2 e1 e2 => ?_⟩
      have hq : SqL K H2 a xs := .inl (.inl (e2 _ _ (e1 _ _ hs)))
      refine ⟨fun j d hj => ?_, ⟨xs, hq, by rw [r.length]; exact Nat.le_refl _⟩⟩
      obtain ⟨v, hv, iv⟩ := r.at hj
      exact ⟨⟨xs, v, hq, hv⟩, fun x H'' ⟨y1, y2⟩ => ⟨W2, by rw [y1]; exact Up.refl e2, by
        have z := y2 xs hq
        rw [hv] at z
        cases z
        exact iv.up e1⟩⟩
def ixs (n : Nat) : List PyData := (List.range n).map fun (k : Nat) => PyData.int (k : Int)
theorem ixs_len (n : Nat) : (ixs n).length = n := by unfold ixs; simp
theorem ixs_at {n i : Nat} {d : PyData} (h : (ixs n)[i]? = some d) : i < n ∧ d = .int (i : Int) := by
  unfold ixs at h
  rw [List.getElem?_map] at h
  by_cases hi : i < n
  · rw [List.getElem?_range hi] at h
    cases h
    exact ⟨hi, rfl⟩
  · rw [List.getElem?_eq_none (by simpa using Nat.le_of_not_lt hi)] at h
    cases h
theorem w_range {PN : Nat → Prop} (h : EV K M c te ρ (fun d => ∃ n : Nat, d = .int (n : Int) ∧ n < 1000000000 ∧ PN n)) : WV K M c (iRng1 (tCons te tNil)) ρ (fun l => ∃ n : Nat, l = ixs n ∧ PN n) := fun m σ W H i s l e R q =>
  h m σ W H i s l e _ fun v d' W' H' go p iv => by
    obtain ⟨n, rfl, hn, pn⟩ := p
    cases iv
    refine ⟨(n : Int), rfl, by omega, by omega, ?_⟩
    rw [Int.toNat_natCast]
    refine q _ (ixs n) W' H' go ⟨n, rfl, pn⟩ fun W2 H2 e1 e2 => ⟨fun j d hj => ?_, ?_⟩
    · obtain ⟨h1, rfl⟩ := ixs_at hj
      exact ⟨h1, fun x H'' ⟨y1, y2⟩ => ⟨W2, by rw [y1]; exact Up.refl e2, by rw [y2, Int.zero_add]; exact .int _⟩⟩
    · show n ≤ (ixs n).length
      rw [ixs_len]
      exact Nat.le_refl _
theorem w_rangeD {n : Nat} (h : E K M te ρ (.int (n : Int))) (hn : n < 1000000000) : WV K M 0 (iRng1 (tCons te tNil)) ρ (· = ixs n) := fun m σ W H i s l e R q =>
  (w_range (PN := (· = n)) (EV.mono h (Nat.le_refl _) fun d hd => ⟨n, hd, hn, rfl⟩)) m σ W H i s l e R fun J items W' H' go p sr => by
    obtain ⟨n', hl, hn'⟩ := p
    subst hn'
    exact q J items W' H' go hl sr
def prs (ds : List PyData) : List PyData := (List.range ds.length).map fun (k : Nat) => PyData.tuple [.int (k : Int), ds.getD k .none]
theorem prs_len : (prs ds).length = ds.length := by unfold prs; simp
theorem prs_at {i : Nat} (h : (prs ds)[i]? = some d) : ∃ x, ds[i]? = some x ∧ d = .tuple [.int (i : Int), x] := by
  unfold prs at h
  rw [List.getElem?_map] at h
  by_cases hi : i < ds.length
  · rw [List.getElem?_range hi] at h
    cases h
    exact ⟨ds[i], by simp [hi], by simp [List.getD_eq_getElem?_getD, hi]⟩
  · rw [List.getElem?_eq_none (by simpa using Nat.le_of_not_lt hi)] at h
    cases h
theorem w_enum (h : E K M te ρ (.tuple ds)) : WV K M 0 (iEnumT K (tCons te tNil)) ρ (· = prs ds) := fun n σ W H i s l e R q =>
  h n σ W H i s l e _ fun v d' W' H' go p iv => by
    cases p
    cases iv with
    | @tup a xs _ hs r =>
      refine ⟨a, xs, rfl, sqT_same go.i hs, q _ _ W' H' go rfl fun W2 H2 e1 e2 => ?_⟩
      have hq := sqT_same e2 (sqT_same e1 hs)
      refine ⟨fun j d hj => ?_, ⟨xs, hq, by rw [prs_len, r.length]⟩⟩
      obtain ⟨x, hx, rfl⟩ := prs_at hj
      obtain ⟨v, hv, iv⟩ := r.at hx
      refine ⟨⟨xs, v, hq, hv⟩, fun y H'' ⟨Tp, x', y1, y2, y3, y4⟩ => ?_⟩
      have z := y4 xs hq
      rw [hv] at z
      cases z
      subst y1 y3
      have u := Up.new (o := .tup [.int ((j : Nat) : Int), v]) e2 y2
      exact ⟨_, u, .tup (.inl (.inl upd_same)) (.cons (.int _) (.cons ((iv.up e1).up u.w) .nil))⟩
/-! ### for, while -/
/-- I: by the turn, over the environment -/
theorem s_for {PI : List PyData → Prop} {L : Nat} (hw : WV K M c1 wi ρ PI) (hL : ∀ items, PI items → items.length ≤ L) (I : List PyData → Nat → En → Prop) (h0 : ∀ items, PI items → I items 0 ρ)
    (hs : ∀ items i d ρ1, PI items → items[i]? = some d → I items i ρ1 → ∃ ρ2, GV K M g ρ1 d ρ2 ∧ SV K M c2 tb ρ2 (fun o => match o with
      | .nx ρ3 => I items (i + 1) ρ3
      | .ct ρ3 => I items (i + 1) ρ3
      | .bk ρ3 => O (.nx ρ3)
      | o => O o))
    (hd : ∀ items ρ1, PI items → I items items.length ρ1 → O (.nx ρ1)) : SV K M (c1 + L * c2) (tFor wi g tb) ρ O := fun X n σ W H i s l e D q nx =>
  hw n σ W H i s (by omega) e _ fun J items W1 H1 go1 pi sr => by
    have hl := hL items pi
    have mulb : ∀ {a : Nat}, a ≤ items.length → a * c2 ≤ L * c2 := fun {a} ha => Nat.mul_le_mul_right _ (Nat.le_trans ha hl)
    refine ⟨fun j m σ' H' => m = items.length - j ∧ j ≤ items.length ∧ ∃ ρ1 W', Go M (j * c2) (n + c1) W1 H1 W' H' ∧ EnvOk K M.mm W' σ' ρ1 ∧ I items j ρ1, ⟨items.length, by simp, Nat.zero_le _, ρ, W1, ?_, e.up go1.w, h0 items pi⟩, ?_⟩
    · rw [Nat.zero_mul]
      exact Go.refl go1.i go1.s
    · rintro j m σ' H' ⟨rfl, hj, ρ1, W', go2, e2, p2⟩
      obtain ⟨sg, ss⟩ := sr W' H' go2.w go2.i
      by_cases hlt : j < items.length
      · obtain ⟨d, hd'⟩ : ∃ d, items[j]? = some d := ⟨items[j], by simp [hlt]⟩
        obtain ⟨go3, yl⟩ := sg j d hd'
        refine .inr ⟨go3, fun σ2 H2 => items.length - (j + 1) = items.length - (j + 1) ∧ j + 1 ≤ items.length ∧ ∃ ρ1 W', Go M ((j + 1) * c2) (n + c1) W1 H1 W' H2 ∧ EnvOk K M.mm W' σ2 ρ1 ∧ I items (j + 1) ρ1, fun σ2 H2 h => ⟨items.length - (j + 1), by omega, h⟩, fun x H'' y => ?_⟩
        obtain ⟨W'', up, iv⟩ := yl x H'' y
        obtain ⟨ρ2, gv, sv⟩ := hs items j d ρ1 pi hd' p2
        have go4 : Go M (j * c2) (n + c1) W1 H1 W'' H'' := (go2.trans (Go.up up go2.s)).mono (by omega)
        have bnd : (j + 1) * c2 ≤ L * c2 := mulb hlt
        have bnd2 : (j + 1) * c2 = j * c2 + c2 := Nat.succ_mul j c2
        refine gv σ' W'' H'' x up.i (e2.up up.w) iv _ fun σ2 e3 => sv X (n + c1 + j * c2) σ2 W'' H'' up.i go4.s (by omega) e3 _ (fun o W3 H3 g3 p3 => ?_) fun d z => nx d z
        have go5 : Go M ((j + 1) * c2) (n + c1) W1 H1 W3 H3 := (go4.trans g3).mono (by omega)
        have goT : Go M (c1 + L * c2) n W H W3 H3 := (go1.trans go5).mono (by omega)
        cases o with
        | nx ρ3 => exact fun σ3 e4 => ⟨rfl, hlt, ρ3, W3, go5, e4, p3⟩
        | ct ρ3 => exact fun σ3 e4 => ⟨rfl, hlt, ρ3, W3, go5, e4, p3⟩
        | bk ρ3 => exact fun σ3 e4 => q (.nx ρ3) W3 H3 goT p3 σ3 e4
        | rt d => exact q (.rt d) W3 H3 goT p3
        | ex d => exact q (.ex d) W3 H3 goT p3
      · have ej : j = items.length := by omega
        subst ej
        exact .inl ⟨ss, q (.nx ρ1) W' H' ((go1.trans go2).mono (by have := mulb (Nat.le_refl items.length); omega)) (hd items ρ1 pi p2) σ' e2⟩
/-- a while in which nothing is drawn: I by a number that falls -/
theorem s_while (I : Nat → En → Prop) (k0 : Nat) (h0 : I k0 ρ)
    (hs : ∀ k ρ1, I k ρ1 → ∃ b, T K M tt ρ1 b ∧ (b = true → SV K M 0 tb ρ1 (fun o => match o with
      | .nx ρ3 => ∃ k', k' < k ∧ I k' ρ3
      | .ct ρ3 => ∃ k', k' < k ∧ I k' ρ3
      | .bk ρ3 => O (.nx ρ3)
      | o => O o)) ∧ (b = false → O (.nx ρ1))) : SV K M 0 (tWhile tt tb) ρ O := fun X n σ W H i s l e D q nx => by
  refine ⟨fun m σ' H' => ∃ ρ1 W', Go M 0 n W H W' H' ∧ EnvOk K M.mm W' σ' ρ1 ∧ I m ρ1, ⟨k0, ρ, W, Go.refl i s, e, h0⟩, ?_⟩
  rintro m σ' H' ⟨ρ1, W', go1, e1, p1⟩
  obtain ⟨b, ht, h1, h2⟩ := hs m ρ1 p1
  refine ht n σ' W' H' go1.i go1.s l e1 _ fun b' W2 H2 go2 p => ?_
  cases p
  have go12 := go1.trans go2
  cases b with
  | true =>
    refine ⟨fun σ2 H2 => ∃ m', m' < m ∧ ∃ ρ1 W', Go M 0 n W H W' H2 ∧ EnvOk K M.mm W' σ2 ρ1 ∧ I m' ρ1, fun _ _ h => h, ?_⟩
    refine h1 rfl X n σ' W2 H2 go12.i go12.s l (e1.up go2.w) _ (fun o W3 H3 g3 p3 => ?_) fun d z => nx d z
    have goT := go12.trans g3
    cases o with
    | nx ρ3 => obtain ⟨k', hk, p3⟩ := p3; exact fun σ3 e4 => ⟨k', hk, ρ3, W3, goT, e4, p3⟩
    | ct ρ3 => obtain ⟨k', hk, p3⟩ := p3; exact fun σ3 e4 => ⟨k', hk, ρ3, W3, goT, e4, p3⟩
    | bk ρ3 => exact fun σ3 e4 => q (.nx ρ3) W3 H3 goT p3 σ3 e4
    | rt d => exact q (.rt d) W3 H3 goT p3
    | ex d => exact q (.ex d) W3 H3 goT p3
  | false => exact q (.nx ρ1) W2 H2 go12 (h2 rfl) σ' (e1.up go2.w)
end
end Kt
set_option Elab.async false
set_option linter.all false
set_option maxRecDepth 100000
set_option maxHeartbeats 4000000
namespace Kt
open PySem PySem.Spec PyProof.Rows L2
/-! ### promises -/
/-- a def that draws nothing: its arguments by data, what it answers -/
def PF (K : PySem.W.Frag) {α : Type} (args : α → List PyData) (pre : α → Prop) (res : α → PyData) : Sp := fun vs H Q _ =>
  ∃ (mm : Option Addr) (W : Hp) (x : α), Same W H ∧ IsAll K mm W vs (args x) ∧ pre x ∧ ∀ v W' H', Up W H W' H' → Is K mm W' v (res x) → Q v H'
/-- a def that draws, at most c times -/
def MF (K : PySem.W.Frag) (c : Nat) {α : Type} (args : α → List PyData) (pre : α → Prop) (res : α → PyData → Prop) : Sp := fun vs H Q _ =>
  ∃ (m : Addr) (T : List (Addr × Str)) (n : Nat) (W : Hp) (x : α), Same W H ∧ MSt m T n W H ∧ n + c ≤ lim ∧ IsAll K (some m) W vs (args x) ∧ pre x ∧
    ∀ v d W' H', Go (.em m T) c n W H W' H' → res x d → Is K (some m) W' v d → Q v H'
theorem sd_PF {K : PySem.W.Frag} {M : Mode} {α : Type} {args : α → List PyData} {pre : α → Prop} {res : α → PyData} (x : α) (hp : pre x) : SD K M 0 (PF K args pre res) (args x) (· = res x) :=
  fun n W H vs i s l iv Q E q => ⟨M.mm, W, x, i, iv, hp, fun v W' H' u iw => q v _ W' H' (Go.up u s) rfl iw⟩
theorem sd_MF {K : PySem.W.Frag} {m : Addr} {T : List (Addr × Str)} {c : Nat} {α : Type} {args : α → List PyData} {pre : α → Prop} {res : α → PyData → Prop} (x : α) (hp : pre x) : SD K (.em m T) c (MF K c args pre res) (args x) (res x) :=
  fun n W H vs i s l iv Q E q => ⟨m, T, n, W, x, i, s, l, iv, hp, fun v d W' H' g p iw => q v d W' H' g p iw⟩
theorem pf_len {K : PySem.W.Frag} {α : Type} {args : α → List PyData} {pre : α → Prop} {res : α → PyData} {n : Nat} (h : ∀ x, (args x).length = n) : ∀ vs H Q E, PF K args pre res vs H Q E → vs.length = n :=
  fun vs H Q E ⟨mm, W, x, _, iv, _⟩ => iv.length.trans (h x)
theorem mf_len {K : PySem.W.Frag} {c : Nat} {α : Type} {args : α → List PyData} {pre : α → Prop} {res : α → PyData → Prop} {n : Nat} (h : ∀ x, (args x).length = n) : ∀ vs H Q E, MF K c args pre res vs H Q E → vs.length = n :=
  fun vs H Q E ⟨m, _, k, W, x, _, _, _, iv, _⟩ => iv.length.trans (h x)
def ini (N : Nat) (ds : List PyData) : En := ds.map some ++ List.replicate (N - ds.length) none
theorem pf_run {K : PySem.W.Frag} {t : TS} {N : List Str} {α : Type} {args : α → List PyData} {pre : α → Prop} {res : α → PyData}
    (h : ∀ (M : Mode) (x : α), pre x → SV K M 0 t (ini N.length (args x)) (· = .rt (res x))) (vs : List V) (H : Hp) (Q : VK) (E : XK) (hs : PF K args pre res vs H Q E) : t { nx := fun _ H' => Q .non H', rt := Q } (start N vs) H := by
  obtain ⟨mm, W, x, i, iv, hp, q⟩ := hs
  refine h (.pure mm) x hp (fun _ _ _ => True) 0 _ W H i trivial (by unfold lim; omega) (EnvOk.start iv) _ (fun o W' H' g e => ?_) fun d z => nomatch z
  cases e
  exact fun v iv => q v W' H' g.toUp iv
/-- .. that may end without a return -/
theorem pf_runN {K : PySem.W.Frag} {t : TS} {N : List Str} {α : Type} {args : α → List PyData} {pre : α → Prop} {res : α → PyData}
    (h : ∀ (M : Mode) (x : α), pre x → SV K M 0 t (ini N.length (args x)) (fun o => o = .rt (res x) ∨ (res x = .none ∧ ∃ ρ, o = .nx ρ))) (vs : List V) (H : Hp) (Q : VK) (E : XK) (hs : PF K args pre res vs H Q E) : t { nx := fun _ H' => Q .non H', rt := Q } (start N vs) H := by
  obtain ⟨mm, W, x, i, iv, hp, q⟩ := hs
  refine h (.pure mm) x hp (fun _ _ _ => True) 0 _ W H i trivial (by unfold lim; omega) (EnvOk.start iv) _ (fun o W' H' g e => ?_) fun d z => by rcases z with z | ⟨_, ρ, z⟩ <;> cases z
  rcases e with e | ⟨e1, ρ, e⟩
  · cases e
    exact fun v iv => q v W' H' g.toUp iv
  · cases e
    exact fun σ _ => q _ W' H' g.toUp (by rw [e1]; exact .non)
theorem mf_run {K : PySem.W.Frag} {t : TS} {N : List Str} {c : Nat} {α : Type} {args : α → List PyData} {pre : α → Prop} {res : α → PyData → Prop}
    (h : ∀ (m : Addr) (T : List (Addr × Str)) (x : α), pre x → SV K (.em m T) c t (ini N.length (args x)) (fun o => ∃ d, o = .rt d ∧ res x d)) (vs : List V) (H : Hp) (Q : VK) (E : XK) (hs : MF K c args pre res vs H Q E) : t { nx := fun _ H' => Q .non H', rt := Q } (start N vs) H := by
  obtain ⟨m, T, n, W, x, i, s, l, iv, hp, q⟩ := hs
  refine h m T x hp (fun _ _ _ => True) n _ W H i s l (EnvOk.start iv) _ (fun o W' H' g e => ?_) fun d z => by obtain ⟨_, z, _⟩ := z; cases z
  obtain ⟨d, e, r⟩ := e
  cases e
  exact fun v iv => q v d W' H' g r iv
/-! ### a def that stands -/
structure Got (P : Program) (w : World) (K : PySem.W.Frag) (mg : Str → Option Value) (base : Heap) (k : Nat) (x : Str) (ps : List Str) (sp : Sp) : Prop where
  ex : ∃ (f : Addr) (fd : FuncData), FnOk P w K mg base CX0 k f fd ps sp ∧ mg x = some (.ref f) ∧ PySem.W.keepIn K (.ref f) = true ∧ Binds K fd ps []
section
variable {X : Cx} {k : Nat} {x : Str} {ps : List Str} {sp : Sp} {p pos : Pos} {e : Expr} {es : List Expr} {t : TA}
theorem pe_got (F : Got X.prog X.w X.K X.mg X.base k x ps sp) (hr : Room k X.A) (hg : Gl X x) (ha : PA X (e :: es) t) (hdb : (x == ("__debug__" : Str)) = false := by decide)
    (he : starEach (e :: es) X.env = (false, eval e X.env) :: starEach es X.env := by rfl) (hpl : (backTo pos (starEach es X.env)).any (·.1) = false := by rfl) : PE X (.Call (.Name x p) (e :: es) [] pos) (tCall sp [] E0 t) := by
  obtain ⟨f, fd, F, m, kp, b⟩ := F.ex
  exact pe_call F hr hg m kp b .nil pass0 ha hdb he hpl
end
abbrev FnD (K : PySem.W.Frag) (x : Str) (st : Stmt) (f : Addr) (fd : FuncData) : Prop := FunD K x x (defArgs st) (defBody st) (defScope st) [] [] f fd
/-- the def as it stands behind the top -/
def Std (K : PySem.W.Frag) (mg : Str → Option Value) (x : Str) (st : Stmt) : Prop := ∃ f fd, FnD K x st f fd ∧ mg x = some (.ref f)
section
variable {P : Program} {w : World} {K : PySem.W.Frag} {mg : Str → Option Value} {base : Heap} {x : Str} {st : Stmt}
theorem got_of {N ps : List Str} {k : Nat} {sp : Sp} (S : Std K mg x st) (sc : FnScope N ps (defScope st)) (len : ∀ vs H Q E, sp vs H Q E → vs.length = ps.length)
    (hb : ∀ (kV doc pm : Value) (an : Option Addr) (cdv ct : Value) (us : List Value), us.length = ps.length → bindArgs (PySem.W.fnOf x x (defArgs st) (defBody st) (defScope st) .none kV doc pm an cdv ct) ⟨us, []⟩ = pure (ps.zip us)) (t : TS)
    (hrun : ∀ vs H Q E, sp vs H Q E → t { nx := fun _ H' => Q .non H', rt := Q } (start N vs) H)
    (hbody : ∀ (f : Addr) (cdv : Value) (A : Around) (outer : List Env) (s : Shared) (H : Hp) (E : XK), Room k (A.deeper (envOfC x (defScope st) s.heap.objs.size f cdv)) →
      PSs (cxOf CX0 P w K mg base N x (defScope st) f cdv A outer s H E).nox (defBody st) t) : Got P w K mg base (k + 1) x ps sp := by
  obtain ⟨f, fd, F, m⟩ := S
  exact ⟨f, fd, F.ok sc len fun cdv A outer s H vs Q E hr h => ⟨t, (hbody f cdv A outer s H E hr).nox, hrun vs H Q E h⟩, m, F.kp, F.bindsN hb⟩
end
end Kt
set_option Elab.async false
set_option linter.all false
set_option maxRecDepth 100000
set_option maxHeartbeats 4000000
namespace Kt
open PySem PySem.Spec PyProof.Rows L2
/-! ### what the defs compute -/
abbrev zz (l : List Int) : List PyData := l.map PyData.int
structure Cd where
  low : Int
  high : Int
  steps : List Int
  moves : List (Int × Int)
  fade : Int
abbrev mvD (m : Int × Int) : PyData := .tuple [.int m.1, .int m.2]
abbrev Cd.ds (c : Cd) : List PyData := [.int c.low, .int c.high, .tuple (zz c.steps), .tuple (c.moves.map mvD), .int c.fade]
abbrev Cd.d (c : Cd) : PyData := .tuple c.ds
structure Cd.Ok (c : Cd) : Prop where
  low : -32768 ≤ c.low ∧ c.low ≤ 0
  high : 0 ≤ c.high ∧ c.high ≤ 32767
  sl : 1 ≤ c.steps.length ∧ c.steps.length ≤ 16
  sv : ∀ s ∈ c.steps, 1 ≤ s ∧ s ≤ 9999
  ml : 2 ≤ c.moves.length ∧ c.moves.length ≤ 16
  mv : ∀ m ∈ c.moves, (-32 ≤ m.1 ∧ m.1 ≤ 32) ∧ (-15 ≤ m.2 ∧ m.2 ≤ 15)
  fade : c.fade = 0 ∨ (2 ≤ c.fade ∧ c.fade ≤ 99)
abbrev St2 := Int × Int
abbrev sd (s : St2) : PyData := .tuple [.int s.1, .int s.2]
structure SOk (c : Cd) (s : St2) : Prop where
  l : c.low ≤ s.1 ∧ s.1 ≤ c.high
  p : 0 ≤ s.2 ∧ s.2 < c.steps.length
def whole (d : PyData) (l m : Int) : Bool := match d with
  | .int i => decide (l ≤ i) && decide (i ≤ m)
  | _ => false
def dv (a b : Int) : Int := if 0 ≤ a then a.fdiv b else -((-a).fdiv b)
def clamp (l h x : Int) : Int := if x < l then l else if h < x then h else x
def mv1 (c : Cd) (k p : Int) : Int := dv ((c.moves.getD k.toNat (0, 0)).1 * c.steps.getD p.toNat 0) 8
def faded (c : Cd) (v : Int) : Int := if c.fade = 0 then v else v - dv v c.fade
def led (c : Cd) (s : St2) (k : Int) : St2 := (clamp c.low c.high (faded c s.1 + mv1 c k s.2), clamp 0 (c.steps.length - 1) (s.2 + (c.moves.getD k.toNat (0, 0)).2))
def walk (c : Cd) (s : St2) (row : List Int) : St2 := row.foldl (led c) s
def states (c : Cd) : St2 → List Int → List St2
  | s, [] => [s]
  | s, k :: r => s :: states c (led c s k) r
def CodeOk (c : Cd) (k : Int) : Prop := 0 ≤ k ∧ k < c.moves.length
def lev (l : Int) : Int := if l < 0 then l + 65536 else l
def num (t r : Int) : Int := if t > 127 then 256 * t + r - 65536 else 256 * t + r
def sg (b : Int) : Int := if b > 127 then b - 256 else b
def byteAt (ds : List PyData) (i : Nat) (l m : Int) : Bool := match ds[i]? with
  | some d => whole d l m
  | none => false
def intOf : PyData → Int
  | .int i => i
  | _ => 0
def intAt (ds : List PyData) (i : Nat) : Int := match ds[i]? with
  | some d => intOf d
  | none => 0
abbrev loO (c : Cd) : Option St2 → Int
  | none => c.low
  | some s => s.1
abbrev hiO (c : Cd) : Option St2 → Int
  | none => c.high
  | some s => s.1
abbrev leO (c : Cd) : Option St2 → Int
  | none => 0
  | some s => s.2
abbrev moO (c : Cd) : Option St2 → Int
  | none => (c.steps.length : Int) - 1
  | some s => s.2
abbrev oD : Option St2 → PyData
  | none => .none
  | some s => sd s
abbrev oN : Option Nat → PyData
  | none => .none
  | some i => .int (i : Int)
def OOk (c : Cd) : Option St2 → Prop
  | none => True
  | some s => SOk c s
def hd (c : Cd) (ds : List PyData) (a : Nat) (st : Option St2) : Option Nat :=
  if byteAt ds a 165 165 = true then
  if byteAt ds (a + 1) 90 90 = true then
  if byteAt ds (a + 2) 0 255 = true ∧ (loO c st).fdiv 256 ≤ sg (intAt ds (a + 2)) ∧ sg (intAt ds (a + 2)) ≤ (hiO c st).fdiv 256 then
  if byteAt ds (a + 3) 0 255 = true ∧ loO c st ≤ num (intAt ds (a + 2)) (intAt ds (a + 3)) ∧ num (intAt ds (a + 2)) (intAt ds (a + 3)) ≤ hiO c st then
  if byteAt ds (a + 4) (leO c st) (moO c st) = true then
  if byteAt ds (a + 5) 1 255 = true then none else some (a + 5)
  else some (a + 4) else some (a + 3) else some (a + 2) else some (a + 1) else some a
def okB (c : Cd) (ds : List PyData) (i : Nat) (last : Bool) : Bool := byteAt ds i 0 255 && (decide (intAt ds i % 16 < c.moves.length) && (decide (intAt ds i / 16 < c.moves.length) && (!last || decide (intAt ds i / 16 = 0))))
/-- the codes' bytes: k bytes are left, j are read -/
def body (c : Cd) (ds : List PyData) (a many : Nat) : Nat → Nat → List Int → Option Nat × List Int
  | 0, _, row => (none, row)
  | k + 1, j, row => if okB c ds (a + j) (decide (2 * j + 1 = many)) = true then body c ds a many k (j + 1) (row ++ [intAt ds (a + j) % 16, intAt ds (a + j) / 16]) else (some (a + j), row)
def sumAt (ds : List PyData) (i j : Nat) : Int := (((ds.drop i).take (j - i)).map intOf).sum
abbrev Rd0 := Nat ⊕ (Nat × St2 × List Int)
def tail0 (ds : List PyData) (a e : Nat) (many : Nat) (row : List Int) : Rd0 :=
  if byteAt ds e (sumAt ds (a + 2) e % 256) (sumAt ds (a + 2) e % 256) = true then .inr (e + 1, (num (intAt ds (a + 2)) (intAt ds (a + 3)), intAt ds (a + 4)), row.take many) else .inl e
def blk (c : Cd) (ds : List PyData) (a : Nat) (st : Option St2) : Rd0 := match hd c ds a st with
  | some i => .inl i
  | none => match body c ds (a + 6) (intAt ds (a + 5)).toNat (((intAt ds (a + 5)).toNat + 1) / 2) 0 [] with
    | (some i, _) => .inl i
    | (none, row) => tail0 ds a (a + 6 + ((intAt ds (a + 5)).toNat + 1) / 2) (intAt ds (a + 5)).toNat row
def firstO (due : Option St2) (s first : St2) : St2 := match due with
  | none => s
  | some _ => first
def fgo (c : Cd) (ds : List PyData) : Nat → Nat → Option St2 → St2 → List Int → Nat ⊕ (St2 × List Int)
  | 0, _, _, first, row => .inr (first, row)
  | k + 1, a, due, first, row => if a < ds.length then (match blk c ds a due with
      | .inl i => .inl i
      | .inr (e, s, r) => fgo c ds k e (some (walk c s r)) (firstO due s first) (row ++ r)) else .inr (first, row)
def file (c : Cd) (ds : List PyData) : Nat ⊕ (St2 × List Int) := fgo c ds (ds.length + 1) 0 none (0, 0) []
/-! ### laying -/
def pairAt (row : List Int) (i : Nat) : Int := row.getD (2 * i) 0 + 16 * row.getD (2 * i + 1) 0
def pairs (row : List Int) : List Int := (List.range ((row.length + 1) / 2)).map (pairAt row)
def inner (s : St2) (row : List Int) : List Int := [(s.1 % 65536) / 256, (s.1 % 65536) % 256, s.2, row.length] ++ pairs row
def blockB (s : St2) (row : List Int) : List Int := [165, 90] ++ inner s row ++ [(inner s row).sum % 256]
/-! ### numbers -/
theorem fdiv_pos {a b : Int} (h : 0 ≤ b) : a.fdiv b = a / b := Int.fdiv_eq_ediv_of_nonneg a h
theorem fmod_pos {a b : Int} (h : 0 ≤ b) : a.fmod b = a % b := Int.fmod_eq_emod_of_nonneg a h
theorem clamp_in {l h x : Int} (hl : l ≤ h) : l ≤ clamp l h x ∧ clamp l h x ≤ h := by
  unfold clamp
  split
  · omega
  · split <;> omega
theorem led_ok {c : Cd} (h : c.Ok) {s : St2} {k : Int} : SOk c (led c s k) := by
  have h1 := h.low
  have h2 := h.high
  have h3 := h.sl
  have a := clamp_in (l := c.low) (h := c.high) (x := faded c s.1 + mv1 c k s.2) (by omega)
  have b := clamp_in (l := 0) (h := (c.steps.length : Int) - 1) (x := s.2 + (c.moves.getD k.toNat (0, 0)).2) (by omega)
  exact ⟨a, b.1, by show clamp 0 _ _ < _; omega⟩
theorem walk_ok {c : Cd} (h : c.Ok) : ∀ {row : List Int} {s : St2}, SOk c s → SOk c (walk c s row)
  | [], _, hs => hs
  | k :: r, s, _ => walk_ok h (row := r) (led_ok h)
theorem walk_snoc {c : Cd} {s : St2} {r : List Int} {k : Int} : walk c s (r ++ [k]) = led c (walk c s r) k := by unfold walk; rw [List.foldl_append]; rfl
theorem states_last {c : Cd} : ∀ {row : List Int} {s : St2}, (states c s row).getLast? = some (walk c s row)
  | [], _ => rfl
  | k :: r, s => by
    have ih := states_last (c := c) (row := r) (s := led c s k)
    show (s :: states c (led c s k) r).getLast? = some (walk c (led c s k) r)
    cases e : states c (led c s k) r with
    | nil => rw [e] at ih; cases ih
    | cons x xs => rw [List.getLast?_cons_cons, ← e]; exact ih
theorem states_snoc {c : Cd} : ∀ {row : List Int} {s : St2} {k : Int}, states c s (row ++ [k]) = states c s row ++ [walk c s (row ++ [k])]
  | [], _, _ => rfl
  | j :: r, s, k => by
    show s :: states c (led c s j) (r ++ [k]) = s :: (states c (led c s j) r ++ [walk c (led c s j) (r ++ [k])])
    rw [states_snoc]
theorem states_len {c : Cd} : ∀ {row : List Int} {s : St2}, (states c s row).length = row.length + 1
  | [], _ => rfl
  | k :: r, s => by show (states c (led c s k) r).length + 1 = _; rw [states_len]; rfl
theorem byteAt_int {ds : List PyData} {i : Nat} {l m : Int} (h : byteAt ds i l m = true) : ds[i]? = some (.int (intAt ds i)) ∧ l ≤ intAt ds i ∧ intAt ds i ≤ m := by
  unfold byteAt at h
  unfold intAt
  cases e : ds[i]? with
  | none => rw [e] at h; cases h
  | some d =>
    rw [e] at h
    cases d with
    | int j =>
      have h2 : (decide (l ≤ j) && decide (j ≤ m)) = true := h
      rw [Bool.and_eq_true, decide_eq_true_eq, decide_eq_true_eq] at h2
      exact ⟨rfl, h2⟩
    | _ => cases h
theorem byteAt_iff {ds : List PyData} {i : Nat} {l m : Int} : byteAt ds i l m = true ↔ (ds[i]? = some (.int (intAt ds i)) ∧ l ≤ intAt ds i ∧ intAt ds i ≤ m) := ⟨byteAt_int, fun ⟨h1, h2, h3⟩ => by
  unfold byteAt
  rw [h1]
  show (decide (l ≤ _) && decide (_ ≤ m)) = true
  rw [decide_eq_true h2, decide_eq_true h3]; rfl⟩
theorem byteAt_lt {ds : List PyData} {i : Nat} {l m : Int} (h : byteAt ds i l m = true) : i < ds.length := (List.getElem?_eq_some_iff.mp (byteAt_int h).1).1
theorem sg_eq {b : Int} (h : 0 ≤ b) (h2 : b ≤ 255) {r : Int} : num b r = 256 * sg b + r := by
  unfold num sg
  split <;> omega
end Kt
set_option Elab.async false
set_option linter.all false
set_option maxRecDepth 100000
set_option maxHeartbeats 4000000
namespace Kt
open PySem PySem.Spec PyProof.Rows L2
/-! ### promises -/
section
variable (K : PySem.W.Frag)
/-- no thing of it is the mark -/
def Nm (ds : List PyData) : Prop := ∀ d ∈ ds, d ≠ markD
structure DOk (ds : List PyData) : Prop where
  nm : Nm ds
  len : ds.length ≤ 10000
def ROk (c : Cd) (row : List Int) : Prop := ∀ k ∈ row, CodeOk c k
def sp_is_whole : Sp := PF K (fun x : PyData × Int × Int => [x.1, .int x.2.1, .int x.2.2]) (fun x => x.1 ≠ markD) (fun x => .bool (whole x.1 x.2.1 x.2.2))
def sp_law_is_whole : Sp := sp_is_whole K
def sp_cd_is_move : Sp := PF K (fun m : Int × Int => [mvD m]) (fun m => (-32 ≤ m.1 ∧ m.1 ≤ 32) ∧ (-15 ≤ m.2 ∧ m.2 ≤ 15)) (fun _ => .bool true)
abbrev partD (b : Bool) : PyData := .str (if b then "steps" else "moves")
def sp_cd_row_fault : Sp := PF K (fun x : Bool × List PyData × Int × Int => [partD x.1, .tuple x.2.1, .int x.2.2.1, .int x.2.2.2])
  (fun x => (x.2.2.1 ≤ x.2.1.length ∧ (x.2.1.length : Int) ≤ x.2.2.2) ∧ ∀ d ∈ x.2.1, if x.1 = true then ∃ i : Int, d = .int i ∧ 1 ≤ i ∧ i ≤ 9999 else ∃ m : Int × Int, d = mvD m ∧ (-32 ≤ m.1 ∧ m.1 ≤ 32) ∧ (-15 ≤ m.2 ∧ m.2 ≤ 15)) (fun _ => .none)
def sp_coder_fault : Sp := PF K (fun c : Cd => [c.d]) Cd.Ok (fun _ => .none)
def sp_need_coder : Sp := PF K (fun c : Cd => [c.d]) Cd.Ok (fun c => c.d)
def sp_divided : Sp := PF K (fun x : Int × Int => [.int x.1, .int x.2]) (fun x => 0 < x.2 ∧ x.2 < 1073741824) (fun x => .int (dv x.1 x.2))
def sp_law_parted : Sp := sp_divided K
structure POk (c : Cd) (k p : Int) : Prop where
  cok : c.Ok
  kok : CodeOk c k
  p : 0 ≤ p ∧ p < c.steps.length
def sp_moved_by : Sp := PF K (fun x : Cd × Int × Int => [x.1.d, .int x.2.1, .int x.2.2]) (fun x => POk x.1 x.2.1 x.2.2) (fun x => .int (mv1 x.1 x.2.1 x.2.2))
structure LOk (c : Cd) (s : St2) (k : Int) : Prop where
  cok : c.Ok
  sok : SOk c s
  kok : CodeOk c k
def sp_next_state : Sp := PF K (fun x : Cd × St2 × Int => [x.1.d, sd x.2.1, .int x.2.2]) (fun x => LOk x.1 x.2.1 x.2.2) (fun x => sd (led x.1 x.2.1 x.2.2))
def sp_law_led : Sp := sp_next_state K
structure WOk (c : Cd) (s : St2) (row : List Int) : Prop where
  cok : c.Ok
  sok : SOk c s
  rok : ROk c row
  l : row.length ≤ 1000
def sp_walked : Sp := PF K (fun x : Cd × St2 × List Int => [x.1.d, sd x.2.1, .tuple (zz x.2.2)]) (fun x => WOk x.1 x.2.1 x.2.2) (fun x => sd (walk x.1 x.2.1 x.2.2))
def sp_law_walked : Sp := PF K (fun x : Cd × St2 × List Int => [x.1.d, sd x.2.1, .tuple (zz x.2.2)]) (fun x => WOk x.1 x.2.1 x.2.2) (fun x => .list ((states x.1 x.2.1 x.2.2).map sd))
def sp_law_limited : Sp := PF K (fun x : Int × Int × Int => [.int x.1, .int x.2.1, .int x.2.2]) (fun _ => True) (fun x => .int (clamp x.2.1 x.2.2 x.1))
def sp_bk_level : Sp := PF K (fun l : Int => [.int l]) (fun l => -32768 ≤ l ∧ l ≤ 32767) (fun l => .tuple [.int (lev l / 256), .int (lev l % 256)])
def sp_bk_number : Sp := PF K (fun x : Int × Int => [.int x.1, .int x.2]) (fun _ => True) (fun x => .int (num x.1 x.2))
def sp_bk_signed : Sp := PF K (fun b : Int => [.int b]) (fun _ => True) (fun b => .int (sg b))
def sp_bk_is_byte : Sp := PF K (fun x : List PyData × Nat × Int × Int => [.tuple x.1, .int (x.2.1 : Int), .int x.2.2.1, .int x.2.2.2]) (fun x => Nm x.1) (fun x => .bool (byteAt x.1 x.2.1 x.2.2.1 x.2.2.2))
structure HOk0 (c : Cd) (ds : List PyData) (st : Option St2) : Prop where
  cok : c.Ok
  dok : DOk ds
  ook : OOk c st
def sp_bk_head_fault : Sp := PF K (fun x : Cd × List PyData × Nat × Option St2 => [x.1.d, .tuple x.2.1, .int (x.2.2.1 : Int), oD x.2.2.2]) (fun x => HOk0 x.1 x.2.1 x.2.2.2) (fun x => oN (hd x.1 x.2.1 x.2.2.1 x.2.2.2))
/-- what bk_codes answers -/
abbrev bcD (many : Nat) (r : Option Nat × List Int) : PyData := .tuple [.list (zz (match r.1 with | none => r.2.take many | some _ => r.2)), oN r.1]
def sp_bk_codes : Sp := PF K (fun x : Cd × List PyData × Nat × Nat => [x.1.d, .tuple x.2.1, .int (x.2.2.1 : Int), .int (x.2.2.2 : Int)]) (fun x => x.1.Ok ∧ DOk x.2.1 ∧ x.2.2.2 ≤ 255)
  (fun x => bcD x.2.2.2 (body x.1 x.2.1 x.2.2.1 x.2.2.2 ((x.2.2.2 + 1) / 2) 0 []))
abbrev brD : Rd0 → PyData
  | .inl i => .tuple [.int (i : Int), .none, .none]
  | .inr (e, s, r) => .tuple [.int (e : Int), sd s, .tuple (zz r)]
abbrev lrD : Rd0 → PyData
  | .inl i => .int (i : Int)
  | .inr (e, s, r) => .tuple [.int (e : Int), sd s, .tuple (zz r)]
def sp_bk_read : Sp := PF K (fun x : Cd × List PyData × Nat × Option St2 => [x.1.d, .tuple x.2.1, .int (x.2.2.1 : Int), oD x.2.2.2]) (fun x => HOk0 x.1 x.2.1 x.2.2.2) (fun x => brD (blk x.1 x.2.1 x.2.2.1 x.2.2.2))
def sp_law_block_read : Sp := PF K (fun x : Cd × List PyData × Nat × Option St2 => [x.1.d, .tuple x.2.1, .int (x.2.2.1 : Int), oD x.2.2.2]) (fun x => HOk0 x.1 x.2.1 x.2.2.2 ∧ x.2.2.1 < x.2.1.length) (fun x => lrD (blk x.1 x.2.1 x.2.2.1 x.2.2.2))
abbrev fiD : Nat ⊕ (St2 × List Int) → PyData
  | .inl i => .tuple [.str "byte", .int (i : Int)]
  | .inr (f, r) => .list [.tuple [sd f, .tuple (zz r)]]
def sp_law_due : Sp := PF K (fun x : Cd × List PyData => [x.1.d, .tuple x.2]) (fun x => x.1.Ok ∧ DOk x.2) (fun x => fiD (file x.1 x.2))
structure BOk (s : St2) (row : List Int) : Prop where
  sv : -32768 ≤ s.1 ∧ s.1 ≤ 32767
  rk : ∀ k ∈ row, 0 ≤ k ∧ k < 16
  l : row.length ≤ 255
def sp_law_block : Sp := PF K (fun x : St2 × List Int => [sd x.1, .tuple (zz x.2)]) (fun x => BOk x.1 x.2) (fun x => .tuple (zz (blockB x.1 x.2)))
def fgoB (c : Cd) (row sizes : List Int) : Nat → Nat → Nat → St2 → List Int
  | 0, _, _, _ => []
  | f + 1, a, k, s => if a < row.length then
      blockB s ((row.drop a).take (sizes.getD k (sizes.getLastD 1)).toNat) ++ fgoB c row sizes f (a + (sizes.getD k (sizes.getLastD 1)).toNat) (k + 1) (walk c s ((row.drop a).take (sizes.getD k (sizes.getLastD 1)).toNat)) else []
def fileB (c : Cd) (row sizes : List Int) (s : St2) : List Int := fgoB c row sizes (row.length + 1) 0 0 s
structure FOk (c : Cd) (row sizes : List Int) (s : St2) : Prop where
  cok : c.Ok
  rok : ROk c row
  l : row.length ≤ 40
  n : sizes ≠ []
  zok : ∀ z ∈ sizes, 1 ≤ z ∧ z ≤ 255
  sl : sizes.length ≤ 10
  sok : SOk c s
def sp_law_file : Sp := PF K (fun x : Cd × List Int × List Int × St2 => [x.1.d, .tuple (zz x.2.1), .list (zz x.2.2.1), sd x.2.2.2]) (fun x => FOk x.1 x.2.1 x.2.2.1 x.2.2.2) (fun x => .tuple (zz (fileB x.1 x.2.1 x.2.2.1 x.2.2.2)))
/-! .. that draw -/
def sp_law_next : Sp := MF K 1 (fun n : Int => [markD, .int n]) (fun n => 1 ≤ n ∧ n ≤ 1000000) (fun n d => ∃ r : Int, d = .int r ∧ 0 ≤ r ∧ r < n)
def sp_law_some_state : Sp := MF K 2 (fun c : Cd => [markD, c.d]) Cd.Ok (fun c d => ∃ s, SOk c s ∧ d = sd s)
def sp_law_row : Sp := MF K 100 (fun x : Cd × Nat => [markD, x.1.d, .int (x.2 : Int)]) (fun x => x.1.Ok ∧ x.2 ≤ 40) (fun x d => ∃ r, ROk x.1 r ∧ r.length ≤ x.2 ∧ d = .tuple (zz r))
def sp_law_great_coder : Sp := MF K 100 (fun _ : Unit => [markD]) (fun _ => True) (fun _ d => ∃ c : Cd, c.Ok ∧ d = c.d)
/-- blocks one behind another, n codes in all -/
inductive Blocks : List Int → Nat → Prop
  | nil : Blocks [] 0
  | cons {s : St2} {r D : List Int} {n : Nat} (h0 : r ≠ []) (h1 : r.length ≤ 255) (t : Blocks D n) : Blocks (blockB s r ++ D) (r.length + n)
def Bytes (D : List Int) : Prop := ∀ b ∈ D, 0 ≤ b ∧ b ≤ 255
def sp_law_pieces : Sp := MF K 1000 (fun c : Cd => [markD, c.d, .int 3]) Cd.Ok (fun c d => ∃ D n, Blocks D n ∧ n ≤ 42 ∧ Bytes D ∧ d = .tuple (zz D))
def itemB : PyData → Bool
  | .none => true
  | .bool b => b
  | .int i => decide (-1 ≤ i) && decide (i ≤ 256)
  | .str x => decide (x = "0")
  | .tuple [.int 0] => true
  | .list [] => true
  | .dict [] => true
  | .list [.int 165] => true
  | _ => false
def ItOk (ds : List PyData) : Prop := ∀ d ∈ ds, itemB d = true
def Bent (X Y : List PyData) : Prop := Y.length ≤ X.length + 1 ∨ ∃ a b : Nat, Y = X.take a ++ X.drop b
def sp_law_bent_data : Sp := MF K 20 (fun ds : List PyData => [markD, .tuple ds]) (fun ds => ItOk ds ∧ ds.length ≤ 5000) (fun ds d => ∃ Y, Bent ds Y ∧ ItOk Y ∧ d = .tuple Y)
end
/-! ### readings -/
def t_is_whole (K : PySem.W.Frag) : TS := (tRet (tAndV (tCB (rIsi K) (tCons (tVar 0) (tCons (tC (.ty "int")) tNil))) (tAndV (tNotV (tCB (rIsi K) (tCons (tVar 0) (tCons (tC (.ty "bool")) tNil)))) (tChain (rI0 fun i j => .bl (decide (i ≤ j))) (rI0 fun i j => .bl (decide (i ≤ j))) (tVar 1) (tVar 0) (tVar 2)))))
def t_cd_is_move (K : PySem.W.Frag) : TS := (tRet (tAndV (tCB (rIsi K) (tCons (tVar 0) (tCons (tC (.ty "tuple")) tNil))) (tAndV (tOp rEq (tCB (rLenQ K) (tCons (tVar 0) tNil)) (tC (.int 2))) (tAndV (tCall (sp_is_whole K) [] E0 (tCons (tOp (rIxT K) (tVar 0) (tC (.int 0))) (tCons (tUn (rU fun i => .int (-i)) (tC (.int 32))) (tCons (tC (.int 32)) tNil)))) (tCall (sp_is_whole K) [] E0 (tCons (tOp (rIxT K) (tVar 0) (tC (.int 1))) (tCons (tUn (rU fun i => .int (-i)) (tC (.int 15))) (tCons (tC (.int 15)) tNil))))))))
def t_cd_row_fault (K : PySem.W.Frag) : TS := (tSeq (tIfS (tOr (tNot (tB (tCB (rIsi K) (tCons (tVar 1) (tCons (tC (.ty "tuple")) tNil))))) (tNot (tTest (tChain (rI0 fun i j => .bl (decide (i ≤ j))) (rI0 fun i j => .bl (decide (i ≤ j))) (tVar 2) (tCB (rLenQ K) (tCons (tVar 1) tNil)) (tVar 3))))) (tRet (tTup (tCons (tVar 0) (tCons (tC .non) tNil)))) tNext) (tSeq (tFor (iEnumT K (tCons (tVar 1) tNil)) (gTup K 2 (gCons (gName 4) (gCons (gName 5) gNil))) (tIfS (tNot (tB (tIf (tTest (tOp rEq (tVar 0) (tC (.str "steps")))) (tCall (sp_is_whole K) [] E0 (tCons (tVar 5) (tCons (tC (.int 1)) (tCons (tC (.int 9999)) tNil)))) (tCall (sp_cd_is_move K) [] E0 (tCons (tVar 5) tNil))))) (tRet (tTup (tCons (tVar 0) (tCons (tVar 4) tNil)))) tNext)) (tRet (tC .non))))
def t_coder_fault (K : PySem.W.Frag) : TS := (tSeq (tIfS (tOr (tNot (tB (tCB (rIsi K) (tCons (tVar 0) (tCons (tC (.ty "tuple")) tNil))))) (tTest (tOp rNe (tCB (rLenQ K) (tCons (tVar 0) tNil)) (tC (.int 5))))) (tRet (tTup (tCons (tC (.str "form")) (tCons (tC .non) tNil)))) tNext) (tSeq (tAsg (tVar 0) (gTup K 5 (gCons (gName 2) (gCons (gName 3) (gCons (gName 4) (gCons (gName 5) (gCons (gName 6) gNil))))))) (tSeq (tIfS (tNot (tB (tCall (sp_is_whole K) [] E0 (tCons (tVar 2) (tCons (tUn (rU fun i => .int (-i)) (tC (.int 32768))) (tCons (tC (.int 0)) tNil)))))) (tRet (tTup (tCons (tC (.str "low")) (tCons (tC .non) tNil)))) tNext) (tSeq (tIfS (tNot (tB (tCall (sp_is_whole K) [] E0 (tCons (tVar 3) (tCons (tC (.int 0)) (tCons (tC (.int 32767)) tNil)))))) (tRet (tTup (tCons (tC (.str "high")) (tCons (tC .non) tNil)))) tNext) (tSeq (tAsg (tCall (sp_cd_row_fault K) [] E0 (tCons (tC (.str "steps")) (tCons (tVar 4) (tCons (tC (.int 1)) (tCons (tC (.int 16)) tNil))))) (gName 1)) (tSeq (tIfS (tTest (tOp rIsN (tVar 1) (tC .non))) (tAsg (tCall (sp_cd_row_fault K) [] E0 (tCons (tC (.str "moves")) (tCons (tVar 5) (tCons (tC (.int 2)) (tCons (tC (.int 16)) tNil))))) (gName 1)) tNext) (tSeq (tIfS (tAnd (tTest (tOp rIsN (tVar 1) (tC .non))) (tAnd (tNot (tB (tCall (sp_is_whole K) [] E0 (tCons (tVar 6) (tCons (tC (.int 2)) (tCons (tC (.int 99)) tNil)))))) (tNot (tB (tCall (sp_is_whole K) [] E0 (tCons (tVar 6) (tCons (tC (.int 0)) (tCons (tC (.int 0)) tNil)))))))) (tAsg (tTup (tCons (tC (.str "fade")) (tCons (tC .non) tNil))) (gName 1)) tNext) (tRet (tVar 1)))))))))
def t_divided (K : PySem.W.Frag) : TS := (tRet (tIf (tTest (tOp (rI0 fun i j => .bl (decide (j ≤ i))) (tVar 0) (tC (.int 0)))) (tOp (rI CDivN fun i j => .int (i.fdiv j)) (tVar 0) (tVar 1)) (tUn (rU fun i => .int (-i)) (tOp (rI CDivN fun i j => .int (i.fdiv j)) (tUn (rU fun i => .int (-i)) (tVar 0)) (tVar 1)))))
def t_moved_by (K : PySem.W.Frag) : TS := (tRet (tCall (sp_divided K) [] E0 (tCons (tOp (rI CMul fun i j => .int (i * j)) (tOp (rIxT K) (tOp (rIxT K) (tOp (rIxT K) (tVar 0) (tC (.int 3))) (tVar 1)) (tC (.int 0))) (tOp (rIxT K) (tOp (rIxT K) (tVar 0) (tC (.int 2))) (tVar 2))) (tCons (tC (.int 8)) tNil))))
def t_next_state (K : PySem.W.Frag) : TS := (tSeq (tAsg (tVar 0) (gTup K 5 (gCons (gName 5) (gCons (gName 6) (gCons (gName 7) (gCons (gName 8) (gCons (gName 9) gNil))))))) (tSeq (tAsg (tVar 1) (gTup K 2 (gCons (gName 10) (gCons (gName 11) gNil)))) (tSeq (tAsg (tIf (tTest (tOp rEq (tVar 9) (tC (.int 0)))) (tVar 10) (tOp (rI0 fun i j => .int (i - j)) (tVar 10) (tCall (sp_divided K) [] E0 (tCons (tVar 10) (tCons (tVar 9) tNil))))) (gName 3)) (tSeq (tAsg (tOp (rI0 fun i j => .int (i + j)) (tVar 11) (tOp (rIxT K) (tOp (rIxT K) (tVar 8) (tVar 2)) (tC (.int 1)))) (gName 4)) (tRet (tTup (tCons (tCB rMinQ (tCons (tVar 6) (tCons (tCB rMaxQ (tCons (tVar 5) (tCons (tOp (rI0 fun i j => .int (i + j)) (tVar 3) (tCall (sp_moved_by K) [] E0 (tCons (tVar 0) (tCons (tVar 2) (tCons (tVar 11) tNil))))) tNil))) tNil))) (tCons (tCB rMinQ (tCons (tOp (rI0 fun i j => .int (i - j)) (tCB (rLenQ K) (tCons (tVar 7) tNil)) (tC (.int 1))) (tCons (tCB rMaxQ (tCons (tC (.int 0)) (tCons (tVar 4) tNil))) tNil))) tNil))))))))
def t_walked (K : PySem.W.Frag) : TS := (tSeq (tFor (iTup K (tVar 2)) (gName 3) (tAsg (tCall (sp_next_state K) [] E0 (tCons (tVar 0) (tCons (tVar 1) (tCons (tVar 3) tNil)))) (gName 1))) (tRet (tVar 1)))
def t_bk_level (K : PySem.W.Frag) : TS := (tSeq (tAsg (tIf (tTest (tOp (rI0 fun i j => .bl (decide (i < j))) (tVar 0) (tC (.int 0)))) (tOp (rI0 fun i j => .int (i + j)) (tVar 0) (tC (.int 65536))) (tVar 0)) (gName 1)) (tRet (tTup (tCons (tOp (rI CDivN fun i j => .int (i.fdiv j)) (tVar 1) (tC (.int 256))) (tCons (tOp (rI0 fun i j => .int (Builtin.bitAnd i j)) (tVar 1) (tC (.int 255))) tNil)))))
def t_bk_number (K : PySem.W.Frag) : TS := (tSeq (tAsg (tOp (rI0 fun i j => .int (i + j)) (tOp (rI CMul fun i j => .int (i * j)) (tC (.int 256)) (tVar 0)) (tVar 1)) (gName 2)) (tRet (tIf (tTest (tOp (rI0 fun i j => .bl (decide (j < i))) (tVar 0) (tC (.int 127)))) (tOp (rI0 fun i j => .int (i - j)) (tVar 2) (tC (.int 65536))) (tVar 2))))
def t_bk_is_byte (K : PySem.W.Frag) : TS := (tRet (tAndV (tOp (rI0 fun i j => .bl (decide (i < j))) (tVar 1) (tCB (rLenQ K) (tCons (tVar 0) tNil))) (tCall (sp_is_whole K) [] E0 (tCons (tOp (rIxT K) (tVar 0) (tVar 1)) (tCons (tVar 2) (tCons (tVar 3) tNil))))))
def t_bk_signed (K : PySem.W.Frag) : TS := (tRet (tIf (tTest (tOp (rI0 fun i j => .bl (decide (j < i))) (tVar 0) (tC (.int 127)))) (tOp (rI0 fun i j => .int (i - j)) (tVar 0) (tC (.int 256))) (tVar 0)))
def t_bk_head_fault (K : PySem.W.Frag) (mk : Addr) : TS := (tSeq (tFor (iEnumT K (tCons (tC (.ref mk)) tNil)) (gTup K 2 (gCons (gName 5) (gCons (gName 6) gNil))) (tIfS (tNot (tB (tCall (sp_bk_is_byte K) [] E0 (tCons (tVar 1) (tCons (tOp (rI0 fun i j => .int (i + j)) (tVar 2) (tVar 5)) (tCons (tVar 6) (tCons (tVar 6) tNil))))))) (tRet (tOp (rI0 fun i j => .int (i + j)) (tVar 2) (tVar 5))) tNext)) (tSeq (tAsg (tIf (tTest (tOp rIsN (tVar 3) (tC .non))) (tTup (tCons (tOp (rIxT K) (tVar 0) (tC (.int 0))) (tCons (tOp (rIxT K) (tVar 0) (tC (.int 1))) tNil))) (tTup (tCons (tOp (rIxT K) (tVar 3) (tC (.int 0))) (tCons (tOp (rIxT K) (tVar 3) (tC (.int 0))) tNil)))) (gTup K 2 (gCons (gName 7) (gCons (gName 8) gNil)))) (tSeq (tAsg (tLc (iTup K (tTup (tCons (tVar 7) (tCons (tVar 8) tNil)))) (gName 11) tYes (tCall (sp_bk_signed K) [] E0 (tCons (tOp (rIxT K) (tCall (sp_bk_level K) [] E0 (tCons (tVar 11) tNil)) (tC (.int 0))) tNil)) [11]) (gName 4)) (tSeq (tIfS (tOr (tNot (tB (tCall (sp_bk_is_byte K) [] E0 (tCons (tVar 1) (tCons (tOp (rI0 fun i j => .int (i + j)) (tVar 2) (tC (.int 2))) (tCons (tC (.int 0)) (tCons (tC (.int 255)) tNil))))))) (tNot (tTest (tChain (rI0 fun i j => .bl (decide (i ≤ j))) (rI0 fun i j => .bl (decide (i ≤ j))) (tOp (rIxL K) (tVar 4) (tC (.int 0))) (tCall (sp_bk_signed K) [] E0 (tCons (tOp (rIxT K) (tVar 1) (tOp (rI0 fun i j => .int (i + j)) (tVar 2) (tC (.int 2)))) tNil)) (tOp (rIxL K) (tVar 4) (tC (.int 1))))))) (tRet (tOp (rI0 fun i j => .int (i + j)) (tVar 2) (tC (.int 2)))) tNext) (tSeq (tIfS (tOr (tNot (tB (tCall (sp_bk_is_byte K) [] E0 (tCons (tVar 1) (tCons (tOp (rI0 fun i j => .int (i + j)) (tVar 2) (tC (.int 3))) (tCons (tC (.int 0)) (tCons (tC (.int 255)) tNil))))))) (tNot (tTest (tChain (rI0 fun i j => .bl (decide (i ≤ j))) (rI0 fun i j => .bl (decide (i ≤ j))) (tVar 7) (tCall (sp_bk_number K) [] E0 (tCons (tOp (rIxT K) (tVar 1) (tOp (rI0 fun i j => .int (i + j)) (tVar 2) (tC (.int 2)))) (tCons (tOp (rIxT K) (tVar 1) (tOp (rI0 fun i j => .int (i + j)) (tVar 2) (tC (.int 3)))) tNil))) (tVar 8))))) (tRet (tOp (rI0 fun i j => .int (i + j)) (tVar 2) (tC (.int 3)))) tNext) (tSeq (tAsg (tIf (tTest (tOp rIsN (tVar 3) (tC .non))) (tTup (tCons (tC (.int 0)) (tCons (tOp (rI0 fun i j => .int (i - j)) (tCB (rLenQ K) (tCons (tOp (rIxT K) (tVar 0) (tC (.int 2))) tNil)) (tC (.int 1))) tNil))) (tTup (tCons (tOp (rIxT K) (tVar 3) (tC (.int 1))) (tCons (tOp (rIxT K) (tVar 3) (tC (.int 1))) tNil)))) (gTup K 2 (gCons (gName 9) (gCons (gName 10) gNil)))) (tSeq (tIfS (tNot (tB (tCall (sp_bk_is_byte K) [] E0 (tCons (tVar 1) (tCons (tOp (rI0 fun i j => .int (i + j)) (tVar 2) (tC (.int 4))) (tCons (tVar 9) (tCons (tVar 10) tNil))))))) (tRet (tOp (rI0 fun i j => .int (i + j)) (tVar 2) (tC (.int 4)))) tNext) (tRet (tIf (tB (tCall (sp_bk_is_byte K) [] E0 (tCons (tVar 1) (tCons (tOp (rI0 fun i j => .int (i + j)) (tVar 2) (tC (.int 5))) (tCons (tC (.int 1)) (tCons (tC (.int 255)) tNil)))))) (tC .non) (tOp (rI0 fun i j => .int (i + j)) (tVar 2) (tC (.int 5))))))))))))
def t_bk_codes (K : PySem.W.Frag) : TS := (tSeq (tAsg (tLst tNil) (gName 4)) (tSeq (tFor (iRng1 (tCons (tOp (rI CDivN fun i j => .int (i.fdiv j)) (tOp (rI0 fun i j => .int (i + j)) (tVar 3) (tC (.int 1))) (tC (.int 2))) tNil)) (gName 5) (tSeq (tAsg (tOp (rI0 fun i j => .int (i + j)) (tVar 2) (tVar 5)) (gName 6)) (tSeq (tIfS (tNot (tB (tCall (sp_bk_is_byte K) [] E0 (tCons (tVar 1) (tCons (tVar 6) (tCons (tC (.int 0)) (tCons (tC (.int 255)) tNil))))))) (tRet (tTup (tCons (tVar 4) (tCons (tVar 6) tNil)))) tNext) (tSeq (tAsg (tLst (tCons (tOp (rI0 fun i j => .int (Builtin.bitAnd i j)) (tOp (rIxT K) (tVar 1) (tVar 6)) (tC (.int 15))) (tCons (tOp (rI (fun _ j => 0 ≤ j) fun i j => .int (i / 2 ^ j.toNat)) (tOp (rIxT K) (tVar 1) (tVar 6)) (tC (.int 4))) tNil))) (gName 7)) (tSeq (tIfS (tOr (tTest (tOp (rI0 fun i j => .bl (decide (j ≤ i))) (tOp (rIxL K) (tVar 7) (tC (.int 0))) (tCB (rLenQ K) (tCons (tOp (rIxT K) (tVar 0) (tC (.int 3))) tNil)))) (tOr (tTest (tOp (rI0 fun i j => .bl (decide (j ≤ i))) (tOp (rIxL K) (tVar 7) (tC (.int 1))) (tCB (rLenQ K) (tCons (tOp (rIxT K) (tVar 0) (tC (.int 3))) tNil)))) (tAnd (tTest (tOp rEq (tOp (rI0 fun i j => .int (i + j)) (tOp (rI CMul fun i j => .int (i * j)) (tC (.int 2)) (tVar 5)) (tC (.int 1))) (tVar 3))) (tTest (tOp rNe (tOp (rIxL K) (tVar 7) (tC (.int 1))) (tC (.int 0))))))) (tRet (tTup (tCons (tVar 4) (tCons (tVar 6) tNil)))) tNext) (tAsg (tOp rCat (tVar 4) (tVar 7)) (gName 4))))))) (tRet (tTup (tCons (tSl (rSlL K) (tVar 4) tNoPart (tPart (tVar 3))) (tCons (tC .non) tNil))))))
def t_bk_read (K : PySem.W.Frag) : TS := (tSeq (tAsg (tCall (sp_bk_head_fault K) [] E0 (tCons (tVar 0) (tCons (tVar 1) (tCons (tVar 2) (tCons (tVar 3) tNil))))) (gName 4)) (tSeq (tIfS (tTest (tOp rNotN (tVar 4) (tC .non))) (tRet (tTup (tCons (tVar 4) (tCons (tC .non) (tCons (tC .non) tNil))))) tNext) (tSeq (tAsg (tOp (rIxT K) (tVar 1) (tOp (rI0 fun i j => .int (i + j)) (tVar 2) (tC (.int 5)))) (gName 5)) (tSeq (tAsg (tCall (sp_bk_codes K) [] E0 (tCons (tVar 0) (tCons (tVar 1) (tCons (tOp (rI0 fun i j => .int (i + j)) (tVar 2) (tC (.int 6))) (tCons (tVar 5) tNil))))) (gTup K 2 (gCons (gName 8) (gCons (gName 4) gNil)))) (tSeq (tIfS (tTest (tOp rNotN (tVar 4) (tC .non))) (tRet (tTup (tCons (tVar 4) (tCons (tC .non) (tCons (tC .non) tNil))))) tNext) (tSeq (tAsg (tOp (rI0 fun i j => .int (i + j)) (tOp (rI0 fun i j => .int (i + j)) (tVar 2) (tC (.int 6))) (tOp (rI CDivN fun i j => .int (i.fdiv j)) (tOp (rI0 fun i j => .int (i + j)) (tVar 5) (tC (.int 1))) (tC (.int 2)))) (gName 6)) (tSeq (tAsg (tOp (rI0 fun i j => .int (Builtin.bitAnd i j)) (tCB (rSumT K) (tCons (tSl (rSlA K) (tVar 1) (tPart (tOp (rI0 fun i j => .int (i + j)) (tVar 2) (tC (.int 2)))) (tPart (tVar 6))) tNil)) (tC (.int 255))) (gName 7)) (tSeq (tIfS (tNot (tB (tCall (sp_bk_is_byte K) [] E0 (tCons (tVar 1) (tCons (tVar 6) (tCons (tVar 7) (tCons (tVar 7) tNil))))))) (tRet (tTup (tCons (tVar 6) (tCons (tC .non) (tCons (tC .non) tNil))))) tNext) (tRet (tTup (tCons (tOp (rI0 fun i j => .int (i + j)) (tVar 6) (tC (.int 1))) (tCons (tTup (tCons (tCall (sp_bk_number K) [] E0 (tCons (tOp (rIxT K) (tVar 1) (tOp (rI0 fun i j => .int (i + j)) (tVar 2) (tC (.int 2)))) (tCons (tOp (rIxT K) (tVar 1) (tOp (rI0 fun i j => .int (i + j)) (tVar 2) (tC (.int 3)))) tNil))) (tCons (tOp (rIxT K) (tVar 1) (tOp (rI0 fun i j => .int (i + j)) (tVar 2) (tC (.int 4)))) tNil))) (tCons (tCB (rTupQ K) (tCons (tVar 8) tNil)) tNil)))))))))))))
def t_law_parted (K : PySem.W.Frag) : TS := (tRet (tIf (tTest (tOp (rI0 fun i j => .bl (decide (j ≤ i))) (tVar 0) (tC (.int 0)))) (tOp (rI CDivN fun i j => .int (i.fdiv j)) (tVar 0) (tVar 1)) (tOp (rI0 fun i j => .int (i - j)) (tC (.int 0)) (tOp (rI CDivN fun i j => .int (i.fdiv j)) (tOp (rI0 fun i j => .int (i - j)) (tC (.int 0)) (tVar 0)) (tVar 1)))))
def t_law_limited (K : PySem.W.Frag) : TS := (tRet (tIf (tTest (tOp (rI0 fun i j => .bl (decide (i < j))) (tVar 0) (tVar 1))) (tVar 1) (tIf (tTest (tOp (rI0 fun i j => .bl (decide (j < i))) (tVar 0) (tVar 2))) (tVar 2) (tVar 0))))
def t_law_led (K : PySem.W.Frag) : TS := (tSeq (tAsg (tOp (rIxT K) (tOp (rIxT K) (tVar 0) (tC (.int 3))) (tVar 2)) (gTup K 2 (gCons (gName 4) (gCons (gName 5) gNil)))) (tSeq (tAsg (tOp (rIxT K) (tVar 1) (tC (.int 0))) (gName 3)) (tSeq (tIfS (tTest (tOp rNe (tOp (rIxT K) (tVar 0) (tC (.int 4))) (tC (.int 0)))) (tAsg (tOp (rI0 fun i j => .int (i - j)) (tVar 3) (tCall (sp_law_parted K) [] E0 (tCons (tVar 3) (tCons (tOp (rIxT K) (tVar 0) (tC (.int 4))) tNil)))) (gName 3)) tNext) (tSeq (tAsg (tOp (rI0 fun i j => .int (i + j)) (tVar 3) (tCall (sp_law_parted K) [] E0 (tCons (tOp (rI CMul fun i j => .int (i * j)) (tVar 4) (tOp (rIxT K) (tOp (rIxT K) (tVar 0) (tC (.int 2))) (tOp (rIxT K) (tVar 1) (tC (.int 1))))) (tCons (tC (.int 8)) tNil)))) (gName 3)) (tRet (tTup (tCons (tCall (sp_law_limited K) [] E0 (tCons (tVar 3) (tCons (tOp (rIxT K) (tVar 0) (tC (.int 0))) (tCons (tOp (rIxT K) (tVar 0) (tC (.int 1))) tNil)))) (tCons (tCall (sp_law_limited K) [] E0 (tCons (tOp (rI0 fun i j => .int (i + j)) (tOp (rIxT K) (tVar 1) (tC (.int 1))) (tVar 5)) (tCons (tC (.int 0)) (tCons (tOp (rI0 fun i j => .int (i - j)) (tCB (rLenQ K) (tCons (tOp (rIxT K) (tVar 0) (tC (.int 2))) tNil)) (tC (.int 1))) tNil)))) tNil))))))))
def t_law_walked (K : PySem.W.Frag) : TS := (tSeq (tAsg (tLst (tCons (tVar 1) tNil)) (gName 3)) (tSeq (tFor (iTup K (tVar 2)) (gName 4) (tDrop (tBM K "list" rAppend (tVar 3) (tCons (tCall (sp_law_led K) [] E0 (tCons (tVar 0) (tCons (tOp (rIxL K) (tVar 3) (tUn (rU fun i => .int (-i)) (tC (.int 1)))) (tCons (tVar 4) tNil)))) tNil)))) (tRet (tVar 3))))
def t_law_some_state (K : PySem.W.Frag) : TS := (tRet (tTup (tCons (tOp (rI0 fun i j => .int (i + j)) (tOp (rIxT K) (tVar 1) (tC (.int 0))) (tCall (sp_law_next K) [] E0 (tCons (tVar 0) (tCons (tOp (rI0 fun i j => .int (i + j)) (tOp (rI0 fun i j => .int (i - j)) (tOp (rIxT K) (tVar 1) (tC (.int 1))) (tOp (rIxT K) (tVar 1) (tC (.int 0)))) (tC (.int 1))) tNil)))) (tCons (tCall (sp_law_next K) [] E0 (tCons (tVar 0) (tCons (tCB (rLenQ K) (tCons (tOp (rIxT K) (tVar 1) (tC (.int 2))) tNil)) tNil))) tNil))))
def t_law_row (K : PySem.W.Frag) : TS := (tRet (tCB (rTupQ K) (tCons (tLc (iRng1 (tCons (tCall (sp_law_next K) [] E0 (tCons (tVar 0) (tCons (tOp (rI0 fun i j => .int (i + j)) (tVar 2) (tC (.int 1))) tNil))) tNil)) (gName 3) tYes (tCall (sp_law_next K) [] E0 (tCons (tVar 0) (tCons (tCB (rLenQ K) (tCons (tOp (rIxT K) (tVar 1) (tC (.int 3))) tNil)) tNil))) [3]) tNil)))
def t_law_is_whole (K : PySem.W.Frag) : TS := (tRet (tAndV (tCB (rIsi K) (tCons (tVar 0) (tCons (tC (.ty "int")) tNil))) (tAndV (tNotV (tCB (rIsi K) (tCons (tVar 0) (tCons (tC (.ty "bool")) tNil)))) (tChain (rI0 fun i j => .bl (decide (i ≤ j))) (rI0 fun i j => .bl (decide (i ≤ j))) (tVar 1) (tVar 0) (tVar 2)))))
def t_law_great_coder (K : PySem.W.Frag) : TS := (tSeq (tAsg (tOp (rIxL K) (tLst (tCons (tC (.int 3)) (tCons (tC (.int 300)) (tCons (tC (.int 4000)) (tCons (tC (.int 32767)) tNil))))) (tCall (sp_law_next K) [] E0 (tCons (tVar 0) (tCons (tC (.int 4)) tNil)))) (gName 1)) (tSeq (tPar 5 6 (tCons (tOp (rI0 fun i j => .int (i - j)) (tC (.int 0)) (tCall (sp_law_next K) [] E0 (tCons (tVar 0) (tCons (tOp (rI0 fun i j => .int (i + j)) (tVar 1) (tC (.int 1))) tNil)))) (tCons (tCall (sp_law_next K) [] E0 (tCons (tVar 0) (tCons (tOp (rI0 fun i j => .int (i + j)) (tVar 1) (tC (.int 1))) tNil))) tNil))) (tSeq (tAsg (tLc (iRng1 (tCons (tOp (rIxL K) (tLst (tCons (tC (.int 1)) (tCons (tC (.int 2)) (tCons (tC (.int 16)) tNil)))) (tCall (sp_law_next K) [] E0 (tCons (tVar 0) (tCons (tC (.int 3)) tNil)))) tNil)) (gName 4) tYes (tOp (rI0 fun i j => .int (i + j)) (tC (.int 1)) (tCall (sp_law_next K) [] E0 (tCons (tVar 0) (tCons (tC (.int 9999)) tNil)))) [4]) (gName 2)) (tSeq (tAsg (tLst tNil) (gName 3)) (tSeq (tFor (iRng1 (tCons (tOp (rIxL K) (tLst (tCons (tC (.int 2)) (tCons (tC (.int 5)) (tCons (tC (.int 15)) (tCons (tC (.int 16)) tNil))))) (tCall (sp_law_next K) [] E0 (tCons (tVar 0) (tCons (tC (.int 4)) tNil)))) tNil)) (gName 4) (tDrop (tBM K "list" rAppend (tVar 3) (tCons (tTup (tCons (tOp (rI0 fun i j => .int (i - j)) (tCall (sp_law_next K) [] E0 (tCons (tVar 0) (tCons (tC (.int 33)) tNil))) (tC (.int 16))) (tCons (tOp (rI0 fun i j => .int (i - j)) (tCall (sp_law_next K) [] E0 (tCons (tVar 0) (tCons (tC (.int 7)) tNil))) (tC (.int 3))) tNil))) tNil)))) (tRet (tTup (tCons (tVar 5) (tCons (tVar 6) (tCons (tCB (rTupQ K) (tCons (tVar 2) tNil)) (tCons (tCB (rTupQ K) (tCons (tVar 3) tNil)) (tCons (tOp (rIxL K) (tLst (tCons (tC (.int 0)) (tCons (tC (.int 2)) (tCons (tC (.int 7)) tNil)))) (tCall (sp_law_next K) [] E0 (tCons (tVar 0) (tCons (tC (.int 3)) tNil)))) tNil))))))))))))
def t_law_block (K : PySem.W.Frag) : TS := (tSeq (tPar 4 5 (tCons (tOp (rI (fun _ j => j ≠ 0) fun i j => .int (i.fmod j)) (tOp (rIxT K) (tVar 0) (tC (.int 0))) (tC (.int 65536))) (tCons (tLst tNil) tNil))) (tSeq (tFor (iRng1 (tCons (tOp (rI CDivN fun i j => .int (i.fdiv j)) (tOp (rI0 fun i j => .int (i + j)) (tCB (rLenQ K) (tCons (tVar 1) tNil)) (tC (.int 1))) (tC (.int 2))) tNil)) (gName 2) (tDrop (tBM K "list" rAppend (tVar 5) (tCons (tOp (rI0 fun i j => .int (i + j)) (tOp (rIxT K) (tVar 1) (tOp (rI CMul fun i j => .int (i * j)) (tC (.int 2)) (tVar 2))) (tIf (tTest (tOp (rI0 fun i j => .bl (decide (i < j))) (tOp (rI0 fun i j => .int (i + j)) (tOp (rI CMul fun i j => .int (i * j)) (tC (.int 2)) (tVar 2)) (tC (.int 1))) (tCB (rLenQ K) (tCons (tVar 1) tNil)))) (tOp (rI CMul fun i j => .int (i * j)) (tC (.int 16)) (tOp (rIxT K) (tVar 1) (tOp (rI0 fun i j => .int (i + j)) (tOp (rI CMul fun i j => .int (i * j)) (tC (.int 2)) (tVar 2)) (tC (.int 1))))) (tC (.int 0)))) tNil)))) (tSeq (tAsg (tOp rCat (tLst (tCons (tOp (rI CDivN fun i j => .int (i.fdiv j)) (tVar 4) (tC (.int 256))) (tCons (tOp (rI (fun _ j => j ≠ 0) fun i j => .int (i.fmod j)) (tVar 4) (tC (.int 256))) (tCons (tOp (rIxT K) (tVar 0) (tC (.int 1))) (tCons (tCB (rLenQ K) (tCons (tVar 1) tNil)) tNil))))) (tVar 5)) (gName 3)) (tRet (tOp (rCatA K) (tOp (rCatA K) (tTup (tCons (tC (.int 165)) (tCons (tC (.int 90)) tNil))) (tCB (rTupQ K) (tCons (tVar 3) tNil))) (tTup (tCons (tOp (rI (fun _ j => j ≠ 0) fun i j => .int (i.fmod j)) (tCB (rSum K) (tCons (tVar 3) tNil)) (tC (.int 256))) tNil)))))))
def t_law_file (K : PySem.W.Frag) : TS := (tSeq (tAsg (tTup (tCons (tTup tNil) (tCons (tC (.int 0)) (tCons (tC (.int 0)) tNil)))) (gTup K 3 (gCons (gName 4) (gCons (gName 5) (gCons (gName 6) gNil))))) (tSeq (tWhile (tTest (tOp (rI0 fun i j => .bl (decide (i < j))) (tVar 5) (tCB (rLenQ K) (tCons (tVar 1) tNil)))) (tSeq (tAsg (tIf (tTest (tOp (rI0 fun i j => .bl (decide (i < j))) (tVar 6) (tCB (rLenQ K) (tCons (tVar 2) tNil)))) (tOp (rIxL K) (tVar 2) (tVar 6)) (tOp (rIxL K) (tVar 2) (tUn (rU fun i => .int (-i)) (tC (.int 1))))) (gName 7)) (tSeq (tAsg (tOp (rCatA K) (tVar 4) (tCall (sp_law_block K) [] E0 (tCons (tVar 3) (tCons (tSl (rSlA K) (tVar 1) (tPart (tVar 5)) (tPart (tOp (rI0 fun i j => .int (i + j)) (tVar 5) (tVar 7)))) tNil)))) (gName 4)) (tSeq (tAsg (tOp (rIxL K) (tCall (sp_law_walked K) [] E0 (tCons (tVar 0) (tCons (tVar 3) (tCons (tSl (rSlA K) (tVar 1) (tPart (tVar 5)) (tPart (tOp (rI0 fun i j => .int (i + j)) (tVar 5) (tVar 7)))) tNil)))) (tUn (rU fun i => .int (-i)) (tC (.int 1)))) (gName 3)) (tPar 5 6 (tCons (tOp (rI0 fun i j => .int (i + j)) (tVar 5) (tVar 7)) (tCons (tOp (rI0 fun i j => .int (i + j)) (tVar 6) (tC (.int 1))) tNil))))))) (tRet (tVar 4))))
def t_law_block_read (K : PySem.W.Frag) : TS := (tSeq (tAsg (tOp rCat (tCB (rListQ K) (tCons (tSl (rSlA K) (tVar 1) (tPart (tVar 2)) tNoPart) tNil)) (tOp rRep (tLst (tCons (tC .non) tNil)) (tC (.int 6)))) (gName 4)) (tSeq (tFor (iRng1 (tCons (tC (.int 2)) tNil)) (gName 5) (tIfS (tNot (tB (tCall (sp_law_is_whole K) [] E0 (tCons (tOp (rIxL K) (tVar 4) (tVar 5)) (tCons (tOp (rIxT K) (tTup (tCons (tC (.int 165)) (tCons (tC (.int 90)) tNil))) (tVar 5)) (tCons (tOp (rIxT K) (tTup (tCons (tC (.int 165)) (tCons (tC (.int 90)) tNil))) (tVar 5)) tNil)))))) (tRet (tOp (rI0 fun i j => .int (i + j)) (tVar 2) (tVar 5))) tNext)) (tSeq (tAsg (tIf (tTest (tOp rIsN (tVar 3) (tC .non))) (tTup (tCons (tOp (rIxT K) (tVar 0) (tC (.int 0))) (tCons (tOp (rIxT K) (tVar 0) (tC (.int 1))) tNil))) (tTup (tCons (tOp (rIxT K) (tVar 3) (tC (.int 0))) (tCons (tOp (rIxT K) (tVar 3) (tC (.int 0))) tNil)))) (gTup K 2 (gCons (gName 7) (gCons (gName 8) gNil)))) (tSeq (tIfS (tNot (tB (tCall (sp_law_is_whole K) [] E0 (tCons (tOp (rIxL K) (tVar 4) (tC (.int 2))) (tCons (tC (.int 0)) (tCons (tC (.int 255)) tNil)))))) (tRet (tOp (rI0 fun i j => .int (i + j)) (tVar 2) (tC (.int 2)))) tNext) (tSeq (tAsg (tOp (rI CMul fun i j => .int (i * j)) (tC (.int 256)) (tOp (rI0 fun i j => .int (i - j)) (tOp (rIxL K) (tVar 4) (tC (.int 2))) (tOp (rI CMul fun i j => .int (i * j)) (tC (.int 256)) (tOp (rI CDivN fun i j => .int (i.fdiv j)) (tOp (rIxL K) (tVar 4) (tC (.int 2))) (tC (.int 128)))))) (gName 6)) (tSeq (tIfS (tOr (tTest (tOp (rI0 fun i j => .bl (decide (j < i))) (tVar 6) (tVar 8))) (tTest (tOp (rI0 fun i j => .bl (decide (i < j))) (tOp (rI0 fun i j => .int (i + j)) (tVar 6) (tC (.int 255))) (tVar 7)))) (tRet (tOp (rI0 fun i j => .int (i + j)) (tVar 2) (tC (.int 2)))) tNext) (tSeq (tIfS (tOr (tNot (tB (tCall (sp_law_is_whole K) [] E0 (tCons (tOp (rIxL K) (tVar 4) (tC (.int 3))) (tCons (tC (.int 0)) (tCons (tC (.int 255)) tNil)))))) (tNot (tTest (tChain (rI0 fun i j => .bl (decide (i ≤ j))) (rI0 fun i j => .bl (decide (i ≤ j))) (tVar 7) (tOp (rI0 fun i j => .int (i + j)) (tVar 6) (tOp (rIxL K) (tVar 4) (tC (.int 3)))) (tVar 8))))) (tRet (tOp (rI0 fun i j => .int (i + j)) (tVar 2) (tC (.int 3)))) tNext) (tSeq (tIfS (tOr (tNot (tB (tCall (sp_law_is_whole K) [] E0 (tCons (tOp (rIxL K) (tVar 4) (tC (.int 4))) (tCons (tC (.int 0)) (tCons (tOp (rI0 fun i j => .int (i - j)) (tCB (rLenQ K) (tCons (tOp (rIxT K) (tVar 0) (tC (.int 2))) tNil)) (tC (.int 1))) tNil)))))) (tAnd (tTest (tOp rNotN (tVar 3) (tC .non))) (tTest (tOp rNe (tOp (rIxL K) (tVar 4) (tC (.int 4))) (tOp (rIxT K) (tVar 3) (tC (.int 1))))))) (tRet (tOp (rI0 fun i j => .int (i + j)) (tVar 2) (tC (.int 4)))) tNext) (tSeq (tIfS (tNot (tB (tCall (sp_law_is_whole K) [] E0 (tCons (tOp (rIxL K) (tVar 4) (tC (.int 5))) (tCons (tC (.int 1)) (tCons (tC (.int 255)) tNil)))))) (tRet (tOp (rI0 fun i j => .int (i + j)) (tVar 2) (tC (.int 5)))) tNext) (tSeq (tPar3 9 10 11 (tCons (tOp (rIxL K) (tVar 4) (tC (.int 5))) (tCons (tLst tNil) (tCons (tOp (rI0 fun i j => .int (i + j)) (tVar 2) (tC (.int 6))) tNil)))) (tSeq (tWhile (tTest (tOp (rI0 fun i j => .bl (decide (i < j))) (tCB (rLenQ K) (tCons (tVar 10) tNil)) (tVar 9))) (tSeq (tAsg (tIf (tTest (tOp (rI0 fun i j => .bl (decide (i < j))) (tVar 11) (tCB (rLenQ K) (tCons (tVar 1) tNil)))) (tOp (rIxT K) (tVar 1) (tVar 11)) (tC .non)) (gName 12)) (tSeq (tIfS (tOr (tNot (tB (tCall (sp_law_is_whole K) [] E0 (tCons (tVar 12) (tCons (tC (.int 0)) (tCons (tC (.int 255)) tNil)))))) (tTest (tOp (rI0 fun i j => .bl (decide (j ≤ i))) (tOp (rI (fun _ j => j ≠ 0) fun i j => .int (i.fmod j)) (tVar 12) (tC (.int 16))) (tCB (rLenQ K) (tCons (tOp (rIxT K) (tVar 0) (tC (.int 3))) tNil))))) (tRet (tVar 11)) tNext) (tSeq (tIfS (tTest (tOp (rI0 fun i j => .bl (decide (j ≤ i))) (tOp (rI CDivN fun i j => .int (i.fdiv j)) (tVar 12) (tC (.int 16))) (tIf (tTest (tOp (rI0 fun i j => .bl (decide (i < j))) (tOp (rI0 fun i j => .int (i + j)) (tCB (rLenQ K) (tCons (tVar 10) tNil)) (tC (.int 1))) (tVar 9))) (tCB (rLenQ K) (tCons (tOp (rIxT K) (tVar 0) (tC (.int 3))) tNil)) (tC (.int 1))))) (tRet (tVar 11)) tNext) (tPar 10 11 (tCons (tOp rCat (tVar 10) (tLst (tCons (tOp (rI (fun _ j => j ≠ 0) fun i j => .int (i.fmod j)) (tVar 12) (tC (.int 16))) (tCons (tOp (rI CDivN fun i j => .int (i.fdiv j)) (tVar 12) (tC (.int 16))) tNil)))) (tCons (tOp (rI0 fun i j => .int (i + j)) (tVar 11) (tC (.int 1))) tNil))))))) (tSeq (tIfS (tOr (tTest (tOp rEq (tVar 11) (tCB (rLenQ K) (tCons (tVar 1) tNil)))) (tNot (tB (tCall (sp_law_is_whole K) [] E0 (tCons (tOp (rIxT K) (tVar 1) (tVar 11)) (tCons (tC (.int 0)) (tCons (tC (.int 255)) tNil))))))) (tRet (tVar 11)) tNext) (tSeq (tIfS (tTest (tOp rNe (tOp (rIxT K) (tVar 1) (tVar 11)) (tOp (rI (fun _ j => j ≠ 0) fun i j => .int (i.fmod j)) (tCB (rSumT K) (tCons (tSl (rSlA K) (tVar 1) (tPart (tOp (rI0 fun i j => .int (i + j)) (tVar 2) (tC (.int 2)))) (tPart (tVar 11))) tNil)) (tC (.int 256))))) (tRet (tVar 11)) tNext) (tRet (tTup (tCons (tOp (rI0 fun i j => .int (i + j)) (tVar 11) (tC (.int 1))) (tCons (tTup (tCons (tOp (rI0 fun i j => .int (i + j)) (tVar 6) (tOp (rIxL K) (tVar 4) (tC (.int 3)))) (tCons (tOp (rIxL K) (tVar 4) (tC (.int 4))) tNil))) (tCons (tCB (rTupQ K) (tCons (tSl (rSlL K) (tVar 10) tNoPart (tPart (tVar 9))) tNil)) tNil))))))))))))))))))
def t_law_pieces (K : PySem.W.Frag) : TS := (tSeq (tAsg (tTup tNil) (gName 3)) (tSeq (tFor (iRng1 (tCons (tOp (rI0 fun i j => .int (i + j)) (tC (.int 1)) (tCall (sp_law_next K) [] E0 (tCons (tVar 0) (tCons (tVar 2) tNil)))) tNil)) (gName 4) (tSeq (tAsg (tLst (tCons (tOp (rI0 fun i j => .int (i + j)) (tC (.int 1)) (tCall (sp_law_next K) [] E0 (tCons (tVar 0) (tCons (tOp (rIxL K) (tLst (tCons (tC (.int 3)) (tCons (tC (.int 9)) (tCons (tC (.int 255)) tNil)))) (tCall (sp_law_next K) [] E0 (tCons (tVar 0) (tCons (tC (.int 3)) tNil)))) tNil)))) tNil)) (gName 5)) (tAsg (tOp (rCatA K) (tVar 3) (tCall (sp_law_file K) [] E0 (tCons (tVar 1) (tCons (tCall (sp_law_row K) [] E0 (tCons (tVar 0) (tCons (tVar 1) (tCons (tC (.int 14)) tNil)))) (tCons (tVar 5) (tCons (tCall (sp_law_some_state K) [] E0 (tCons (tVar 0) (tCons (tVar 1) tNil))) tNil)))))) (gName 3)))) (tRet (tVar 3))))
def t_law_due (K : PySem.W.Frag) : TS := (tSeq (tAsg (tTup (tCons (tC (.int 0)) (tCons (tTup (tCons (tC (.int 0)) (tCons (tC (.int 0)) tNil))) (tCons (tC .non) (tCons (tTup tNil) tNil))))) (gTup K 4 (gCons (gName 2) (gCons (gName 3) (gCons (gName 4) (gCons (gName 5) gNil)))))) (tSeq (tWhile (tTest (tOp (rI0 fun i j => .bl (decide (i < j))) (tVar 2) (tCB (rLenQ K) (tCons (tVar 1) tNil)))) (tSeq (tAsg (tCall (sp_law_block_read K) [] E0 (tCons (tVar 0) (tCons (tVar 1) (tCons (tVar 2) (tCons (tVar 4) tNil))))) (gName 6)) (tSeq (tIfS (tNot (tB (tCB (rIsi K) (tCons (tVar 6) (tCons (tC (.ty "tuple")) tNil))))) (tRet (tTup (tCons (tC (.str "byte")) (tCons (tVar 6) tNil)))) tNext) (tSeq (tAsg (tIf (tTest (tOp rIsN (tVar 4) (tC .non))) (tOp (rIxT K) (tVar 6) (tC (.int 1))) (tVar 3)) (gName 3)) (tSeq (tPar 2 5 (tCons (tOp (rIxT K) (tVar 6) (tC (.int 0))) (tCons (tOp (rCatA K) (tVar 5) (tOp (rIxT K) (tVar 6) (tC (.int 2)))) tNil))) (tAsg (tOp (rIxL K) (tCall (sp_law_walked K) [] E0 (tCons (tVar 0) (tCons (tOp (rIxT K) (tVar 6) (tC (.int 1))) (tCons (tOp (rIxT K) (tVar 6) (tC (.int 2))) tNil)))) (tUn (rU fun i => .int (-i)) (tC (.int 1)))) (gName 4))))))) (tRet (tLst (tCons (tTup (tCons (tVar 3) (tCons (tVar 5) tNil))) tNil)))))
end Kt
set_option Elab.async false
set_option linter.all false
set_option maxRecDepth 100000
set_option maxHeartbeats 4000000
namespace Kt
open PySem PySem.Spec PyProof.Rows L2
section
variable {K : PySem.W.Frag} {M : Mode} {d : PyData} {ds : List PyData} {c : Cd} {s : St2} {k l m i j p : Int} {a n many : Nat} {row : List Int} {st : Option St2} {ρ : En} {te : TE} {tt : TT} {b : Bool}
theorem kII : kitB "int" "int" = some true := by decide +kernel
theorem kIB : kitB "int" "bool" = some false := by decide +kernel
theorem kBI : kitB "bool" "int" = some true := by decide +kernel
theorem kBB : kitB "bool" "bool" = some true := by decide +kernel
theorem kNI : kitB "NoneType" "int" = some false := by decide +kernel
theorem kSI : kitB "str" "int" = some false := by decide +kernel
theorem kLI : kitB "list" "int" = some false := by decide +kernel
theorem kTI : kitB "tuple" "int" = some false := by decide +kernel
theorem kDI : kitB "dict" "int" = some false := by decide +kernel
theorem kTT : kitB "tuple" "tuple" = some true := by decide +kernel
theorem kIT : kitB "int" "tuple" = some false := by decide +kernel
theorem sv_is_whole (h : d ≠ markD) : SV K M 0 (t_is_whole K) [some d, some (.int l), some (.int m)] (· = .rt (.bool (whole d l m))) := by
  have no : ∀ {n : String}, tyOf d = n → kitB n "int" = some false → whole d l m = false → SV K M 0 (t_is_whole K) [some d, some (.int l), some (.int m)] (· = .rt (.bool (whole d l m))) := fun {n} e kk w =>
    s_retD ((e_andV (b1 := false) (b2 := false) (e_isi (e_var rfl) h (by rw [e]; exact kk)) (fun z => nomatch z)).eq (by rw [w]; rfl)) rfl
  cases d with
  | int i => exact s_retD (e_andV (e_isi (e_var rfl) h kII) fun _ => (e_andV (e_notV (e_isi (e_var rfl) h kIB)) fun _ => e_chain (e_var rfl) (e_var rfl) (e_var rfl) rd_le fun _ => rd_le)) rfl
  | bool b => exact s_retD ((e_andV (b2 := false) (e_isi (e_var rfl) h kBI) fun _ => (e_andV (b2 := false) (e_notV (e_isi (e_var rfl) h kBB)) fun z => nomatch z)).eq rfl) rfl
  | none => exact no rfl kNI rfl
  | str x => exact no rfl kSI rfl
  | list x => exact no rfl kLI rfl
  | tuple x => exact no rfl kTI rfl
  | dict x => exact no rfl kDI rfl
theorem sv_law_is_whole (h : d ≠ markD) : SV K M 0 (t_law_is_whole K) [some d, some (.int l), some (.int m)] (· = .rt (.bool (whole d l m))) := sv_is_whole h
theorem e_neg (h : E K M te ρ (.int i)) : E K M (tUn (rU fun i => .int (-i)) te) ρ (.int (-i)) := e_un h fun W H v e iv Q q => by
  cases iv
  exact ⟨i, rfl, q _ _ W H (Up.refl e) rfl (.int _)⟩
theorem tup_ne {ds : List PyData} : PyData.tuple ds ≠ markD := fun z => nomatch z
theorem int_ne : PyData.int i ≠ markD := fun z => nomatch z
theorem e_call_pf {α : Type} {args : α → List PyData} {pre : α → Prop} {res : α → PyData} {ts : TA} {X : XK} (x : α) (hp : pre x) (ha : A K M ts ρ (args x)) : E K M (tCall (PF K args pre res) [] X ts) ρ (res x) := e_call ha (sd_PF x hp)
theorem e_whole {ts : TA} {X : XK} (h : d ≠ markD) (ha : A K M ts ρ [d, .int l, .int m]) : E K M (tCall (sp_is_whole K) [] X ts) ρ (.bool (whole d l m)) := e_call_pf (d, l, m) h ha
theorem whole_int (h : l ≤ i ∧ i ≤ m) : whole (.int i) l m = true := by
  show (decide (l ≤ i) && decide (i ≤ m)) = true
  rw [decide_eq_true h.1, decide_eq_true h.2]; rfl
theorem e_len (h : E K M te ρ (.tuple ds)) : E K M (tCB (rLenQ K) (tCons te tNil)) ρ (.int ds.length) := e_callB (a_cons h a_nil) cd_lenT
theorem e_lenL (h : E K M te ρ (.list ds)) : E K M (tCB (rLenQ K) (tCons te tNil)) ρ (.int ds.length) := e_callB (a_cons h a_nil) cd_lenL
theorem sv_cd_is_move {m : Int × Int} (h : (-32 ≤ m.1 ∧ m.1 ≤ 32) ∧ (-15 ≤ m.2 ∧ m.2 ≤ 15)) : SV K M 0 (t_cd_is_move K) [some (mvD m)] (· = .rt (.bool true)) :=
  s_retD ((e_andV (e_isi (e_var rfl) tup_ne kTT) fun _ => (e_andV (b1 := decide (((2 : Nat) : Int) = 2)) (e_op (e_len (e_var rfl)) e_int rd_eq) fun _ =>
    (e_andV (e_whole (d := .int m.1) int_ne (a_cons (e_op (e_var rfl) e_int (rd_ixT rfl)) (a_cons (e_neg e_int) (a_cons e_int a_nil)))) fun _ =>
      e_whole (d := .int m.2) int_ne (a_cons (e_op (e_var rfl) e_int (rd_ixT rfl)) (a_cons (e_neg e_int) (a_cons e_int a_nil)))))).eq (by
        rw [whole_int (l := -32) h.1, whole_int (l := -15) h.2]; rfl)) rfl
theorem e_chainI {tx ty : TE} (ha : E K M te ρ (.int i)) (hb : E K M tx ρ (.int j)) (hc : E K M ty ρ (.int k)) : E K M (tChain (rI0 fun i j => .bl (decide (i ≤ j))) (rI0 fun i j => .bl (decide (i ≤ j))) te tx ty) ρ (.bool (decide (i ≤ j) && decide (j ≤ k))) :=
  e_chain ha hb hc rd_le fun _ => rd_le
theorem dec_and {P Q : Prop} [Decidable P] [Decidable Q] (h : P ∧ Q) : (decide P && decide Q) = true := by rw [decide_eq_true h.1, decide_eq_true h.2]; rfl
theorem sv_cd_row_fault {b : Bool} {lo hi : Int} (hl : lo ≤ ds.length ∧ (ds.length : Int) ≤ hi)
    (hd : ∀ d ∈ ds, if b = true then ∃ i : Int, d = .int i ∧ 1 ≤ i ∧ i ≤ 9999 else ∃ m : Int × Int, d = mvD m ∧ (-32 ≤ m.1 ∧ m.1 ≤ 32) ∧ (-15 ≤ m.2 ∧ m.2 ≤ 15)) :
    SV K M 0 (t_cd_row_fault K) [some (partD b), some (.tuple ds), some (.int lo), some (.int hi), none, none] (· = .rt .none) := by
  refine s_ifr (b := false) ((t_or (t_not (t_val (e_isi (e_var rfl) tup_ne kTT))) fun _ => t_not (t_test (e_chainI (e_var rfl) (e_len (e_var rfl)) (e_var rfl)))).eq (by rw [dec_and hl]; rfl)) (fun z => nomatch z) fun _ => ?_
  refine SV.mono (s_then (c1 := 0 + ds.length * 0) (c2 := 0) (s_for (PI := (· = prs ds)) (w_enum (e_var rfl)) (fun items e => by rw [e, prs_len]; exact Nat.le_refl _)
    (fun _ _ ρ => ∃ x y, ρ = [some (partD b), some (.tuple ds), some (.int lo), some (.int hi), x, y]) (fun _ _ => ⟨_, _, rfl⟩) (fun items i d ρ1 e hi ⟨x, y, hρ⟩ => ?_) fun items ρ1 e ⟨x, y, hρ⟩ => ?_)) (by omega) fun _ p => p
  · subst e hρ
    obtain ⟨z, hz, rfl⟩ := prs_at hi
    refine ⟨_, gv_tup (gvs_cons gv_name (gvs_cons gv_name gvs_nil)) rfl, ?_⟩
    have hm := hd z (List.mem_of_getElem? hz)
    refine s_if (b := false) (T.eq (b := !true) (t_not (t_val (e_if (b := b) (t_test ((e_op (e_var rfl) e_str rd_eqS).eq (by cases b <;> rfl))) (fun hb => ?_) fun hb => ?_))) rfl) (fun z => nomatch z) fun _ => s_next ⟨_, _, rfl⟩
    · subst hb
      rw [if_pos rfl] at hm
      obtain ⟨i, rfl, h1⟩ := hm
      exact (e_whole int_ne (a_cons (e_var rfl) (a_cons e_int (a_cons e_int a_nil)))).eq (by rw [whole_int h1])
    · subst hb
      rw [if_neg Bool.false_ne_true] at hm
      obtain ⟨m, rfl, h1⟩ := hm
      exact e_call_pf m h1 (a_cons (e_var rfl) a_nil)
  · subst hρ
    exact ⟨_, rfl, s_retD e_non rfl⟩
end
end Kt
set_option Elab.async false
set_option linter.all false
set_option maxRecDepth 100000
set_option maxHeartbeats 4000000
namespace Kt
open PySem PySem.Spec PyProof.Rows L2
section
variable {K : PySem.W.Frag} {M : Mode} {d x : PyData} {ds es : List PyData} {c : Cd} {s : St2} {k l m i j p : Int} {a n many : Nat} {row : List Int} {st : Option St2} {ρ : En} {te ta tb : TE} {tt : TT} {b : Bool} {O : Out → Prop} {t u : TS}
theorem e_ixT (ha : E K M ta ρ (.tuple ds)) (hb : E K M tb ρ (.int i)) (h : L2.atI ds i = some d) : E K M (tOp (rIxT K) ta tb) ρ d := e_op ha hb (rd_ixT h)
theorem e_ixL (ha : E K M ta ρ (.list ds)) (hb : E K M tb ρ (.int i)) (h : L2.atI ds i = some d) : E K M (tOp (rIxL K) ta tb) ρ d := e_op ha hb (rd_ixL h)
theorem e_add (ha : E K M ta ρ (.int i)) (hb : E K M tb ρ (.int j)) : E K M (tOp (rI0 fun i j => .int (i + j)) ta tb) ρ (.int (i + j)) := e_op ha hb rd_add
theorem e_sub (ha : E K M ta ρ (.int i)) (hb : E K M tb ρ (.int j)) : E K M (tOp (rI0 fun i j => .int (i - j)) ta tb) ρ (.int (i - j)) := e_op ha hb rd_sub
theorem e_mul (ha : E K M ta ρ (.int i)) (hb : E K M tb ρ (.int j)) (h : CMul i j) : E K M (tOp (rI CMul fun i j => .int (i * j)) ta tb) ρ (.int (i * j)) := e_op ha hb (rd_mul h)
theorem e_div (ha : E K M ta ρ (.int i)) (hb : E K M tb ρ (.int j)) (h : 0 < j ∧ j < 1073741824) : E K M (tOp (rI CDivN fun i j => .int (i.fdiv j)) ta tb) ρ (.int (i / j)) := by
  have z := e_op ha hb (rd_div (K := K) (M := M) (i := i) (j := j) ⟨by omega, by omega⟩)
  rw [fdiv_pos (show 0 ≤ j by omega)] at z
  exact z
theorem e_divF (ha : E K M ta ρ (.int i)) (hb : E K M tb ρ (.int j)) (h : 0 < j ∧ j < 1073741824) : E K M (tOp (rI CDivN fun i j => .int (i.fdiv j)) ta tb) ρ (.int (i.fdiv j)) := e_op ha hb (rd_div ⟨by omega, by omega⟩)
theorem e_mod (ha : E K M ta ρ (.int i)) (hb : E K M tb ρ (.int j)) (h : 0 < j) : E K M (tOp (rI (fun _ j => j ≠ 0) fun i j => .int (i.fmod j)) ta tb) ρ (.int (i % j)) := by
  have z := e_op ha hb (rd_mod (K := K) (M := M) (i := i) (j := j) (by omega))
  rw [fmod_pos (show 0 ≤ j by omega)] at z
  exact z
theorem t_cI {f : Int → Int → Bool} (ha : E K M ta ρ (.int i)) (hb : E K M tb ρ (.int j)) : T K M (tTest (tOp (rI0 fun i j => .bl (f i j)) ta tb)) ρ (f i j) := t_test (e_op ha hb (rd_I0 fun _ => .bl _))
theorem t_eq (ha : E K M ta ρ (.int i)) (hb : E K M tb ρ (.int j)) : T K M (tTest (tOp rEq ta tb)) ρ (decide (i = j)) := t_test (e_op ha hb rd_eq)
theorem t_ne (ha : E K M ta ρ (.int i)) (hb : E K M tb ρ (.int j)) : T K M (tTest (tOp rNe ta tb)) ρ (!decide (i = j)) := t_test (e_op ha hb rd_ne)
theorem t_isN (ha : E K M ta ρ d) : T K M (tTest (tOp rIsN ta (tC .non))) ρ (isNon d) := t_test (e_op ha e_non rd_isN)
theorem t_notN (ha : E K M ta ρ d) : T K M (tTest (tOp rNotN ta (tC .non))) ρ (!isNon d) := t_test (e_op ha e_non rd_notN)
/-- an if that is not taken -/
theorem s_skip (h : T K M tt ρ b) (hb : b = false) (r : SV K M 0 u ρ O) : SV K M 0 (tSeq (tIfS tt t tNext) u) ρ O := s_ifr h (fun z => by rw [hb] at z; cases z) fun _ => r
theorem s_take (h : T K M tt ρ b) (hb : b = true) (r : SV K M 0 t ρ (fun o => O o ∧ ∀ ρ1, o ≠ .nx ρ1)) : SV K M 0 (tSeq (tIfS tt t tNext) u) ρ O := s_ifr h (fun _ => r) fun z => by rw [hb] at z; cases z
theorem t_wh {ts : TA} {X : XK} (h : d ≠ markD) (ha : A K M ts ρ [d, .int l, .int m]) : T K M (tB (tCall (sp_is_whole K) [] X ts)) ρ (whole d l m) := t_val (e_whole h ha)
theorem sv_coder_fault (h : c.Ok) : SV K M 0 (t_coder_fault K) [some c.d, none, none, none, none, none, none] (· = .rt .none) := by
  have h1 := h.low
  have h2 := h.high
  have h3 := h.sl
  have h4 := h.ml
  refine s_skip (t_or (b1 := false) (t_not (t_val (e_isi (e_var rfl) tup_ne kTT))) fun _ => t_ne (e_len (e_var rfl)) e_int) rfl ?_
  refine s_setG (e_var rfl) (gv_tup (gvs_cons gv_name (gvs_cons gv_name (gvs_cons gv_name (gvs_cons gv_name (gvs_cons gv_name gvs_nil))))) rfl) ?_
  refine s_skip (t_not (t_wh int_ne (a_cons (e_var rfl) (a_cons (e_neg e_int) (a_cons e_int a_nil))))) (by rw [whole_int h1]; rfl) ?_
  refine s_skip (t_not (t_wh int_ne (a_cons (e_var rfl) (a_cons e_int (a_cons e_int a_nil))))) (by rw [whole_int h2]; rfl) ?_
  refine s_set (e_call_pf (true, zz c.steps, 1, 16) ⟨⟨by simp; omega, by simp; omega⟩, fun d hd => ?_⟩ (a_cons e_str (a_cons (e_var rfl) (a_cons e_int (a_cons e_int a_nil))))) ?_
  · obtain ⟨z, hz, rfl⟩ := List.mem_map.mp hd
    exact ⟨z, rfl, h.sv z hz⟩
  refine SV.mono (s_then (c1 := 0) (c2 := 0) (s_if (b := isNon .none) (t_isN (e_var rfl)) (fun _ => s_set1 (e_call_pf (false, c.moves.map mvD, 2, 16) ⟨⟨by simp; omega, by simp; omega⟩, fun d hd => ?_⟩ (a_cons e_str (a_cons (e_var rfl) (a_cons e_int (a_cons e_int a_nil))))) ⟨_, rfl, ?_⟩) fun z => nomatch z)) (by omega) fun _ p => p
  · obtain ⟨z, hz, rfl⟩ := List.mem_map.mp hd
    exact ⟨z, rfl, h.mv z hz⟩
  refine SV.mono (s_then (O := (· = .rt .none)) (c1 := 0) (c2 := 0) (s_if (b := false) (T.eq (t_and (t_isN (e_var rfl)) fun _ => t_and (t_not (t_wh int_ne (a_cons (e_var rfl) (a_cons e_int (a_cons e_int a_nil))))) fun _ =>
    t_not (t_wh int_ne (a_cons (e_var rfl) (a_cons e_int (a_cons e_int a_nil))))) ?_) (fun z => nomatch z) fun _ => s_next ⟨_, rfl, s_retD (e_var rfl) rfl⟩)) (by omega) fun _ p => p
  rcases h.fade with e | e
  · rw [e]; rfl
  · rw [whole_int e]; rfl
def t_need_coder (K : PySem.W.Frag) : TS := tSeq (tAsg (tCall (sp_coder_fault K) [] E0 (tCons (tVar 0) tNil)) (gName 1)) (tSeq (tIfS (tTest (tOp rNotN (tVar 1) (tC .non))) tNever tNext) (tRet (tVar 0)))
theorem sv_need_coder (h : c.Ok) : SV K M 0 (t_need_coder K) [some c.d, none] (· = .rt c.d) :=
  s_set (e_call_pf c h (a_cons (e_var rfl) a_nil)) (s_skip (t_notN (e_var rfl)) rfl (s_retD (e_var rfl) rfl))
theorem sv_divided (h : 0 < j ∧ j < 1073741824) : SV K M 0 (t_divided K) [some (.int i), some (.int j)] (· = .rt (.int (dv i j))) := by
  refine s_retD (e_if (t_cI (e_var rfl) e_int) (fun z => ?_) fun z => ?_) rfl
  · have z : 0 ≤ i := of_decide_eq_true z
    exact (e_divF (e_var rfl) (e_var rfl) h).eq (by unfold dv; rw [if_pos z])
  · have z : ¬ 0 ≤ i := of_decide_eq_false z
    exact (e_neg (e_divF (e_neg (e_var rfl)) (e_var rfl) h)).eq (by unfold dv; rw [if_neg z])
theorem sv_law_parted (h : 0 < j ∧ j < 1073741824) : SV K M 0 (t_law_parted K) [some (.int i), some (.int j)] (· = .rt (.int (dv i j))) := by
  refine s_retD (e_if (t_cI (e_var rfl) e_int) (fun z => ?_) fun z => ?_) rfl
  · have z : 0 ≤ i := of_decide_eq_true z
    exact (e_divF (e_var rfl) (e_var rfl) h).eq (by unfold dv; rw [if_pos z])
  · have z : ¬ 0 ≤ i := of_decide_eq_false z
    exact (e_sub e_int (e_divF (e_sub e_int (e_var rfl)) (e_var rfl) h)).eq (by unfold dv; rw [if_neg z, Int.zero_sub, Int.zero_sub])
theorem mv_at (h : CodeOk c k) : L2.atI (c.moves.map mvD) k = some (mvD (c.moves.getD k.toNat (0, 0))) := at_int h.1 (by
  have h2 := h.2
  have h1 := h.1
  have z : k.toNat < c.moves.length := by omega
  rw [List.getElem?_map, List.getElem?_eq_getElem z, List.getD_eq_getElem?_getD, List.getElem?_eq_getElem z]; rfl)
theorem mv_in (h : c.Ok) (hk : CodeOk c k) : (-32 ≤ (c.moves.getD k.toNat (0, 0)).1 ∧ (c.moves.getD k.toNat (0, 0)).1 ≤ 32) ∧ (-15 ≤ (c.moves.getD k.toNat (0, 0)).2 ∧ (c.moves.getD k.toNat (0, 0)).2 ≤ 15) := by
  have h2 := hk.2
  have h1 := hk.1
  have z : k.toNat < c.moves.length := by omega
  rw [List.getD_eq_getElem?_getD, List.getElem?_eq_getElem z]
  exact h.mv _ (List.getElem_mem z)
theorem st_at (h : 0 ≤ p ∧ p < c.steps.length) : L2.atI (zz c.steps) p = some (.int (c.steps.getD p.toNat 0)) := at_int h.1 (by
  have z : p.toNat < c.steps.length := by omega
  rw [List.getElem?_map, List.getElem?_eq_getElem z, List.getD_eq_getElem?_getD, List.getElem?_eq_getElem z]; rfl)
theorem st_in (h : c.Ok) (hp : 0 ≤ p ∧ p < c.steps.length) : 1 ≤ c.steps.getD p.toNat 0 ∧ c.steps.getD p.toNat 0 ≤ 9999 := by
  have z : p.toNat < c.steps.length := by omega
  rw [List.getD_eq_getElem?_getD, List.getElem?_eq_getElem z]
  exact h.sv _ (List.getElem_mem z)
theorem cmul_of (h1 : -100000 ≤ i ∧ i ≤ 100000) : CMul i j := .inl ⟨by omega, by omega⟩
theorem sv_moved_by (h : POk c k p) : SV K M 0 (t_moved_by K) [some c.d, some (.int k), some (.int p)] (· = .rt (.int (mv1 c k p))) := by
  have q := mv_in h.cok h.kok
  exact s_retD (e_call_pf ((c.moves.getD k.toNat (0, 0)).1 * c.steps.getD p.toNat 0, 8) ⟨show (0 : Int) < 8 by decide, show (8 : Int) < 1073741824 by decide⟩ (a_cons (e_mul (e_ixT (e_ixT (e_ixT (e_var rfl) e_int rfl) (e_var rfl) (mv_at h.kok)) e_int rfl)
    (e_ixT (e_ixT (e_var rfl) e_int rfl) (e_var rfl) (st_at h.p)) (cmul_of (by omega))) (a_cons e_int a_nil))) rfl
theorem e_min {ta tb : TE} (ha : E K M ta ρ (.int i)) (hb : E K M tb ρ (.int j)) : E K M (tCB rMinQ (tCons ta (tCons tb tNil))) ρ (.int (if j < i then j else i)) := e_callB (a_cons ha (a_cons hb a_nil)) cd_min
theorem e_max {ta tb : TE} (ha : E K M ta ρ (.int i)) (hb : E K M tb ρ (.int j)) : E K M (tCB rMaxQ (tCons ta (tCons tb tNil))) ρ (.int (if j > i then j else i)) := e_callB (a_cons ha (a_cons hb a_nil)) cd_max
theorem len2 {x y : PyData} : ([x, y] : List PyData).length ≤ 16000000 := by show 2 ≤ 16000000; decide
theorem len1 {x : PyData} : ([x] : List PyData).length ≤ 16000000 := by show 1 ≤ 16000000; decide
theorem len3 {x y z : PyData} : ([x, y, z] : List PyData).length ≤ 16000000 := by show 3 ≤ 16000000; decide
theorem clamp_mm {l h x : Int} (hl : l ≤ h) : (if (if x > l then x else l) < h then (if x > l then x else l) else h) = clamp l h x := by
  unfold clamp
  by_cases a : x < l
  · rw [if_pos a, if_neg (show ¬ x > l by omega)]
    by_cases b : l < h
    · rw [if_pos b]
    · rw [if_neg b]; omega
  · rw [if_neg a]
    by_cases b : h < x
    · rw [if_pos b]
      split <;> split <;> omega
    · rw [if_neg b]
      split <;> split <;> omega
theorem fade_in (h : c.Ok) (z : ¬ c.fade = 0) : 0 < c.fade ∧ c.fade < 1073741824 := by
  rcases h.fade with e | e
  · exact absurd e z
  · omega
theorem sv_next_state (h : LOk c s k) : SV K M 0 (t_next_state K) [some c.d, some (sd s), some (.int k), none, none, none, none, none, none, none, none, none] (· = .rt (sd (led c s k))) := by
  have h1 := h.cok.low
  have h2 := h.cok.high
  have h3 := h.cok.sl
  refine s_setG (e_var rfl) (gv_tup (gvs_cons gv_name (gvs_cons gv_name (gvs_cons gv_name (gvs_cons gv_name (gvs_cons gv_name gvs_nil))))) rfl) ?_
  refine s_setG (e_var rfl) (gv_tup (gvs_cons gv_name (gvs_cons gv_name gvs_nil)) rfl) ?_
  refine s_set (d := .int (faded c s.1)) (e_if (t_eq (e_var rfl) e_int) (fun z => ?_) fun z => ?_) ?_
  · exact (e_var rfl).eq (by unfold faded; rw [if_pos (of_decide_eq_true z)])
  · have z : ¬ c.fade = 0 := of_decide_eq_false z
    exact (e_sub (e_var rfl) (e_call_pf (s.1, c.fade) (fade_in h.cok z) (a_cons (e_var rfl) (a_cons (e_var rfl) a_nil)))).eq (by unfold faded; rw [if_neg z])
  refine s_set (e_add (e_var rfl) (e_ixT (e_ixT (e_var rfl) (e_var rfl) (mv_at h.kok)) e_int rfl)) ?_
  refine s_retD (d := sd (led c s k)) (E.eq (e_tup (a_cons (e_min (e_var rfl) (e_max (e_var rfl) (e_add (e_var rfl) (e_call_pf (c, k, s.2) ⟨h.cok, h.kok, h.sok.p⟩ (a_cons (e_var rfl) (a_cons (e_var rfl) (a_cons (e_var rfl) a_nil)))))))
    (a_cons (e_min (e_sub (e_len (e_var rfl)) e_int) (e_max e_int (e_var rfl))) a_nil)) len2) ?_) rfl
  rw [clamp_mm (by omega), clamp_mm (by rw [List.length_map]; omega), List.length_map]
  rfl
theorem sv_law_limited : SV K M 0 (t_law_limited K) [some (.int i), some (.int j), some (.int k)] (· = .rt (.int (clamp j k i))) := by
  refine s_retD (e_if (t_cI (e_var rfl) (e_var rfl)) (fun z => ?_) fun z => e_if (t_cI (e_var rfl) (e_var rfl)) (fun z2 => ?_) fun z2 => ?_) rfl
  · exact (e_var rfl).eq (by unfold clamp; rw [if_pos (of_decide_eq_true z)])
  · exact (e_var rfl).eq (by unfold clamp; rw [if_neg (of_decide_eq_false z), if_pos (of_decide_eq_true z2)])
  · exact (e_var rfl).eq (by unfold clamp; rw [if_neg (of_decide_eq_false z), if_neg (of_decide_eq_false z2)])
theorem zz_at {l : List Int} {i : Nat} {d : PyData} (h : (zz l)[i]? = some d) : ∃ z, l[i]? = some z ∧ d = .int z := by
  rw [List.getElem?_map] at h
  cases e : l[i]? with
  | none => rw [e] at h; cases h
  | some z => rw [e] at h; cases h; exact ⟨z, rfl, rfl⟩
theorem walk_take {z : Int} (h : row[a]? = some z) : walk c s (row.take (a + 1)) = led c (walk c s (row.take a)) z := by
  rw [List.take_succ, h]
  exact walk_snoc
theorem sv_walked (h : WOk c s row) : SV K M 0 (t_walked K) [some c.d, some (sd s), some (.tuple (zz row)), none] (· = .rt (sd (walk c s row))) := by
  refine SV.mono (s_then (c1 := 0 + row.length * 0) (c2 := 0) (s_for (w_tup (e_var rfl)) (fun items e => by rw [e, List.length_map]; exact Nat.le_refl _)
    (fun _ i ρ => ∃ x, ρ = [some c.d, some (sd (walk c s (row.take i))), some (.tuple (zz row)), x]) (fun _ _ => ⟨_, rfl⟩) (fun items i d ρ1 e hi ⟨x, hρ⟩ => ?_) fun items ρ1 e ⟨x, hρ⟩ => ?_)) (by omega) fun _ p => p
  · subst e hρ
    obtain ⟨z, hz, rfl⟩ := zz_at hi
    refine ⟨_, gv_name, s_set1 (e_call_pf (c, walk c s (row.take i), z) ⟨h.cok, walk_ok h.cok h.sok, h.rok z (List.mem_of_getElem? hz)⟩ (a_cons (e_var rfl) (a_cons (e_var rfl) (a_cons (e_var rfl) a_nil)))) ⟨some (.int z), ?_⟩⟩
    rw [walk_take hz]
    rfl
  · subst e hρ
    refine ⟨_, rfl, s_retD (e_var rfl) ?_⟩
    rw [List.length_map, List.take_length]
end
end Kt
set_option Elab.async false
set_option linter.all false
set_option maxRecDepth 100000
set_option maxHeartbeats 4000000
namespace Kt
open PySem PySem.Spec PyProof.Rows L2
section
variable {K : PySem.W.Frag} {M : Mode} {c c1 c2 c3 n : Nat} {W H W' H' W0 H0 : Hp} {p : Addr} {o : HO}
theorem hid_upd (h : H p = none) : hid p (upd H p o) = H := by
  funext b
  by_cases hb : b = p
  · rw [hb, hid_same, h]
  · rw [hid_ne hb, upd_ne hb]
theorem upd_hid (h : H p = some o) : upd (hid p H) p o = H := by
  funext b
  by_cases hb : b = p
  · rw [hb, upd_same, h]
  · rw [upd_ne hb, hid_ne hb]
theorem hid_hidupd : hid p (upd H p o) = hid p H := by
  funext b
  by_cases hb : b = p
  · rw [hb, hid_same, hid_same]
  · rw [hid_ne hb, hid_ne hb, upd_ne hb]
theorem upd_hidupd : upd (hid p H) p o = upd H p o := by
  funext b
  by_cases hb : b = p
  · rw [hb, upd_same, upd_same]
  · rw [upd_ne hb, hid_ne hb, upd_ne hb]
theorem same_hid (e : Same W W') (h : W p = none) : Same W (hid p W') := fun b u z => by
  have hb : b ≠ p := fun q => by rw [q, h] at z; cases z
  rw [hid_ne hb]
  exact e b u z
theorem same_hid2 (e : Same W W') : Same (hid p W) (hid p W') := fun b u z => by
  by_cases hb : b = p
  · rw [hb, hid_same] at z; cases z
  · rw [hid_ne hb] at z ⊢; exact e b u z
theorem same_updR (e : Same W H) (h : W p = none) : Same W (upd H p o) := fun b u z => by
  have hb : b ≠ p := fun q => by rw [q, h] at z; cases z
  rw [upd_ne hb]
  exact e b u z
theorem same_updU (e : Same W H) : Same (upd W p o) (upd H p o) := fun b u z => by
  by_cases hb : b = p
  · rw [hb, upd_same] at z ⊢; exact z
  · rw [upd_ne hb] at z ⊢; exact e b u z
theorem same_upd (h : W p = none) : Same W (upd W p o) := same_updR (Same.refl _) h
theorem codeO_lst {c : Addr} {q : Str} {ys : List V} : LamX.CodeO c q ≠ .lst ys := fun z => by
  unfold LamX.CodeO at z
  cases z
theorem codeO_dK {c : Addr} {q : Str} {ys : List (Key × V)} : LamX.CodeO c q ≠ .dK ys := fun z => by
  unfold LamX.CodeO at z
  cases z
theorem tabs_of {T : List (Addr × Str)} {H' : Hp} (t : LamX.Tabs T H) (h1 : ∀ b ps, H b = some (.tbl ps) → H' b = some (.tbl ps)) (h2 : ∀ b q, H b = some (LamX.CodeO b q) → H' b = some (LamX.CodeO b q)) : LamX.Tabs T H' := fun p hp => by
  obtain ⟨ps, e1, e2, e3⟩ := t p hp
  refine ⟨ps, h1 _ _ e1, e2, fun pos cv hc => ?_⟩
  obtain ⟨c, e4, e5⟩ := e3 pos cv hc
  exact ⟨c, e4, h2 _ _ e5⟩
theorem tabs_hid {T : List (Addr × Str)} {ys : List V} (h : H p = some (.lst ys)) (t : LamX.Tabs T H) : LamX.Tabs T (hid p H) := tabs_of t
  (fun b ps e => by rw [hid_ne (ne_of e h (fun z => nomatch z))]; exact e) fun b q e => by rw [hid_ne (ne_of e h codeO_lst)]; exact e
/-- what was done with the list at p in sight, seen without it -/
theorem Go.hide {ys : List V} {k : Nat} (hp : H p = none) (i : Same W H) (s : M.S k W H) (g : Go M c n (upd W p (.lst ys)) (upd H p (.lst ys)) W' H') : Go M c n W H (hid p W') (hid p H') := by
  have hw : W p = none := i.free hp
  have wp : W' p = some (.lst ys) := g.w p _ upd_same
  refine ⟨fun b u z => ?_, same_hid2 g.i, ?_, ?_⟩
  · have hb : b ≠ p := fun q => by rw [q, hw] at z; cases z
    rw [hid_ne hb]
    exact g.w b u (by rw [upd_ne hb]; exact z)
  · cases M with
    | pure mm =>
      obtain ⟨f1, f2, f3⟩ := g.f
      refine ⟨fun b u z => ?_, fun b z => ?_, fun b ps z => ?_⟩
      · have hb : b ≠ p := fun q => by rw [q, hp] at z; cases z
        rw [hid_ne hb]
        exact f1 b u (by rw [upd_ne hb]; exact z)
      · have hb : b ≠ p := fun q => z (by rw [q]; exact hp)
        rw [hid_ne hb, f2 b (by rw [upd_ne hb]; exact z), upd_ne hb]
      · have hb : b ≠ p := fun q => by rw [q, hid_same] at z; cases z
        rw [hid_ne hb] at z
        have z2 := f3 b ps z
        rw [upd_ne hb] at z2
        exact z2
    | em m T => trivial
    | rel mm W0 H0 =>
      obtain ⟨f1, f2, f3⟩ := g.f
      refine ⟨fun b u z => ?_, fun b z => ?_, fun b ps z => ?_⟩
      · have hb : b ≠ p := fun q => by rw [q, hp] at z; cases z
        rw [hid_ne hb]
        exact f1 b u (by rw [upd_ne hb]; exact z)
      · have hb : b ≠ p := fun q => z (by rw [q]; exact hp)
        rw [hid_ne hb, f2 b (by rw [upd_ne hb]; exact z), upd_ne hb]
      · have hb : b ≠ p := fun q => by rw [q, hid_same] at z; cases z
        rw [hid_ne hb] at z
        have z2 := f3 b ps z
        rw [upd_ne hb] at z2
        exact z2
  · cases M with
    | pure mm => trivial
    | rel mm W0 H0 =>
      have u0 : Up W0 H0 W H := s
      have u1 : Up W0 H0 W' H' := g.s
      have w0 : W0 p = none := u0.w.free hw
      have h0 : H0 p = none := u0.h.free hp
      refine ⟨same_hid u1.w w0, same_hid u1.h h0, same_hid2 u1.i, fun b hb => ?_, fun b ps z => ?_⟩
      · have hbp : b ≠ p := fun q => hb (by rw [q]; exact h0)
        rw [hid_ne hbp]
        exact u1.f b hb
      · have hbp : b ≠ p := fun q => by rw [q, hid_same] at z; cases z
        rw [hid_ne hbp] at z
        exact u1.t b ps z
    | em m T =>
      have gs : MSt m T (n + c) W' H' := g.s
      obtain ⟨ca, l, cs, lf, k, h1, h2, h3, h4, h5, h6, h7, h8, h9, h10⟩ := gs.ex
      have hpl : H' p = some (.lst ys) := g.i p _ wp
      have nm : m ≠ p := fun q => by rw [q, wp] at h5; cases h5
      have nl : l ≠ p := fun q => by rw [q, wp] at h6; cases h6
      have nc : ca ≠ p := fun q => by rw [q, wp] at h7; cases h7
      refine ⟨⟨ca, l, cs, lf, k, by rw [hid_ne nm]; exact h1, by rw [hid_ne nc]; exact h2, by rw [hid_ne nl]; exact h3, h4, by rw [hid_ne nm]; exact h5, by rw [hid_ne nl]; exact h6, by rw [hid_ne nc]; exact h7, h8, h9, h10⟩, tabs_hid hpl gs.tb, fun b ps z => ?_⟩
      have hb : b ≠ p := fun q => by rw [q, hid_same] at z; cases z
      rw [hid_ne hb] at z
      exact gs.wt b ps z
theorem Mode.S.up1 {ys : List V} (hp : H p = none) (i : Same W H) (s : M.S n W H) : M.S n (upd W p (.lst ys)) (upd H p (.lst ys)) := Mode.S.up s (Up.new i hp)
end
/-! ### a walk that goes on while a list grows -/
def WH (K : PySem.W.Frag) (M : Mode) (c : Nat) (wi : TI) (ρ : En) (PI : List PyData → Prop) : Prop := ∀ (n : Nat) (σ : L2.St) (W H : Hp), Same W H → M.S n W H → n + c ≤ lim → EnvOk K M.mm W σ ρ →
  ∀ R : It → Hp → Prop, (∀ J items W' H', Go M c n W H W' H' → PI items → (∀ p ys, W' p = some (.lst ys) → Src K M.mm J (hid p W') items) → Src K M.mm J W' items → R J H') → wi σ H R
section
variable {K : PySem.W.Frag} {M : Mode} {c c1 c2 c3 : Nat} {te ta : TE} {tt : TT} {t u : TS} {ts : TA} {ρ ρ1 : En} {d : PyData} {ds acc : List PyData} {P : PyData → Prop} {O : Out → Prop} {g : TG} {wi : TI} {q : Nat}
theorem src_tup {mm : Option Addr} {a : Addr} {xs : List V} {W : Hp} (hs : SqT K W a xs) (r : IsAll K mm W xs ds) : Src K mm (Itt K a) W ds := fun W2 H2 e1 e2 => by
  have hq := sqT_same e2 (sqT_same e1 hs)
  refine ⟨fun j d hj => ?_, ⟨xs, hq, by rw [r.length]; exact Nat.le_refl _⟩⟩
  obtain ⟨v, hv, iv⟩ := r.at hj
  exact ⟨⟨xs, v, hq, hv⟩, fun x H'' ⟨y1, y2⟩ => ⟨W2, by rw [y1]; exact Up.refl e2, by
    have z := y2 xs hq
    rw [hv] at z
    cases z
    exact iv.up e1⟩⟩
theorem wh_tup (h : E K M te ρ (.tuple ds)) (hf : flatAll ds = true) : WH K M 0 (iTup K te) ρ (· = ds) := fun n σ W H i s l e R q =>
  h n σ W H i s l e _ fun v d' W' H' go p iv => by
    cases p
    cases iv with
    | @tup a xs _ hs r => exact ⟨a, rfl, ⟨xs, sqT_same go.i hs⟩, q _ ds W' H' go rfl (fun p ys hp => src_tup (sqT_hid hp hs) (r.hide hp _ _ hf)) (src_tup hs r)⟩
theorem src_range {mm : Option Addr} {n : Nat} {W : Hp} : Src K mm (Itr 0 n) W (ixs n) := fun W2 H2 e1 e2 => ⟨fun j d hj => by
    obtain ⟨h1, rfl⟩ := ixs_at hj
    exact ⟨h1, fun x H'' ⟨y1, y2⟩ => ⟨W2, by rw [y1]; exact Up.refl e2, by rw [y2, Int.zero_add]; exact .int _⟩⟩, by show n ≤ (ixs n).length; rw [ixs_len]; exact Nat.le_refl _⟩
theorem wh_range {PN : Nat → Prop} (h : EV K M c te ρ (fun d => ∃ n : Nat, d = .int (n : Int) ∧ n < 1000000000 ∧ PN n)) : WH K M c (iRng1 (tCons te tNil)) ρ (fun l => ∃ n : Nat, l = ixs n ∧ PN n) := fun m σ W H i s l e R q =>
  h m σ W H i s l e _ fun v d' W' H' go p iv => by
    obtain ⟨n, rfl, hn, pn⟩ := p
    cases iv
    refine ⟨(n : Int), rfl, by omega, by omega, ?_⟩
    rw [Int.toNat_natCast]
    exact q _ (ixs n) W' H' go ⟨n, rfl, pn⟩ (fun _ _ _ => src_range) src_range
theorem WH.mono {PI PJ : List PyData → Prop} (h : WH K M c wi ρ PI) (hp : ∀ l, PI l → PJ l) : WH K M c wi ρ PJ := fun n σ W H i s l e R q => h n σ W H i s l e R fun J items W' H' go pi a b => q J items W' H' go (hp _ pi) a b
theorem wh_rangeD {n : Nat} (h : E K M te ρ (.int (n : Int))) (hn : n < 1000000000) : WH K M 0 (iRng1 (tCons te tNil)) ρ (· = ixs n) :=
  (wh_range (PN := (· = n)) (EV.mono h (Nat.le_refl _) fun d hd => ⟨n, hd, hn, rfl⟩)).mono fun l ⟨k, e, hk⟩ => by rw [e, hk]
/-! ### the list at slot q grows -/
def LV (K : PySem.W.Frag) (M : Mode) (q c : Nat) (t : TS) (ρ : En) (acc : List PyData) (O : Out → Prop) : Prop := ∀ (X : XW) (n : Nat) (σ : L2.St) (p : Addr) (xs : List V) (W H : Hp), H p = none → Same W H → M.S n W H → n + c ≤ lim →
  EnvOk K M.mm W σ ρ → σ[q]? = some (some (.ref p)) → IsAll K M.mm W xs acc →
  ∀ D : Ends, (∀ o W' H', Go M c n W H W' H' → O o → Fin K M X D W' H' o) → (∀ d, ¬ O (.ex d)) → t D σ (upd H p (.lst xs))
/-- found = [..] -/
theorem s_grow (hq : q < ρ.length) (h : AV K M c1 ts ρ (fun l => l = ds)) (hl : ds.length ≤ 16000000) (r : LV K M q c2 u (ρ.set q none) ds O) : SV K M (c1 + c2) (tSeq (tAsg (tLst ts) (gName q)) u) ρ O := fun X n σ W H i s l e D k nx =>
  h n σ W H i s (by omega) e _ fun vs ds' W1 H1 g1 e1 iv => by
    subst e1
    exact ⟨by rw [iv.length]; exact sl_of hl, fun p hp => r X (n + c1) _ p vs W1 H1 hp g1.i g1.s (by omega) ((e.up g1.w).clr _) (List.getElem?_set_self (by rw [e.1]; exact hq)) iv D (fun o W' H' g po => k o W' H' (g1.trans g) po) nx⟩
/-- level, found = .., [] -/
theorem s_growP {x : PyData} {k : Nat} (hq : q < ρ.length) (h : E K M te ρ x) (hk : k ≠ q) (r : LV K M q c2 u ((ρ.set k (some x)).set q none) [] O) : SV K M c2 (tSeq (tPar k q (tCons te (tCons (tLst tNil) tNil))) u) ρ O := fun X n σ W H i s l e D kk nx =>
  h n σ W H i s (by omega) e _ fun v d' W1 H1 g1 e1 iv => by
    subst e1
    refine ⟨Nat.zero_le _, fun p hp => ⟨_, _, rfl, r X n _ p [] W1 H1 hp g1.i g1.s (by omega) (((e.up g1.w).set iv).clr _) (List.getElem?_set_self (by rw [List.length_set, e.1]; exact hq)) .nil D (fun o W' H' g po => kk o W' H' ((g1.trans g).mono (by omega)) po) nx⟩⟩
theorem EnvOk.get {mm : Option Addr} {W : Hp} {σ : L2.St} {i : Nat} (h : EnvOk K mm W σ ρ) (e : ρ[i]? = some (some d)) : ∃ v, σ[i]? = some (some v) ∧ Is K mm W v d := h.2 i d e
theorem EnvOk.unset {mm : Option Addr} {W : Hp} {σ : L2.St} {i : Nat} {x : Option PyData} (h : EnvOk K mm W σ (ρ.set i x)) : EnvOk K mm W σ (ρ.set i none) := by
  refine h.weak (by rw [List.length_set, List.length_set]) fun j d e => ?_
  by_cases hj : j = i
  · subst hj
    have lt : j < ρ.length := by have z := (List.getElem?_eq_some_iff.mp e).1; simpa using z
    rw [List.getElem?_set_self lt] at e; cases e
  · rw [List.getElem?_set_ne (Ne.symm hj)] at e ⊢; exact e
theorem EnvOk.reset {mm : Option Addr} {W : Hp} {σ : L2.St} {i : Nat} {v : V} (h : EnvOk K mm W σ (ρ.set i none)) (hv : σ[i]? = some (some v)) (iv : Is K mm W v d) : EnvOk K mm W σ (ρ.set i (some d)) := by
  refine ⟨by have z := h.1; rw [List.length_set] at z ⊢; exact z, fun j e hj => ?_⟩
  by_cases hi : j = i
  · subst hi
    have lt : j < ρ.length := by have z := (List.getElem?_eq_some_iff.mp hj).1; simpa using z
    rw [List.getElem?_set_self lt] at hj
    cases hj
    exact ⟨v, hv, iv⟩
  · rw [List.getElem?_set_ne (Ne.symm hi)] at hj
    exact h.2 j e (by rw [List.getElem?_set_ne (Ne.symm hi)]; exact hj)
/-- for g in wi: xs.append(te), then the rest -/
theorem lv_for {PI : List PyData → Prop} {L k : Nat} (hw : WH K M c1 wi (ρ.set q (some (.list acc))) PI) (hL : ∀ items, PI items → items.length ≤ L ∧ acc.length + items.length ≤ 16000000) (hkq : k ≠ q) (I : List PyData → Nat → En → List PyData → Prop) (h0 : ∀ items, PI items → I items 0 ρ acc)
    (hs : ∀ items i d ρ1 a, PI items → items[i]? = some d → I items i ρ1 a → EV K M c2 te ((ρ1.set k (some d)).set q (some (.list a))) (fun y => flat y = true ∧ I items (i + 1) (ρ1.set k (some d)) (a ++ [y])))
    (hd : ∀ items ρ1 a, PI items → I items items.length ρ1 a → SV K M c3 u (ρ1.set q (some (.list a))) O) (hqn : ρ[q]? = some none) : LV K M q (c1 + L * c2 + c3) (tSeq (tFor wi (gName k) (tDrop (tBM K "list" rAppend (tVar q) (tCons te tNil)))) u) ρ acc O :=
  fun X n σ p xs W H hp i s l e hσ ia D kk nx => by
  have hq : q < ρ.length := (List.getElem?_eq_some_iff.mp hqn).1
  have lp : Is K M.mm (upd W p (.lst xs)) (.ref p) (.list acc) := .lst upd_same (ia.up (same_upd (i.free hp)))
  have uρ : ∀ {ρ' : En}, ρ'[q]? = some none → ρ'.set q none = ρ' := fun {ρ'} z => by
    obtain ⟨a, b⟩ := List.getElem?_eq_some_iff.mp z
    rw [← b]; exact List.set_getElem_self a
  have e1 : EnvOk K M.mm (upd W p (.lst xs)) σ (ρ.set q (some (.list acc))) := EnvOk.reset (by rw [uρ hqn]; exact e.up (same_upd (i.free hp))) hσ lp
  refine hw n σ (upd W p (.lst xs)) (upd H p (.lst xs)) (same_updU i) (Mode.S.up1 hp i s) (by omega) e1 _ fun J items W1 H1 g1 pi sr0 _ => ?_
  have hl := (hL items pi).1
  have hl2 := (hL items pi).2
  have wp1 : W1 p = some (.lst xs) := g1.w p _ upd_same
  have gh := Go.hide hp i s g1
  have sr := sr0 p xs wp1
  have mulb : ∀ {a : Nat}, a ≤ items.length → a * c2 ≤ L * c2 := fun {a} ha => Nat.mul_le_mul_right _ (Nat.le_trans ha hl)
  have h1p : H1 p = some (.lst xs) := g1.i p _ wp1
  refine ⟨fun j m σ' H' => m = items.length - j ∧ j ≤ items.length ∧ ∃ ρ1 a ys W', a.length = acc.length + j ∧ H' p = some (.lst ys) ∧ σ'[q]? = some (some (.ref p)) ∧ IsAll K M.mm W' ys a ∧ W' p = none ∧ Go M (j * c2) (n + c1) (hid p W1) (hid p H1) W' (hid p H') ∧ EnvOk K M.mm W' σ' ρ1 ∧ ρ1[q]? = some none ∧ I items j ρ1 a,
    ⟨items.length, by simp, Nat.zero_le _, ρ, acc, xs, hid p W1, rfl, h1p, hσ, ia.up gh.w, hid_same, ?_, e.up gh.w, hqn, h0 items pi⟩, ?_⟩
  · rw [Nat.zero_mul]; exact Go.refl gh.i gh.s
  · rintro j m σ' H' ⟨rfl, hj, ρ1, a, ys, W', la, hH, hσ', iy, wp, go2, e2, hq1, p2⟩
    have i2 : Same W' H' := go2.i.trans Same.hid_le
    have i3 : Same W' (hid p H') := go2.i
    have hh : (hid p H') p = none := hid_same
    by_cases hlt : j < items.length
    · obtain ⟨d, hd'⟩ : ∃ d, items[j]? = some d := ⟨items[j], by simp [hlt]⟩
      obtain ⟨sg, _⟩ := sr W' H' go2.w i2
      obtain ⟨go3, yl⟩ := sg j d hd'
      refine .inr ⟨go3, fun σ2 H2 => items.length - (j + 1) = items.length - (j + 1) ∧ j + 1 ≤ items.length ∧ ∃ ρ1 a ys W', a.length = acc.length + (j + 1) ∧ H2 p = some (.lst ys) ∧ σ2[q]? = some (some (.ref p)) ∧ IsAll K M.mm W' ys a ∧ W' p = none ∧ Go M ((j + 1) * c2) (n + c1) (hid p W1) (hid p H1) W' (hid p H2) ∧ EnvOk K M.mm W' σ2 ρ1 ∧ ρ1[q]? = some none ∧ I items (j + 1) ρ1 a,
        fun σ2 H2 h => ⟨items.length - (j + 1), by omega, h⟩, fun x H'' y => ?_⟩
      obtain ⟨W'', up, iv⟩ := yl x H'' y
      have hp2 : H'' p = some (.lst ys) := up.h p _ hH
      have wp2 : W'' p = none := by rw [up.f p (by rw [hH]; exact fun z => nomatch z)]; exact wp
      have uph : Up W' (hid p H') W'' (hid p H'') := ⟨up.w, same_hid2 up.h, same_hid up.i wp2, fun b hb => by
        have hbp : b ≠ p := fun z => hb (by rw [z]; exact hid_same)
        rw [hid_ne hbp] at hb
        exact up.f b hb, up.t⟩
      have gx : Go M (j * c2) (n + c1) (hid p W1) (hid p H1) W'' (hid p H'') := (go2.trans (Go.up uph go2.s)).mono (by omega)
      have bnd : (j + 1) * c2 ≤ L * c2 := mulb hlt
      have bnd2 : (j + 1) * c2 = j * c2 + c2 := Nat.succ_mul j c2
      have hhx : (hid p H'') p = none := hid_same
      have ex : EnvOk K M.mm W'' (σ'.set k (some x)) (ρ1.set k (some d)) := (e2.up up.w).set iv
      have σq : (σ'.set k (some x))[q]? = some (some (.ref p)) := by rw [List.getElem?_set_ne hkq]; exact hσ'
      have ρq : (ρ1.set k (some d))[q]? = some none := by rw [List.getElem?_set_ne hkq]; exact hq1
      have iy2 := iy.up up.w
      have lp2 : Is K M.mm (upd W'' p (.lst ys)) (.ref p) (.list a) := .lst upd_same (iy2.up (same_upd wp2))
      have e3 : EnvOk K M.mm (upd W'' p (.lst ys)) (σ'.set k (some x)) ((ρ1.set k (some d)).set q (some (.list a))) := EnvOk.reset (by rw [uρ ρq]; exact ex.up (same_upd wp2)) σq lp2
      have heq : upd (hid p H'') p (.lst ys) = H'' := upd_hid hp2
      have sim : Same (upd W'' p (.lst ys)) H'' := by rw [← heq]; exact same_updU gx.i
      have ms : M.S (n + c1 + j * c2) (upd W'' p (.lst ys)) H'' := by
        have z := Mode.S.up1 (ys := ys) hhx gx.i gx.s
        rw [heq] at z
        exact z
      refine ⟨_, σq, ?_, ?_⟩
      · exact .inl ⟨rfl, ys, .inl (.inl hp2)⟩
      refine hs items j d ρ1 a pi hd' p2 (n + c1 + j * c2) (σ'.set k (some x)) (upd W'' p (.lst ys)) H'' sim ms (by omega) e3 _ fun v y W3 H3 g3 ⟨fy, iy3⟩ ivy => ?_
      have w3p : W3 p = some (.lst ys) := g3.w p _ upd_same
      have g3' : Go M c2 (n + c1 + j * c2) (upd W'' p (.lst ys)) (upd (hid p H'') p (.lst ys)) W3 H3 := by rw [heq]; exact g3
      have gh2 := Go.hide hhx gx.i gx.s g3'
      have ly : ys.length = acc.length + j := by rw [iy.length, la]
      refine ⟨p, ys, v, rfl, rfl, g3.i p _ w3p, Nat.lt_of_lt_of_le (show ys.length < 16000000 by omega) (sl_of (Nat.le_refl _)), ?_⟩
      refine ⟨rfl, hlt, ρ1.set k (some d), a ++ [y], ys ++ [v], hid p W3, by rw [List.length_append, la]; rfl, upd_same, σq, (iy2.up gh2.w).app (.cons (ivy.hide w3p _ _ fy) .nil), hid_same, ?_, ex.up gh2.w, ρq, iy3⟩
      rw [hid_hidupd]
      exact (gx.trans gh2).mono (by omega)
    · have ej : j = items.length := by omega
      subst ej
      refine .inl ⟨(sr W' H' go2.w i2).2, ?_⟩
      have heq : upd (hid p H') p (.lst ys) = H' := upd_hid hH
      have up := Up.new (o := .lst ys) i3 hh
      rw [heq] at up
      have gy := (gh.trans go2).trans (Go.up up (gh.trans go2).s)
      have lp2 : Is K M.mm (upd W' p (.lst ys)) (.ref p) (.list a) := .lst upd_same (iy.up up.w)
      have mm := mulb (Nat.le_refl items.length)
      exact hd items ρ1 a pi p2 X (n + (c1 + items.length * c2 + 0)) σ' (upd W' p (.lst ys)) H' gy.i gy.s (by omega) (EnvOk.reset (by rw [uρ hq1]; exact e2.up up.w) hσ' lp2) D (fun o W2 H2 g2 po => kk o W2 H2 ((gy.trans g2).mono (by omega)) po) nx
/-- [te for k in wi] -/
theorem ev_lc {PI : List PyData → Prop} {L k : Nat} (hw : WH K M c1 wi ρ PI) (hL : ∀ items, PI items → items.length ≤ L ∧ items.length ≤ 16000000) (I : List PyData → Nat → List PyData → Prop) (h0 : ∀ items, PI items → I items 0 [])
    (hs : ∀ items i d a, PI items → items[i]? = some d → I items i a → EV K M c2 te (ρ.set k (some d)) (fun y => flat y = true ∧ I items (i + 1) (a ++ [y])))
    (hd : ∀ items a, PI items → I items items.length a → P (.list a)) : EV K M (c1 + L * c2) (tLc wi (gName k) tYes te [k]) ρ P := fun n σ W H i s l e Q kk =>
  hw n σ W H i s (by omega) e _ fun J items W1 H1 g1 pi _ sr p hp => by
  have hl := (hL items pi).1
  have hl2 := (hL items pi).2
  have mulb : ∀ {a : Nat}, a ≤ items.length → a * c2 ≤ L * c2 := fun {a} ha => Nat.mul_le_mul_right _ (Nat.le_trans ha hl)
  have e1 := e.up g1.w
  refine ⟨fun j m H' => m = items.length - j ∧ j ≤ items.length ∧ ∃ a ys W', a.length = j ∧ H' p = some (.lst ys) ∧ IsAll K M.mm W' ys a ∧ W' p = none ∧ Go M (j * c2) (n + c1) W1 H1 W' (hid p H') ∧ I items j a,
    ⟨items.length, by simp, Nat.zero_le _, [], [], W1, rfl, upd_same, .nil, g1.i.free hp, ?_, h0 items pi⟩, ?_⟩
  · rw [Nat.zero_mul, hid_upd hp]; exact Go.refl g1.i g1.s
  · rintro j m H' ⟨rfl, hj, a, ys, W', la, hH, iy, wp, go2, p2⟩
    have i2 : Same W' H' := go2.i.trans Same.hid_le
    have i3 : Same W' (hid p H') := go2.i
    have hh : (hid p H') p = none := hid_same
    have ly : ys.length = j := by rw [iy.length, la]
    by_cases hlt : j < items.length
    · obtain ⟨d, hd'⟩ : ∃ d, items[j]? = some d := ⟨items[j], by simp [hlt]⟩
      obtain ⟨sg, _⟩ := sr W' H' go2.w i2
      obtain ⟨go3, yl⟩ := sg j d hd'
      refine .inr ⟨go3, fun H2 => items.length - (j + 1) = items.length - (j + 1) ∧ j + 1 ≤ items.length ∧ ∃ a ys W', a.length = j + 1 ∧ H2 p = some (.lst ys) ∧ IsAll K M.mm W' ys a ∧ W' p = none ∧ Go M ((j + 1) * c2) (n + c1) W1 H1 W' (hid p H2) ∧ I items (j + 1) a,
        fun H2 h => ⟨items.length - (j + 1), by omega, h⟩, fun x H'' y => ?_⟩
      obtain ⟨W'', up, iv⟩ := yl x H'' y
      have hp2 : H'' p = some (.lst ys) := up.h p _ hH
      have wp2 : W'' p = none := by rw [up.f p (by rw [hH]; exact fun z => nomatch z)]; exact wp
      have uph : Up W' (hid p H') W'' (hid p H'') := ⟨up.w, same_hid2 up.h, same_hid up.i wp2, fun b hb => by
        have hbp : b ≠ p := fun z => hb (by rw [z]; exact hid_same)
        rw [hid_ne hbp] at hb
        exact up.f b hb, up.t⟩
      have gx : Go M (j * c2) (n + c1) W1 H1 W'' (hid p H'') := (go2.trans (Go.up uph go2.s)).mono (by omega)
      have bnd : (j + 1) * c2 ≤ L * c2 := mulb hlt
      have bnd2 : (j + 1) * c2 = j * c2 + c2 := Nat.succ_mul j c2
      have hhx : (hid p H'') p = none := hid_same
      have iy2 := iy.up up.w
      have heq : upd (hid p H'') p (.lst ys) = H'' := upd_hid hp2
      have sim : Same (upd W'' p (.lst ys)) H'' := by rw [← heq]; exact same_updU gx.i
      have ms : M.S (n + c1 + j * c2) (upd W'' p (.lst ys)) H'' := by
        have z := Mode.S.up1 (ys := ys) hhx gx.i gx.s
        rw [heq] at z
        exact z
      have ex : EnvOk K M.mm (upd W'' p (.lst ys)) ((wipe σ [k]).set k (some x)) (ρ.set k (some d)) := by
        show EnvOk K M.mm (upd W'' p (.lst ys)) ((σ.set k none).set k (some x)) (ρ.set k (some d))
        rw [List.set_set]
        exact ((e1.up gx.w).set iv).up (same_upd wp2)
      refine ⟨by show ((σ.set k none).set k (some x)).set k none = σ.set k none; rw [List.set_set, List.set_set], ?_⟩
      unfold tYes
      refine iteT ?_
      refine hs items j d a pi hd' p2 (n + c1 + j * c2) _ (upd W'' p (.lst ys)) H'' sim ms (by omega) ex _ fun v y W3 H3 g3 ⟨fy, iy3⟩ ivy => ?_
      have w3p : W3 p = some (.lst ys) := g3.w p _ upd_same
      have g3' : Go M c2 (n + c1 + j * c2) (upd W'' p (.lst ys)) (upd (hid p H'') p (.lst ys)) W3 H3 := by rw [heq]; exact g3
      have gh2 := Go.hide hhx gx.i gx.s g3'
      refine ⟨ys, g3.i p _ w3p, Nat.lt_of_lt_of_le (show ys.length < 16000000 by omega) (sl_of (Nat.le_refl _)), ?_⟩
      refine ⟨rfl, hlt, a ++ [y], ys ++ [v], hid p W3, by rw [List.length_append, la]; rfl, upd_same, (iy2.up gh2.w).app (.cons (ivy.hide w3p _ _ fy) .nil), hid_same, ?_, iy3⟩
      rw [hid_hidupd]
      exact (gx.trans gh2).mono (by omega)
    · have ej : j = items.length := by omega
      subst ej
      refine .inl ⟨(sr W' H' go2.w i2).2, ?_⟩
      have heq : upd (hid p H') p (.lst ys) = H' := upd_hid hH
      have up := Up.new (o := .lst ys) i3 hh
      rw [heq] at up
      have gy := (g1.trans go2).trans (Go.up up (g1.trans go2).s)
      have mm := mulb (Nat.le_refl items.length)
      exact kk _ (.list a) (upd W' p (.lst ys)) H' (gy.mono (by omega)) (hd items a pi p2) (.lst upd_same (iy.up up.w))
end
end Kt
set_option Elab.async false
set_option linter.all false
set_option maxRecDepth 100000
set_option maxHeartbeats 4000000
namespace Kt
open PySem PySem.Spec PyProof.Rows L2
section
variable {K : PySem.W.Frag} {M : Mode} {d x : PyData} {ds es : List PyData} {c : Cd} {s : St2} {k l m i j p : Int} {a n many : Nat} {row : List Int} {st : Option St2} {ρ : En} {te ta tb : TE} {tt : TT} {b : Bool} {O : Out → Prop} {t u : TS} {X : XK}
theorem e_and255 (ha : E K M ta ρ (.int i)) : E K M (tOp (rI0 fun i j => .int (Builtin.bitAnd i j)) ta (tC (.int 255))) ρ (.int (i % 256)) := (e_op ha e_int rd_and).eq (by rw [bitAnd_m8])
theorem e_and15 (ha : E K M ta ρ (.int i)) : E K M (tOp (rI0 fun i j => .int (Builtin.bitAnd i j)) ta (tC (.int 15))) ρ (.int (i % 16)) := (e_op ha e_int rd_and).eq (by rw [bitAnd_m4])
theorem e_shr4 (ha : E K M ta ρ (.int i)) : E K M (tOp (rI (fun _ j => 0 ≤ j) fun i j => .int (i / 2 ^ j.toNat)) ta (tC (.int 4))) ρ (.int (i / 16)) := e_op ha e_int (rd_shr (by decide))
theorem e_addN {n : Nat} {k : Int} (hk : (n : Int) = k) (h : E K M te ρ (.int (a : Int))) : E K M (tOp (rI0 fun i j => .int (i + j)) te (tC (.int k))) ρ (.int ((a + n : Nat) : Int)) := (e_add h e_int).eq (by rw [← hk, Int.natCast_add])
theorem sv_bk_level (h : -32768 ≤ l ∧ l ≤ 32767) : SV K M 0 (t_bk_level K) [some (.int l), none] (· = .rt (.tuple [.int (lev l / 256), .int (lev l % 256)])) := by
  refine s_set (d := .int (lev l)) (e_if (t_cI (e_var rfl) e_int) (fun z => ?_) fun z => ?_) ?_
  · exact (e_add (e_var rfl) e_int).eq (by unfold lev; rw [if_pos (of_decide_eq_true z)])
  · exact (e_var rfl).eq (by unfold lev; rw [if_neg (of_decide_eq_false z)])
  · exact s_retD (e_tup (a_cons (e_div (e_var rfl) e_int (by decide)) (a_cons (e_and255 (e_var rfl)) a_nil)) len2) rfl
theorem sv_bk_number : SV K M 0 (t_bk_number K) [some (.int i), some (.int j), none] (· = .rt (.int (num i j))) := by
  refine s_set (e_add (e_mul e_int (e_var rfl) (cmul_of (by decide))) (e_var rfl)) ?_
  refine s_retD (e_if (t_cI (e_var rfl) e_int) (fun z => ?_) fun z => ?_) rfl
  · exact (e_sub (e_var rfl) e_int).eq (by unfold num; rw [if_pos (of_decide_eq_true z)])
  · exact (e_var rfl).eq (by unfold num; rw [if_neg (of_decide_eq_false z)])
theorem sv_bk_signed : SV K M 0 (t_bk_signed K) [some (.int i)] (· = .rt (.int (sg i))) := by
  refine s_retD (e_if (t_cI (e_var rfl) e_int) (fun z => ?_) fun z => ?_) rfl
  · exact (e_sub (e_var rfl) e_int).eq (by unfold sg; rw [if_pos (of_decide_eq_true z)])
  · exact (e_var rfl).eq (by unfold sg; rw [if_neg (of_decide_eq_false z)])
theorem sv_bk_is_byte (h : Nm ds) : SV K M 0 (t_bk_is_byte K) [some (.tuple ds), some (.int (a : Int)), some (.int l), some (.int m)] (· = .rt (.bool (byteAt ds a l m))) := by
  by_cases z : a < ds.length
  · have e : ds[a]? = some ds[a] := List.getElem?_eq_getElem z
    refine s_retD ((e_andV (b1 := true) ((e_op (e_var rfl) (e_len (e_var rfl)) rd_lt).eq (by rw [decide_eq_true (by omega)])) fun _ => e_whole (d := ds[a]) (h _ (List.getElem_mem z)) (a_cons (e_ixT (e_var rfl) (e_var rfl) (at_nat e)) (a_cons (e_var rfl) (a_cons (e_var rfl) a_nil)))).eq ?_) rfl
    unfold byteAt
    rw [e]; rfl
  · refine s_retD ((e_andV (b1 := false) (b2 := false) ((e_op (e_var rfl) (e_len (e_var rfl)) rd_lt).eq (by rw [decide_eq_false (by omega)])) fun z => nomatch z).eq ?_) rfl
    unfold byteAt
    rw [List.getElem?_eq_none (by omega)]; rfl
theorem t_byte {t1 t2 t3 t4 : TE} (h : Nm ds) (h1 : E K M t1 ρ (.tuple ds)) (h2 : E K M t2 ρ (.int (a : Int))) (h3 : E K M t3 ρ (.int l)) (h4 : E K M t4 ρ (.int m)) : T K M (tB (tCall (sp_bk_is_byte K) [] X (tCons t1 (tCons t2 (tCons t3 (tCons t4 tNil)))))) ρ (byteAt ds a l m) :=
  t_val (e_call_pf (ds, a, l, m) h (a_cons h1 (a_cons h2 (a_cons h3 (a_cons h4 a_nil)))))
theorem sg_lev (h : -32768 ≤ l ∧ l ≤ 32767) : sg (lev l / 256) = l.fdiv 256 := by
  rw [fdiv_pos (by decide)]
  unfold sg lev
  split <;> split <;> omega
theorem e_lohi {t1 t2 t3 t4 : TE} (hs : E K M te ρ (oD st)) (h1 : st = none → E K M t1 ρ (.int l) ∧ E K M t2 ρ (.int m)) (h2 : ∀ s, st = some s → E K M t3 ρ (.int l) ∧ E K M t4 ρ (.int m)) :
    E K M (tIf (tTest (tOp rIsN te (tC .non))) (tTup (tCons t1 (tCons t2 tNil))) (tTup (tCons t3 (tCons t4 tNil)))) ρ (.tuple [.int l, .int m]) := by
  cases st with
  | none => exact e_if (t_isN hs) (fun _ => e_tup (a_cons (h1 rfl).1 (a_cons (h1 rfl).2 a_nil)) len2) fun z => nomatch z
  | some s => exact e_if (t_isN hs) (fun z => nomatch z) fun _ => e_tup (a_cons (h2 s rfl).1 (a_cons (h2 s rfl).2 a_nil)) len2
theorem lo_in (hc : c.Ok) (h : OOk c st) : -32768 ≤ loO c st ∧ loO c st ≤ 32767 := by
  have h1 := hc.low
  have h2 := hc.high
  cases st with
  | none => show -32768 ≤ c.low ∧ c.low ≤ 32767; omega
  | some s => have z := (show SOk c s from h).l; show -32768 ≤ s.1 ∧ s.1 ≤ 32767; omega
theorem hi_in (hc : c.Ok) (h : OOk c st) : -32768 ≤ hiO c st ∧ hiO c st ≤ 32767 := by
  have h1 := hc.low
  have h2 := hc.high
  cases st with
  | none => show -32768 ≤ c.high ∧ c.high ≤ 32767; omega
  | some s => have z := (show SOk c s from h).l; show -32768 ≤ s.1 ∧ s.1 ≤ 32767; omega
theorem nb {b : Bool} (h : (!b) = true) : ¬ b = true := by cases b <;> simp at h ⊢
theorem nb2 {b : Bool} (h : (!b) = false) : b = true := by cases b <;> simp at h ⊢
theorem retN {O : Out → Prop} (h : O (.rt d)) : (fun o => O o ∧ ∀ ρ1, o ≠ .nx ρ1) (.rt d) := ⟨h, fun _ z => nomatch z⟩
/-- a statement in pieces: then the rest, by what it leaves; or it ends the def -/
theorem s_thenR {c1 c2 : Nat} (h1 : SV K M c1 t ρ (fun o => (∃ ρ1, o = .nx ρ1 ∧ SV K M c2 u ρ1 O) ∨ (O o ∧ ∀ ρ1, o ≠ .nx ρ1))) : SV K M (c1 + c2) (tSeq t u) ρ O :=
  s_seq h1 (fun ρ1 z => by
    rcases z with ⟨ρ2, z, h⟩ | ⟨_, z⟩
    · cases z; exact h
    · exact absurd rfl (z ρ1)) fun o z n => by
    rcases z with ⟨ρ2, z, _⟩ | ⟨z, _⟩
    · exact absurd z (n _)
    · exact z
theorem outR {A : Prop} {O : Out → Prop} (h : O (.rt d)) : A ∨ (O (.rt d) ∧ ∀ ρ1, Out.rt d ≠ .nx ρ1) := .inr ⟨h, fun _ z => nomatch z⟩
theorem sv_bk_head_fault {mk : Addr} (hk : ∀ mm W, Is K mm W (.ref mk) (.tuple [.int 165, .int 90])) (h : HOk0 c ds st) :
    SV K M 0 (t_bk_head_fault K mk) [some c.d, some (.tuple ds), some (.int (a : Int)), some (oD st), none, none, none, none, none, none, none, none] (· = .rt (oN (hd c ds a st))) := by
  have nm := h.dok.nm
  refine SV.mono (s_thenR (c1 := 0 + 2 * 0) (c2 := 0) (s_for (w_enum (e_c fun W => hk _ W)) (fun items e => by rw [e]; exact Nat.le_refl 2)
    (fun _ i ρ => (0 < i → byteAt ds a 165 165 = true) ∧ (1 < i → byteAt ds (a + 1) 90 90 = true) ∧ ∃ x y, ρ = [some c.d, some (.tuple ds), some (.int (a : Int)), some (oD st), none, x, y, none, none, none, none, none])
    (fun _ _ => ⟨fun z => absurd z (by decide), fun z => absurd z (by decide), _, _, rfl⟩) (fun items i d ρ1 e hi ⟨h1, h2, x, y, hρ⟩ => ?_) fun items ρ1 e ⟨h1, h2, x, y, hρ⟩ => ?_)) (by omega) fun _ p => p
  · subst e hρ
    obtain ⟨z, hz, rfl⟩ := prs_at hi
    refine ⟨_, gv_tup (gvs_cons gv_name (gvs_cons gv_name gvs_nil)) rfl, ?_⟩
    match i, hz, h1, h2 with
    | 0, hz, h1, h2 =>
      cases hz
      refine s_if (t_not (t_byte (a := a + 0) nm (e_var rfl) ((e_add (e_var rfl) (e_var rfl)).eq rfl) (e_var rfl) (e_var rfl))) (fun z => s_retD (e_add (e_var rfl) (e_var rfl)) ?_) fun z => s_next ⟨fun _ => nb2 z, fun z => absurd z (by decide), _, _, rfl⟩
      show _ ∨ _
      refine Or.inr ⟨?_, fun _ z => nomatch z⟩
      rw [show hd c ds a st = some a from by unfold hd; rw [if_neg (nb (b := byteAt ds a 165 165) z)]]; rfl
    | 1, hz, h1, h2 =>
      cases hz
      refine s_if (t_not (t_byte (a := a + 1) nm (e_var rfl) ((e_add (e_var rfl) (e_var rfl)).eq rfl) (e_var rfl) (e_var rfl))) (fun z => s_retD (e_add (e_var rfl) (e_var rfl)) ?_) fun z => s_next ⟨fun _ => h1 (by decide), fun _ => nb2 z, _, _, rfl⟩
      show _ ∨ _
      refine Or.inr ⟨?_, fun _ z => nomatch z⟩
      rw [show hd c ds a st = some (a + 1) from by unfold hd; rw [if_pos (h1 (by decide)), if_neg (nb z)]]; rfl
    | i + 2, hz, _, _ => cases hz
  · subst e hρ
    have b0 := h1 (by decide)
    have b1 := h2 (by decide)
    have hl := lo_in h.cok h.ook
    have hh := hi_in h.cok h.ook
    refine .inl ⟨_, rfl, ?_⟩
    refine s_setG (e_lohi (l := loO c st) (m := hiO c st) (e_var rfl) (fun e => by subst e; exact ⟨e_ixT (e_var rfl) e_int rfl, e_ixT (e_var rfl) e_int rfl⟩) fun s e => by subst e; exact ⟨e_ixT (e_var rfl) e_int rfl, e_ixT (e_var rfl) e_int rfl⟩) (gv_tup (gvs_cons gv_name (gvs_cons gv_name gvs_nil)) rfl) ?_
    refine s_set (d := .list [.int (sg (lev (loO c st) / 256)), .int (sg (lev (hiO c st) / 256))]) (EV.mono (ev_lc (c2 := 0) (L := 2) (P := (· = .list [.int (sg (lev (loO c st) / 256)), .int (sg (lev (hiO c st) / 256))]))
      (wh_tup (e_tup (a_cons (e_var rfl) (a_cons (e_var rfl) a_nil)) len2) rfl) (fun items e => by rw [e]; exact ⟨Nat.le_refl 2, len2⟩)
      (fun items i acc => acc = ([.int (sg (lev (loO c st) / 256)), .int (sg (lev (hiO c st) / 256))] : List PyData).take i) (fun _ _ => rfl) (fun items i d acc e hi ha => ?_) fun items acc e ha => by rw [ha, e]; rfl) (by omega) fun _ p => p) ?_
    · subst e ha
      match i, hi with
      | 0, hi =>
        cases hi
        exact EV.mono (e_call_pf (lev (loO c st) / 256) trivial (a_cons (e_ixT (e_call_pf (loO c st) hl (a_cons (e_var rfl) a_nil)) e_int rfl) a_nil)) (by omega) fun y e => by subst e; exact ⟨rfl, rfl⟩
      | 1, hi =>
        cases hi
        exact EV.mono (e_call_pf (lev (hiO c st) / 256) trivial (a_cons (e_ixT (e_call_pf (hiO c st) hh (a_cons (e_var rfl) a_nil)) e_int rfl) a_nil)) (by omega) fun y e => by subst e; exact ⟨rfl, rfl⟩
      | i + 2, hi => cases hi
    rw [sg_lev hl, sg_lev hh]
    have at2 : byteAt ds (a + 2) 0 255 = true → ∀ {σ : En} {t1 t2 : TE}, E K M t1 σ (.tuple ds) → E K M t2 σ (.int (a : Int)) → E K M (tOp (rIxT K) t1 (tOp (rI0 fun i j => .int (i + j)) t2 (tC (.int 2)))) σ (.int (intAt ds (a + 2))) :=
      fun z => fun h1 h2 => e_ixT h1 (e_addN (n := 2) rfl h2) (at_nat (byteAt_int z).1)
    have at3 : byteAt ds (a + 3) 0 255 = true → ∀ {σ : En} {t1 t2 : TE}, E K M t1 σ (.tuple ds) → E K M t2 σ (.int (a : Int)) → E K M (tOp (rIxT K) t1 (tOp (rI0 fun i j => .int (i + j)) t2 (tC (.int 3)))) σ (.int (intAt ds (a + 3))) :=
      fun z => fun h1 h2 => e_ixT h1 (e_addN (n := 3) rfl h2) (at_nat (byteAt_int z).1)
    refine s_ifr (t_or (t_not (t_byte (a := a + 2) nm (e_var rfl) (e_addN (n := 2) rfl (e_var rfl)) e_int e_int)) fun z => t_not (t_test (e_chainI (e_ixL (e_var rfl) e_int rfl) (e_call_pf (intAt ds (a + 2)) trivial (a_cons (at2 (nb2 z) (e_var rfl) (e_var rfl)) a_nil)) (e_ixL (e_var rfl) e_int rfl))))
      (fun z => s_retD (e_addN (n := 2) rfl (e_var rfl)) ⟨?_, fun _ z => nomatch z⟩) fun z => ?_
    · rw [show hd c ds a st = some (a + 2) from by
        unfold hd
        rw [if_pos b0, if_pos b1, if_neg]
        intro ⟨q1, q2, q3⟩
        rw [q1, dec_and ⟨q2, q3⟩] at z
        cases z]
    have z2 : byteAt ds (a + 2) 0 255 = true ∧ (loO c st).fdiv 256 ≤ sg (intAt ds (a + 2)) ∧ sg (intAt ds (a + 2)) ≤ (hiO c st).fdiv 256 := by
      simpa using z
    refine s_ifr (t_or (t_not (t_byte (a := a + 3) nm (e_var rfl) (e_addN (n := 3) rfl (e_var rfl)) e_int e_int)) fun z => t_not (t_test (e_chainI (e_var rfl) (e_call_pf (intAt ds (a + 2), intAt ds (a + 3)) trivial (a_cons (at2 z2.1 (e_var rfl) (e_var rfl)) (a_cons (at3 (nb2 z) (e_var rfl) (e_var rfl)) a_nil))) (e_var rfl))))
      (fun z => s_retD (e_addN (n := 3) rfl (e_var rfl)) ⟨?_, fun _ z => nomatch z⟩) fun z => ?_
    · rw [show hd c ds a st = some (a + 3) from by
        unfold hd
        rw [if_pos b0, if_pos b1, if_pos z2, if_neg]
        intro ⟨q1, q2, q3⟩
        rw [q1, dec_and ⟨q2, q3⟩] at z
        cases z]
    have z3 : byteAt ds (a + 3) 0 255 = true ∧ loO c st ≤ num (intAt ds (a + 2)) (intAt ds (a + 3)) ∧ num (intAt ds (a + 2)) (intAt ds (a + 3)) ≤ hiO c st := by
      simpa using z
    refine s_setG (e_lohi (l := leO c st) (m := moO c st) (e_var rfl) (fun e => by subst e; exact ⟨e_int, (e_sub (e_len (e_ixT (e_var rfl) e_int rfl)) e_int).eq (by rw [List.length_map])⟩) fun s e => by subst e; exact ⟨e_ixT (e_var rfl) e_int rfl, e_ixT (e_var rfl) e_int rfl⟩) (gv_tup (gvs_cons gv_name (gvs_cons gv_name gvs_nil)) rfl) ?_
    refine s_ifr (t_not (t_byte (a := a + 4) nm (e_var rfl) (e_addN (n := 4) rfl (e_var rfl)) (e_var rfl) (e_var rfl))) (fun z => s_retD (e_addN (n := 4) rfl (e_var rfl)) ⟨?_, fun _ z => nomatch z⟩) fun z => ?_
    · rw [show hd c ds a st = some (a + 4) from by unfold hd; rw [if_pos b0, if_pos b1, if_pos z2, if_pos z3, if_neg (nb z)]]
    refine s_retD (d := oN (hd c ds a st)) (e_if (t_byte (a := a + 5) nm (e_var rfl) (e_addN (n := 5) rfl (e_var rfl)) e_int e_int) (fun q => ?_) fun q => ?_) rfl
    · rw [show hd c ds a st = none from by unfold hd; rw [if_pos b0, if_pos b1, if_pos z2, if_pos z3, if_pos (nb2 z), if_pos q]]
      exact e_non
    · rw [show hd c ds a st = some (a + 5) from by unfold hd; rw [if_pos b0, if_pos b1, if_pos z2, if_pos z3, if_pos (nb2 z), if_neg (by rw [q]; exact Bool.false_ne_true)]]
      exact e_addN (n := 5) rfl (e_var rfl)
end
end Kt
set_option Elab.async false
set_option linter.all false
set_option maxRecDepth 100000
set_option maxHeartbeats 4000000
namespace Kt
open PySem PySem.Spec PyProof.Rows L2
section
variable {K : PySem.W.Frag} {M : Mode} {d x : PyData} {ds es : List PyData} {c : Cd} {s : St2} {k l m i j p : Int} {a n many : Nat} {row : List Int} {st : Option St2} {ρ : En} {te ta tb : TE} {tt : TT} {b : Bool} {O : Out → Prop} {t u : TS} {X : XK}
theorem body_succ {k j : Nat} : body c ds a many (k + 1) j row = if okB c ds (a + j) (decide (2 * j + 1 = many)) = true then body c ds a many k (j + 1) (row ++ [intAt ds (a + j) % 16, intAt ds (a + j) / 16]) else (some (a + j), row) := rfl
theorem sv_bk_codes (hc : c.Ok) (hd : DOk ds) (hm : many ≤ 255) : SV K M 0 (t_bk_codes K) [some c.d, some (.tuple ds), some (.int (a : Int)), some (.int (many : Int)), none, none, none, none] (· = .rt (bcD many (body c ds a many ((many + 1) / 2) 0 []))) := by
  refine s_set (e_lst a_nil (Nat.zero_le _)) ?_
  refine SV.mono (s_thenR (c1 := 0 + ((many + 1) / 2) * 0) (c2 := 0) (s_for (w_rangeD (n := (many + 1) / 2) ((e_div (e_add (e_var rfl) e_int) e_int (by decide)).eq (by rw [Int.natCast_ediv, Int.natCast_add]; rfl)) (by omega)) (fun items e => by rw [e, ixs_len]; exact Nat.le_refl _)
    (fun _ i ρ => i ≤ (many + 1) / 2 ∧ ∃ r x y z, r.length = 2 * i ∧ body c ds a many ((many + 1) / 2) 0 [] = body c ds a many ((many + 1) / 2 - i) i r ∧ ρ = [some c.d, some (.tuple ds), some (.int (a : Int)), some (.int (many : Int)), some (.list (zz r)), x, y, z])
    (fun _ _ => ⟨Nat.zero_le _, [], _, _, _, rfl, rfl, rfl⟩) (fun items i d ρ1 e hi ⟨h1, r, x, y, z, hr, hb, hρ⟩ => ?_) fun items ρ1 e ⟨h1, r, x, y, z, hr, hb, hρ⟩ => ?_)) (by omega) fun _ p => p
  · subst e hρ
    obtain ⟨hlt, rfl⟩ := ixs_at hi
    refine ⟨_, gv_name, ?_⟩
    have e1 : (many + 1) / 2 - i = ((many + 1) / 2 - (i + 1)) + 1 := by omega
    rw [e1, body_succ] at hb
    refine s_set ((e_add (e_var rfl) (e_var rfl)).eq (d' := .int ((a + i : Nat) : Int)) (by rw [Int.natCast_add])) ?_
    refine s_ifr (t_not (t_byte hd.nm (e_var rfl) (e_var rfl) e_int e_int)) (fun q => s_retD (e_tup (a_cons (e_var rfl) (a_cons (e_var rfl) a_nil)) len2) ⟨?_, fun _ z => nomatch z⟩) fun q => ?_
    · show _ ∨ _
      refine Or.inr ⟨?_, fun _ z => nomatch z⟩
      have no : ¬ okB c ds (a + i) (decide (2 * i + 1 = many)) = true := fun w => by
        unfold okB at w
        rw [Bool.and_eq_true] at w
        rw [w.1] at q
        cases q
      rw [hb, if_neg no]
    have hv := byteAt_int (nb2 q)
    refine s_set (e_lst (a_cons (e_and15 (e_ixT (e_var rfl) (e_var rfl) (at_nat hv.1))) (a_cons (e_shr4 (e_ixT (e_var rfl) (e_var rfl) (at_nat hv.1))) a_nil)) len2) ?_
    have lm : ((c.moves.map mvD).length : Int) = c.moves.length := by rw [List.length_map]
    refine s_ifr (t_or (t_cI (e_ixL (e_var rfl) e_int rfl) (e_len (e_ixT (e_var rfl) e_int rfl))) fun _ => t_or (t_cI (e_ixL (e_var rfl) e_int rfl) (e_len (e_ixT (e_var rfl) e_int rfl))) fun _ =>
      t_and (t_eq (e_add (e_mul e_int (e_var rfl) (cmul_of (by decide))) e_int) (e_var rfl)) fun _ => t_ne (e_ixL (e_var rfl) e_int rfl) e_int)
      (fun q2 => s_retD (e_tup (a_cons (e_var rfl) (a_cons (e_var rfl) a_nil)) len2) ⟨?_, fun _ z => nomatch z⟩) fun q2 => ?_
    · show _ ∨ _
      refine Or.inr ⟨?_, fun _ z => nomatch z⟩
      have no : ¬ okB c ds (a + i) (decide (2 * i + 1 = many)) = true := fun w => by
        unfold okB at w
        simp only [Bool.and_eq_true, Bool.or_eq_true, decide_eq_true_eq, Bool.not_eq_true', decide_eq_false_iff_not] at w q2
        omega
      rw [hb, if_neg no]
    have yes : okB c ds (a + i) (decide (2 * i + 1 = many)) = true := by
      unfold okB
      have q3 := nb2 q
      simp only [Bool.and_eq_true, Bool.or_eq_true, decide_eq_true_eq, Bool.not_eq_true', decide_eq_false_iff_not, Bool.or_eq_false_iff, Bool.and_eq_false_iff, Bool.not_eq_false'] at q2 ⊢
      refine ⟨q3, ?_⟩
      omega
    rw [if_pos yes] at hb
    refine s_set1 ((e_op (e_var rfl) (e_var rfl) (rd_cat ?_)).eq (d' := .list (zz (r ++ [intAt ds (a + i) % 16, intAt ds (a + i) / 16]))) (by unfold zz; rw [List.map_append]; rfl)) ?_
    · rw [List.length_map, hr]; show 2 * i + 2 ≤ 16000000; omega
    · exact ⟨hlt, _, _, _, _, by rw [List.length_append, hr]; rfl, hb, rfl⟩
  · subst e hρ
    rw [ixs_len] at hr hb
    rw [Nat.sub_self] at hb
    refine .inl ⟨_, rfl, ?_⟩
    refine s_retD (e_tup (a_cons (e_slL (e_var rfl) o_none (o_some (e_var rfl))) (a_cons e_non a_nil)) len2) ?_
    rw [hb]
    show Out.rt (.tuple [.list (cutD (zz r) none (some (many : Int))), .none]) = Out.rt (.tuple [.list (zz (r.take many)), .none])
    rw [cutD_to]; unfold zz; rw [List.map_take]
end
end Kt
set_option Elab.async false
set_option linter.all false
set_option maxRecDepth 100000
set_option maxHeartbeats 4000000
namespace Kt
open PySem PySem.Spec PyProof.Rows L2
section
variable {K : PySem.W.Frag} {M : Mode} {d x : PyData} {ds es : List PyData} {c : Cd} {s : St2} {k l m i j p : Int} {a n many : Nat} {row : List Int} {st : Option St2} {ρ : En} {te ta tb : TE} {tt : TT} {b : Bool} {O : Out → Prop} {t u : TS} {X : XK}
theorem hd_none (h : hd c ds a st = none) : (byteAt ds a 165 165 = true ∧ byteAt ds (a + 1) 90 90 = true) ∧ (byteAt ds (a + 2) 0 255 = true ∧ (loO c st).fdiv 256 ≤ sg (intAt ds (a + 2)) ∧ sg (intAt ds (a + 2)) ≤ (hiO c st).fdiv 256) ∧
    (byteAt ds (a + 3) 0 255 = true ∧ loO c st ≤ num (intAt ds (a + 2)) (intAt ds (a + 3)) ∧ num (intAt ds (a + 2)) (intAt ds (a + 3)) ≤ hiO c st) ∧ byteAt ds (a + 4) (leO c st) (moO c st) = true ∧ byteAt ds (a + 5) 1 255 = true := by
  unfold hd at h
  split at h
  · split at h
    · split at h
      · split at h
        · split at h
          · split at h
            · exact ⟨⟨by assumption, by assumption⟩, by assumption, by assumption, by assumption, by assumption⟩
            · cases h
          · cases h
        · cases h
      · cases h
    · cases h
  · cases h
theorem okB_in {f : Bool} {q : Nat} (h : okB c ds q f = true) : byteAt ds q 0 255 = true ∧ CodeOk c (intAt ds q % 16) ∧ CodeOk c (intAt ds q / 16) := by
  unfold okB at h
  simp only [Bool.and_eq_true, decide_eq_true_eq] at h
  obtain ⟨h1, h2, h3, _⟩ := h
  have z := byteAt_int h1
  exact ⟨h1, ⟨by omega, h2⟩, ⟨by omega, h3⟩⟩
theorem body_none : ∀ {k j : Nat} {row r : List Int}, body c ds a many k j row = (none, r) → ROk c row → (∀ i, j ≤ i → i < j + k → byteAt ds (a + i) 0 255 = true) ∧ r.length = row.length + 2 * k ∧ ROk c r
  | 0, j, row, r, h, hr => by
    have e : row = r := (Prod.mk.injEq _ _ _ _ ▸ (show (none, row) = ((none : Option Nat), r) from h)).2
    subst e
    exact ⟨fun i h1 h2 => by omega, rfl, hr⟩
  | k + 1, j, row, r, h, hr => by
    rw [body_succ] at h
    by_cases z : okB c ds (a + j) (decide (2 * j + 1 = many)) = true
    · rw [if_pos z] at h
      obtain ⟨z1, z2, z3⟩ := okB_in z
      obtain ⟨h1, h2, h3⟩ := body_none h (fun y hy => by
        rcases List.mem_append.mp hy with q | q
        · exact hr y q
        · rcases List.mem_cons.mp q with q | q
          · rw [q]; exact z2
          · rcases List.mem_cons.mp q with q | q
            · rw [q]; exact z3
            · cases q)
      refine ⟨fun i q1 q2 => ?_, by rw [h2, List.length_append]; show row.length + 2 + 2 * k = _; omega, h3⟩
      by_cases e : i = j
      · rw [e]; exact z1
      · exact h1 i (by omega) (by omega)
    · rw [if_neg z] at h
      cases h
theorem ints_at : ∀ {xs : List PyData}, (∀ i, i < xs.length → ∃ z : Int, xs[i]? = some (.int z)) → xs = zz (xs.map intOf)
  | [], _ => rfl
  | x :: xs, h => by
    obtain ⟨z, e⟩ := h 0 (Nat.zero_lt_succ _)
    have e : x = .int z := by simpa using e
    subst e
    have ih := ints_at (xs := xs) fun i hi => by
      obtain ⟨y, hy⟩ := h (i + 1) (Nat.succ_lt_succ hi)
      exact ⟨y, by simpa using hy⟩
    show PyData.int z :: xs = .int z :: zz (xs.map intOf)
    rw [← ih]
theorem cut_ints {q e : Nat} (h : ∀ i, q ≤ i → i < e → ∃ z : Int, ds[i]? = some (.int z)) : cutD ds (some (q : Int)) (some (e : Int)) = zz (((ds.drop q).take (e - q)).map intOf) := by
  rw [cutD_mid]
  refine ints_at fun i hi => ?_
  rw [List.length_take, List.length_drop] at hi
  obtain ⟨z, hz⟩ := h (q + i) (by omega) (by omega)
  refine ⟨z, ?_⟩
  rw [List.getElem?_take_of_lt (by omega), List.getElem?_drop]
  exact hz
theorem e_sumT (h : E K M te ρ (.tuple (zz row))) : E K M (tCB (rSumT K) (tCons te tNil)) ρ (.int row.sum) := e_callB (a_cons h a_nil) cd_sumT
theorem e_sumL (h : E K M te ρ (.list (zz row))) : E K M (tCB (rSum K) (tCons te tNil)) ρ (.int row.sum) := e_callB (a_cons h a_nil) cd_sumL
theorem e_tupl (h : E K M te ρ (.list ds)) : E K M (tCB (rTupQ K) (tCons te tNil)) ρ (.tuple ds) := e_callB (a_cons h a_nil) cd_tup
theorem e_listT (h : E K M te ρ (.tuple ds)) : E K M (tCB (rListQ K) (tCons te tNil)) ρ (.list ds) := e_callB (a_cons h a_nil) cd_list
/-- what the head and the codes say of the things between -/
theorem got_ints {r : List Int} (h : hd c ds a st = none) (hb : body c ds (a + 6) many ((many + 1) / 2) 0 [] = (none, r)) (i : Nat) (h1 : a + 2 ≤ i) (h2 : i < a + 6 + (many + 1) / 2) : ∃ z : Int, ds[i]? = some (.int z) := by
  obtain ⟨_, ⟨b2, _⟩, ⟨b3, _⟩, b4, b5⟩ := hd_none h
  by_cases e : a + 6 ≤ i
  · have z := (body_none hb (fun y hy => by cases hy)).1 (i - (a + 6)) (Nat.zero_le _) (by omega)
    rw [show a + 6 + (i - (a + 6)) = i by omega] at z
    exact ⟨_, (byteAt_int z).1⟩
  · have e2 : i = a + 2 ∨ i = a + 3 ∨ i = a + 4 ∨ i = a + 5 := by omega
    rcases e2 with e | e | e | e
    · rw [e]; exact ⟨_, (byteAt_int b2).1⟩
    · rw [e]; exact ⟨_, (byteAt_int b3).1⟩
    · rw [e]; exact ⟨_, (byteAt_int b4).1⟩
    · rw [e]; exact ⟨_, (byteAt_int b5).1⟩
theorem blk_some {q : Nat} (h : hd c ds a st = some q) : blk c ds a st = .inl q := by unfold blk; rw [h]
theorem blk_none (h : hd c ds a st = none) : blk c ds a st = match body c ds (a + 6) (intAt ds (a + 5)).toNat (((intAt ds (a + 5)).toNat + 1) / 2) 0 [] with
    | (some i, _) => .inl i
    | (none, row) => tail0 ds a (a + 6 + ((intAt ds (a + 5)).toNat + 1) / 2) (intAt ds (a + 5)).toNat row := by
  unfold blk; rw [h]
  all_goals rfl
theorem many_at (h : hd c ds a st = none) : ds[a + 5]? = some (.int (((intAt ds (a + 5)).toNat : Nat) : Int)) ∧ 1 ≤ (intAt ds (a + 5)).toNat ∧ (intAt ds (a + 5)).toNat ≤ 255 := by
  obtain ⟨_, _, _, _, b5⟩ := hd_none h
  obtain ⟨z, z1, z2⟩ := byteAt_int b5
  have e : (((intAt ds (a + 5)).toNat : Nat) : Int) = intAt ds (a + 5) := Int.toNat_of_nonneg (by omega)
  exact ⟨by rw [e]; exact z, by omega, by omega⟩
theorem sv_bk_read (h : HOk0 c ds st) : SV K M 0 (t_bk_read K) [some c.d, some (.tuple ds), some (.int (a : Int)), some (oD st), none, none, none, none, none] (· = .rt (brD (blk c ds a st))) := by
  refine s_set (e_call_pf (c, ds, a, st) h (a_cons (e_var rfl) (a_cons (e_var rfl) (a_cons (e_var rfl) (a_cons (e_var rfl) a_nil))))) ?_
  show SV K M 0 _ [some c.d, some (.tuple ds), some (.int (a : Int)), some (oD st), some (oN (hd c ds a st)), none, none, none, none] _
  cases e : hd c ds a st with
  | some q =>
    rw [blk_some e]
    exact s_take (t_notN (e_var rfl)) rfl (s_retD (e_tup (a_cons (e_var rfl) (a_cons e_non (a_cons e_non a_nil))) len3) ⟨rfl, fun _ z => nomatch z⟩)
  | none =>
    rw [blk_none e]
    obtain ⟨m1, m2, m3⟩ := many_at e
    obtain ⟨_, ⟨b2, _⟩, ⟨b3, _⟩, b4, b5⟩ := hd_none e
    generalize (intAt ds (a + 5)).toNat = many at m1 m2 m3 ⊢
    refine s_skip (t_notN (e_var rfl)) rfl ?_
    refine s_set (e_ixT (e_var rfl) (e_addN (n := 5) rfl (e_var rfl)) (at_nat m1)) ?_
    refine s_setG (e_call_pf (c, ds, a + 6, many) ⟨h.cok, h.dok, m3⟩ (a_cons (e_var rfl) (a_cons (e_var rfl) (a_cons (e_addN (n := 6) rfl (e_var rfl)) (a_cons (e_var rfl) a_nil))))) (gv_tup (gvs_cons gv_name (gvs_cons gv_name gvs_nil)) rfl) ?_
    show SV K M 0 _ (([some c.d, some (.tuple ds), some (.int (a : Int)), some (oD st), some .none, some (.int (many : Int)), none, none, none].set 8 (some (.list (zz _)))).set 4 (some (oN _))) _
    cases eb : body c ds (a + 6) many ((many + 1) / 2) 0 [] with
    | mk f r =>
      cases f with
      | some q => exact s_take (t_notN (e_var rfl)) rfl (s_retD (e_tup (a_cons (e_var rfl) (a_cons e_non (a_cons e_non a_nil))) len3) ⟨rfl, fun _ z => nomatch z⟩)
      | none =>
        refine s_skip (t_notN (e_var rfl)) rfl ?_
        have ee : E K M (tOp (rI0 fun i j => .int (i + j)) (tOp (rI0 fun i j => .int (i + j)) (tVar 2) (tC (.int 6))) (tOp (rI CDivN fun i j => .int (i.fdiv j)) (tOp (rI0 fun i j => .int (i + j)) (tVar 5) (tC (.int 1))) (tC (.int 2))))
            [some c.d, some (.tuple ds), some (.int (a : Int)), some (oD st), some .none, some (.int (many : Int)), none, none, some (.list (zz (r.take many)))] (.int ((a + 6 + (many + 1) / 2 : Nat) : Int)) :=
          (e_add (e_addN (n := 6) rfl (e_var rfl)) (e_div (e_addN (n := 1) rfl (e_var rfl)) e_int (by decide))).eq (by rw [Int.natCast_add (a + 6), Int.natCast_ediv]; rfl)
        refine s_set ee ?_
        refine s_set (e_and255 (e_sumT ((e_slT (e_var rfl) (o_some (e_addN (n := 2) rfl (e_var rfl))) (o_some (e_var rfl))).eq (congrArg PyData.tuple (cut_ints (got_ints e eb)))))) ?_
        show SV K M 0 _ [some c.d, some (.tuple ds), some (.int (a : Int)), some (oD st), some .none, some (.int (many : Int)), some (.int ((a + 6 + (many + 1) / 2 : Nat) : Int)), some (.int (sumAt ds (a + 2) (a + 6 + (many + 1) / 2) % 256)), some (.list (zz (r.take many)))] (fun o => o = .rt (brD (tail0 ds a (a + 6 + (many + 1) / 2) many r)))
        unfold tail0
        generalize a + 6 + (many + 1) / 2 = en
        refine s_ifr (t_not (t_byte h.dok.nm (e_var rfl) (e_var rfl) (e_var rfl) (e_var rfl))) (fun z => s_retD (e_tup (a_cons (e_var rfl) (a_cons e_non (a_cons e_non a_nil))) len3) ⟨?_, fun _ z => nomatch z⟩) fun z => ?_
        · rw [if_neg (nb z)]
        · rw [if_pos (nb2 z)]
          exact s_retD (e_tup (a_cons (e_addN (n := 1) rfl (e_var rfl)) (a_cons (e_tup (a_cons (e_call_pf (intAt ds (a + 2), intAt ds (a + 3)) trivial (a_cons (e_ixT (e_var rfl) (e_addN (n := 2) rfl (e_var rfl)) (at_nat (byteAt_int b2).1)) (a_cons (e_ixT (e_var rfl) (e_addN (n := 3) rfl (e_var rfl)) (at_nat (byteAt_int b3).1)) a_nil)))
            (a_cons (e_ixT (e_var rfl) (e_addN (n := 4) rfl (e_var rfl)) (at_nat (byteAt_int b4).1)) a_nil)) len2) (a_cons (e_tupl (e_var rfl)) a_nil))) len3) rfl
end
end Kt
set_option Elab.async false
set_option linter.all false
set_option maxRecDepth 100000
set_option maxHeartbeats 4000000
namespace Kt
open PySem PySem.Spec PyProof.Rows L2
section
variable {K : PySem.W.Frag} {M : Mode} {d x : PyData} {ds es : List PyData} {c : Cd} {s : St2} {k l m i j p : Int} {a n many : Nat} {row sizes : List Int} {st : Option St2} {ρ : En} {te ta tb : TE} {tt : TT} {b : Bool} {O : Out → Prop} {t u : TS} {X : XK}
/-- if t: x = e; x is d in any case -/
theorem s_ifset {c k : Nat} (h : T K M tt ρ b) (h1 : b = true → E K M te ρ d) (h2 : b = false → ρ[k]? = some (some d)) (r : SV K M c u (ρ.set k (some d)) O) : SV K M c (tSeq (tIfS tt (tAsg te (gName k)) tNext) u) ρ O := by
  refine SV.mono (s_then (c1 := 0) (c2 := c) (s_if h (fun z => s_set1 (h1 z) ⟨_, rfl, r⟩) fun z => s_next ⟨_, rfl, ?_⟩)) (by omega) fun _ p => p
  have e : ρ.set k (some d) = ρ := by
    obtain ⟨q1, q2⟩ := List.getElem?_eq_some_iff.mp (h2 z)
    rw [← q2]; exact List.set_getElem_self q1
  rw [e] at r
  exact r
theorem sv_law_led (h : LOk c s k) : SV K M 0 (t_law_led K) [some c.d, some (sd s), some (.int k), none, none, none] (· = .rt (sd (led c s k))) := by
  have q := mv_in h.cok h.kok
  have q2 := st_in h.cok h.sok.p
  refine s_setG (e_ixT (e_ixT (e_var rfl) e_int rfl) (e_var rfl) (mv_at h.kok)) (gv_tup (gvs_cons gv_name (gvs_cons gv_name gvs_nil)) rfl) ?_
  refine s_set (e_ixT (e_var rfl) e_int rfl) ?_
  refine s_ifset (d := .int (faded c s.1)) (t_ne (e_ixT (e_var rfl) e_int rfl) e_int) (fun z => ?_) (fun z => ?_) ?_
  · have z : ¬ c.fade = 0 := by simpa using z
    exact (e_sub (e_var rfl) (e_call_pf (s.1, c.fade) (fade_in h.cok z) (a_cons (e_var rfl) (a_cons (e_ixT (e_var rfl) e_int rfl) a_nil)))).eq (by unfold faded; rw [if_neg z])
  · have z : c.fade = 0 := by simpa using z
    unfold faded
    rw [if_pos z]
    rfl
  · refine s_set (e_add (e_var rfl) (e_call_pf ((c.moves.getD k.toNat (0, 0)).1 * c.steps.getD s.2.toNat 0, 8) ⟨show (0 : Int) < 8 by decide, show (8 : Int) < 1073741824 by decide⟩ (a_cons (e_mul (e_var rfl) (e_ixT (e_ixT (e_var rfl) e_int rfl) (e_ixT (e_var rfl) e_int rfl) (st_at h.sok.p)) (cmul_of (by omega))) (a_cons e_int a_nil)))) ?_
    exact s_retD (E.eq (e_tup (a_cons (e_call_pf (faded c s.1 + mv1 c k s.2, c.low, c.high) trivial (a_cons (e_var rfl) (a_cons (e_ixT (e_var rfl) e_int rfl) (a_cons (e_ixT (e_var rfl) e_int rfl) a_nil))))
      (a_cons (e_call_pf (s.2 + (c.moves.getD k.toNat (0, 0)).2, 0, (c.steps.length : Int) - 1) trivial (a_cons (e_add (e_ixT (e_var rfl) e_int rfl) (e_var rfl)) (a_cons e_int (a_cons ((e_sub (e_len (e_ixT (e_var rfl) e_int rfl)) e_int).eq (by rw [List.length_map])) a_nil)))) a_nil)) len2) rfl) rfl
theorem states_end : ∃ l, (states c s row).map sd = l ++ [sd (walk c s row)] := by
  obtain ⟨ys, e⟩ := List.getLast?_eq_some_iff.mp (states_last (c := c) (row := row) (s := s))
  exact ⟨ys.map sd, by rw [e, List.map_append]; rfl⟩
theorem at_states : L2.atI ((states c s row).map sd) (-1) = some (sd (walk c s row)) := by
  obtain ⟨l, e⟩ := states_end (c := c) (s := s) (row := row)
  rw [e]
  exact atI_last _ _
theorem flat_zz : flatAll (zz row) = true := by
  induction row with
  | nil => rfl
  | cons x r ih => exact ih
theorem sv_law_walked (h : WOk c s row) : SV K M 0 (t_law_walked K) [some c.d, some (sd s), some (.tuple (zz row)), none, none] (· = .rt (.list ((states c s row).map sd))) := by
  have hl := h.l
  refine SV.mono (s_grow (ds := [sd s]) (c1 := 0) (c2 := 0 + row.length * 0 + 0) (by show 3 < 5; decide) (a_cons (e_var rfl) a_nil) len1 (lv_for (k := 4) (PI := (· = zz row)) (wh_tup (e_var rfl) flat_zz) (fun items e => by rw [e, List.length_map]; exact ⟨Nat.le_refl _, by show 1 + row.length ≤ _; omega⟩) (by decide)
    (fun _ i ρ acc => acc = (states c s (row.take i)).map sd ∧ ∃ x, ρ = [some c.d, some (sd s), some (.tuple (zz row)), none, x]) (fun _ _ => ⟨rfl, _, rfl⟩) (fun items i d ρ1 acc e hi ⟨ha, x, hρ⟩ => ?_) (fun items ρ1 acc e ⟨ha, x, hρ⟩ => ?_) rfl)) (by omega) fun _ p => p
  · subst e hρ ha
    obtain ⟨z, hz, rfl⟩ := zz_at hi
    refine EV.mono (e_call_pf (c, walk c s (row.take i), z) ⟨h.cok, walk_ok h.cok h.sok, h.rok z (List.mem_of_getElem? hz)⟩ (a_cons (e_var rfl) (a_cons (e_ixL (e_var rfl) (e_neg e_int) at_states) (a_cons (e_var rfl) a_nil)))) (by omega) fun y e => ?_
    subst e
    refine ⟨rfl, ?_, _, rfl⟩
    rw [List.take_succ, hz]
    show _ = (states c s (row.take i ++ [z])).map sd
    rw [states_snoc, List.map_append, walk_snoc]
    rfl
  · subst e hρ ha
    refine s_retD (e_var rfl) ?_
    rw [List.length_map, List.take_length]
theorem pairs_len : (pairs row).length = (row.length + 1) / 2 := by unfold pairs; simp
theorem inner_len : (inner s row).length = 4 + (row.length + 1) / 2 := by unfold inner; rw [List.length_append, pairs_len]; rfl
theorem blockB_len : (blockB s row).length = 7 + (row.length + 1) / 2 := by unfold blockB; rw [List.length_append, List.length_append, inner_len]; show 2 + (4 + _) + 1 = _; omega
theorem getD_at {i : Nat} (h : i < row.length) : (zz row)[i]? = some (.int (row.getD i 0)) := by
  rw [List.getElem?_map, List.getElem?_eq_getElem h, List.getD_eq_getElem?_getD, List.getElem?_eq_getElem h]; rfl
theorem getD_in (h : ∀ k ∈ row, 0 ≤ k ∧ k < 16) (i : Nat) : 0 ≤ row.getD i 0 ∧ row.getD i 0 < 16 := by
  rw [List.getD_eq_getElem?_getD]
  cases e : row[i]? with
  | none => exact ⟨by decide, by decide⟩
  | some z => exact h z (List.mem_of_getElem? e)
theorem sv_law_block (h : BOk s row) : SV K M 0 (t_law_block K) [some (sd s), some (.tuple (zz row)), none, none, none, none] (· = .rt (.tuple (zz (blockB s row)))) := by
  have hl := h.l
  refine SV.mono (s_growP (k := 4) (q := 5) (c2 := 0 + ((row.length + 1) / 2) * 0 + 0) (by show 5 < 6; decide) (e_mod (e_ixT (e_var rfl) e_int rfl) e_int (by decide)) (by decide) (lv_for (k := 2) (PI := (· = ixs ((row.length + 1) / 2)))
    (wh_rangeD (n := (row.length + 1) / 2) ((e_div (e_add (e_len (e_var rfl)) e_int) e_int (by decide)).eq (by rw [List.length_map, Int.natCast_ediv, Int.natCast_add]; rfl)) (by omega)) (fun items e => by rw [e, ixs_len]; exact ⟨Nat.le_refl _, by show 0 + _ ≤ _; omega⟩) (by decide)
    (fun _ i ρ acc => acc = zz ((List.range i).map (pairAt row)) ∧ ∃ x, ρ = [some (sd s), some (.tuple (zz row)), x, none, some (.int (s.1 % 65536)), none]) (fun _ _ => ⟨rfl, _, rfl⟩) (fun items i d ρ1 acc e hi ⟨ha, x, hρ⟩ => ?_) (fun items ρ1 acc e ⟨ha, x, hρ⟩ => ?_) rfl)) (by omega) fun _ p => p
  · subst e hρ ha
    obtain ⟨hlt, rfl⟩ := ixs_at hi
    have g1 := getD_in h.rk (2 * i)
    have g2 := getD_in h.rk (2 * i + 1)
    have e2 : ∀ {σ : En} {t : TE}, E K M t σ (.int (i : Int)) → E K M (tOp (rI CMul fun i j => .int (i * j)) (tC (.int 2)) t) σ (.int ((2 * i : Nat) : Int)) := fun h => (e_mul e_int h (cmul_of (by decide))).eq (by rw [Int.natCast_mul]; rfl)
    refine EV.mono (E.eq (d' := .int (pairAt row i)) (e_add (e_ixT (e_var rfl) (e2 (e_var rfl)) (at_nat (getD_at (by omega)))) (e_if (d := .int (16 * row.getD (2 * i + 1) 0)) (t_cI (e_addN (n := 1) rfl (e2 (e_var rfl))) (e_len (e_var rfl))) (fun z => ?_) fun z => ?_)) rfl) (by omega) fun y e => ?_
    · have z : 2 * i + 1 < row.length := by have z := of_decide_eq_true z; rw [List.length_map] at z; omega
      exact e_mul e_int (e_ixT (e_var rfl) (e_addN (n := 1) rfl (e2 (e_var rfl))) (at_nat (getD_at z))) (cmul_of (by decide))
    · have z : ¬ 2 * i + 1 < row.length := by have z := of_decide_eq_false z; rw [List.length_map] at z; omega
      exact e_int.eq (by rw [List.getD_eq_getElem?_getD, List.getElem?_eq_none (by omega)]; rfl)
    · subst e
      refine ⟨rfl, ?_, _, rfl⟩
      rw [List.range_succ]
      unfold zz
      rw [List.map_append, List.map_append]
      rfl
  · subst e hρ ha
    refine s_set ((e_op (e_lst (a_cons (e_div (e_var rfl) e_int (by decide)) (a_cons (e_mod (e_var rfl) e_int (by decide)) (a_cons (e_ixT (e_var rfl) e_int rfl) (a_cons (e_len (e_var rfl)) a_nil)))) (by show 4 ≤ 16000000; decide)) (e_var rfl) (rd_cat ?_)).eq (d' := .list (zz (inner s row))) ?_) ?_
    · simp only [List.length_map, ixs_len, List.length_range]; show 4 + _ ≤ _; omega
    · rw [List.length_map, ixs_len]; rfl
    · have li := inner_len (s := s) (row := row)
      refine s_retD (E.eq (e_op (e_op (e_tup (a_cons e_int (a_cons e_int a_nil)) len2) (e_tupl (e_var rfl)) (rd_catT ?_)) (e_tup (a_cons (e_mod (e_sumL (e_var rfl)) e_int (by decide)) a_nil) len1) (rd_catT ?_)) ?_) rfl
      · rw [List.length_map, li]; show 2 + _ ≤ _; omega
      · rw [List.length_append, List.length_map, li]; show 2 + _ + 1 ≤ _; omega
      · unfold blockB zz; rw [List.map_append, List.map_append]; rfl
end
end Kt
set_option Elab.async false
set_option linter.all false
set_option maxRecDepth 100000
set_option maxHeartbeats 4000000
namespace Kt
open PySem PySem.Spec PyProof.Rows L2
section
variable {K : PySem.W.Frag} {M : Mode} {d x : PyData} {ds es : List PyData} {c : Cd} {s : St2} {k l m i j p : Int} {a n many : Nat} {row sizes : List Int} {st : Option St2} {ρ : En} {te ta tb : TE} {tt : TT} {b : Bool} {O : Out → Prop} {t u : TS} {X : XK}
theorem last_at : ∀ {xs : List Int}, xs ≠ [] → L2.atI (zz xs) (-1) = some (.int (xs.getLastD 1)) := fun {xs} h => by
  have e : xs = xs.dropLast ++ [xs.getLastD 1] := by
    rw [List.getLastD_eq_getLast?, List.getLast?_eq_some_getLast h]
    exact (List.dropLast_concat_getLast h).symm
  rw [show zz xs = zz xs.dropLast ++ [.int (xs.getLastD 1)] from by
    conv => lhs; rw [e]
    unfold zz; rw [List.map_append]; rfl]
  exact atI_last _ _
theorem e_cut {t1 : TO} {t2 : TO} {q e : Nat} (h : E K M te ρ (.tuple (zz row))) (h1 : E K M ta ρ (.int (q : Int))) (h2 : E K M tb ρ (.int (e : Int))) : E K M (tSl (rSlA K) te (tPart ta) (tPart tb)) ρ (.tuple (zz ((row.drop q).take (e - q)))) :=
  (e_slT h (o_some h1) (o_some h2)).eq (by rw [cutD_mid]; unfold zz; rw [List.map_take, List.map_drop])
theorem fgoB_succ {f q : Nat} (h : a < row.length) : fgoB c row sizes (f + 1) a q s = blockB s ((row.drop a).take (sizes.getD q (sizes.getLastD 1)).toNat) ++ fgoB c row sizes f (a + (sizes.getD q (sizes.getLastD 1)).toNat) (q + 1) (walk c s ((row.drop a).take (sizes.getD q (sizes.getLastD 1)).toNat)) := by
  show (if _ then _ else _) = _
  rw [if_pos h]
theorem fgoB_end {f q : Nat} (h : ¬ a < row.length) : fgoB c row sizes f a q s = [] := by
  cases f with
  | zero => rfl
  | succ f => show (if _ then _ else _) = _; rw [if_neg h]
theorem size_in (h : FOk c row sizes s) (q : Nat) : 1 ≤ sizes.getD q (sizes.getLastD 1) ∧ sizes.getD q (sizes.getLastD 1) ≤ 255 := by
  have hl : 1 ≤ sizes.getLastD 1 ∧ sizes.getLastD 1 ≤ 255 := by
    rw [List.getLastD_eq_getLast?, List.getLast?_eq_some_getLast h.n]
    exact h.zok _ (List.getLast_mem h.n)
  rw [List.getD_eq_getElem?_getD]
  cases e : sizes[q]? with
  | none => exact hl
  | some z => exact h.zok z (List.mem_of_getElem? e)
theorem seg_ok (h : ROk c row) (q z : Nat) : ROk c ((row.drop q).take z) := fun k hk => h k (List.mem_of_mem_drop (List.mem_of_mem_take hk))
theorem rok_16 (hc : c.Ok) (h : ROk c row) : ∀ k ∈ row, 0 ≤ k ∧ k < 16 := fun k hk => by
  have z := h k hk
  have z2 := hc.ml
  exact ⟨z.1, by have := z.2; omega⟩
theorem sok_in (hc : c.Ok) (h : SOk c s) : -32768 ≤ s.1 ∧ s.1 ≤ 32767 := by
  have h1 := hc.low
  have h2 := hc.high
  have h3 := h.l
  omega
theorem sv_law_file (h : FOk c row sizes s) : SV K M 0 (t_law_file K) [some c.d, some (.tuple (zz row)), some (.list (zz sizes)), some (sd s), none, none, none, none] (· = .rt (.tuple (zz (fileB c row sizes s)))) := by
  have hl := h.l
  refine s_setG (e_tup (a_cons (e_tup a_nil (Nat.zero_le _)) (a_cons e_int (a_cons e_int a_nil))) len3) (gv_tup (gvs_cons gv_name (gvs_cons gv_name (gvs_cons gv_name gvs_nil))) rfl) ?_
  refine SV.mono (s_then (c1 := 0) (c2 := 0) (s_while (fun m ρ => ∃ (a q f : Nat) (s' : St2) (acc : List Int) (x : Option PyData), m = row.length - a ∧ row.length + 1 ≤ f + a ∧ SOk c s' ∧ acc.length ≤ 30 * a ∧ a ≤ 300 ∧ acc ++ fgoB c row sizes f a q s' = fileB c row sizes s ∧
    ρ = [some c.d, some (.tuple (zz row)), some (.list (zz sizes)), some (sd s'), some (.tuple (zz acc)), some (.int (a : Int)), some (.int (q : Int)), x]) row.length
    ⟨0, 0, row.length + 1, s, [], none, rfl, by omega, h.sok, Nat.le_refl _, by omega, rfl, rfl⟩ (fun m ρ1 ⟨a, q, f, s', acc, x, hm, hf, hs, ha, ha2, hacc, hρ⟩ => ?_))) (by omega) fun _ p => p
  subst hρ
  refine ⟨decide ((a : Int) < (zz row).length), t_cI (e_var rfl) (e_len (e_var rfl)), fun z => ?_, fun z => ?_⟩
  · have z : a < row.length := by have z := of_decide_eq_true z; rw [List.length_map] at z; omega
    obtain ⟨f, rfl⟩ : ∃ g, f = g + 1 := ⟨f - 1, by omega⟩
    rw [fgoB_succ z] at hacc
    have zi := size_in h q
    have ez : ((sizes.getD q (sizes.getLastD 1)).toNat : Int) = sizes.getD q (sizes.getLastD 1) := Int.toNat_of_nonneg (by omega)
    refine s_set (d := .int (sizes.getD q (sizes.getLastD 1))) (e_if (t_cI (e_var rfl) (e_lenL (e_var rfl))) (fun z2 => ?_) fun z2 => ?_) ?_
    · have z2 : q < sizes.length := by have z2 := of_decide_eq_true z2; rw [List.length_map] at z2; omega
      refine e_ixL (e_var rfl) (e_var rfl) (at_nat ?_)
      rw [List.getElem?_map, List.getElem?_eq_getElem z2, List.getD_eq_getElem?_getD, List.getElem?_eq_getElem z2]; rfl
    · have z2 : ¬ q < sizes.length := by have z2 := of_decide_eq_false z2; rw [List.length_map] at z2; omega
      refine (e_ixL (e_var rfl) (e_neg e_int) (last_at h.n)).eq ?_
      rw [List.getD_eq_getElem?_getD, List.getElem?_eq_none (by omega)]; rfl
    rw [← ez]
    generalize (sizes.getD q (sizes.getLastD 1)).toNat = zn at hacc ez ⊢
    have zn1 : 1 ≤ zn := by omega
    have zn2 : zn ≤ 255 := by omega
    have lseg : ((row.drop a).take zn).length ≤ 40 := by rw [List.length_take, List.length_drop]; omega
    have cut : ∀ {σ : En}, σ[1]? = some (some (.tuple (zz row))) → σ[5]? = some (some (.int (a : Int))) → σ[7]? = some (some (.int (zn : Int))) → E K M (tSl (rSlA K) (tVar 1) (tPart (tVar 5)) (tPart (tOp (rI0 fun i j => .int (i + j)) (tVar 5) (tVar 7)))) σ (.tuple (zz ((row.drop a).take zn))) :=
      fun h1 h5 h7 => (e_cut (t1 := tNoPart) (t2 := tNoPart) (e_var h1) (e_var h5) ((e_add (e_var h5) (e_var h7)).eq (d' := .int ((a + zn : Nat) : Int)) (by rw [Int.natCast_add]))).eq (by rw [Nat.add_sub_cancel_left])
    have lb := blockB_len (s := s') (row := (row.drop a).take zn)
    refine s_set ((e_op (e_var rfl) (e_call_pf (s', (row.drop a).take zn) ⟨sok_in h.cok hs, rok_16 h.cok (seg_ok h.rok a zn), show ((row.drop a).take zn).length ≤ 255 by omega⟩ (a_cons (e_var rfl) (a_cons (cut rfl rfl rfl) a_nil))) (rd_catT ?_)).eq (d' := .tuple (zz (acc ++ blockB s' ((row.drop a).take zn)))) (by unfold zz; rw [List.map_append])) ?_
    · rw [List.length_map, List.length_map, lb]; omega
    refine s_set (e_ixL (e_call_pf (c, s', (row.drop a).take zn) ⟨h.cok, hs, seg_ok h.rok a zn, show ((row.drop a).take zn).length ≤ 1000 by omega⟩ (a_cons (e_var rfl) (a_cons (e_var rfl) (a_cons (cut rfl rfl rfl) a_nil)))) (e_neg e_int) at_states) ?_
    refine s_one (s_parD (a_cons (e_add (e_var rfl) (e_var rfl)) (a_cons (e_addN (n := 1) rfl (e_var rfl)) a_nil)) (s_next ?_))
    refine ⟨row.length - (a + zn), by omega, a + zn, q + 1, f, walk c s' ((row.drop a).take zn), acc ++ blockB s' ((row.drop a).take zn), _, rfl, by omega, walk_ok h.cok hs, ?_, by omega, by rw [List.append_assoc]; exact hacc, rfl⟩
    rw [List.length_append, lb]; omega
  · have z : ¬ a < row.length := by have z := of_decide_eq_false z; rw [List.length_map] at z; omega
    rw [fgoB_end z, List.append_nil] at hacc
    exact ⟨_, rfl, s_retD (e_var rfl) (by rw [hacc])⟩
end
end Kt
set_option Elab.async false
set_option linter.all false
set_option maxRecDepth 100000
set_option maxHeartbeats 4000000
namespace Kt
open PySem PySem.Spec PyProof.Rows L2
section
variable {K : PySem.W.Frag} {M : Mode} {d x : PyData} {ds es : List PyData} {c : Cd} {s : St2} {k l m i j p : Int} {a n many : Nat} {row sizes : List Int} {st : Option St2} {ρ : En} {te ta tb : TE} {tt : TT} {b : Bool} {O : Out → Prop} {t u : TS} {X : XK}
def restD (ds : List PyData) (i : Nat) : PyData := match ds[i]? with
  | some d => d
  | none => .none
theorem whole_rest {i : Nat} : whole (restD ds i) l m = byteAt ds i l m := by
  unfold restD byteAt
  cases ds[i]? <;> rfl
theorem rest_ne (h : Nm ds) (i : Nat) : restD ds i ≠ markD := by
  unfold restD
  cases e : ds[i]? with
  | none => exact fun z => nomatch z
  | some d => exact h d (List.mem_of_getElem? e)
theorem rest_int {i : Nat} (h : byteAt ds i l m = true) : restD ds i = .int (intAt ds i) := by
  unfold restD
  rw [(byteAt_int h).1]
theorem rest_at {k : Nat} (h : k < 6) : (ds.drop a ++ List.replicate 6 PyData.none)[k]? = some (restD ds (a + k)) := by
  unfold restD
  by_cases z : k < (ds.drop a).length
  · rw [List.getElem?_append_left z, List.getElem?_drop]
    rw [List.length_drop] at z
    rw [List.getElem?_eq_getElem (by omega)]
  · rw [List.getElem?_append_right (by omega), List.getElem?_replicate]
    rw [List.length_drop] at z ⊢
    rw [if_pos (by omega), List.getElem?_eq_none (by omega)]
theorem ndec {P : Prop} [Decidable P] (h : (!decide P) = true) : ¬ P := of_decide_eq_false (by cases e : decide P <;> rw [e] at h <;> first | rfl | cases h)
theorem ndecF {P : Prop} [Decidable P] (h : (!decide P) = false) : P := of_decide_eq_true (nb2 h)
theorem sv_law_block_read (h : HOk0 c ds st) : SV K M 0 (t_law_block_read K) [some c.d, some (.tuple ds), some (.int (a : Int)), some (oD st), none, none, none, none, none, none, none, none, none] (· = .rt (lrD (blk c ds a st))) := by
  have nm := h.dok.nm
  have dl := h.dok.len
  refine s_set (d := .list (ds.drop a ++ List.replicate 6 .none)) ((e_op (e_listT ((e_slT (e_var rfl) (o_some (e_var rfl)) o_none).eq (congrArg PyData.tuple cutD_from))) (e_op (e_lst (a_cons e_non a_nil) len1) e_int (rd_rep1 (n := 6) (by decide))) (rd_cat ?_))) ?_
  · rw [List.length_drop, List.length_replicate]; omega
  have hR := fun k (hk : k < 6) => rest_at (ds := ds) (a := a) hk
  generalize ds.drop a ++ List.replicate 6 PyData.none = R at hR ⊢
  have tW : ∀ {σ : En} {t2 t3 : TE} {l m : Int} (k : Nat) (kk : Int), (k : Int) = kk → k < 6 → σ[4]? = some (some (.list R)) → E K M t2 σ (.int l) → E K M t3 σ (.int m) → T K M (tB (tCall (sp_law_is_whole K) [] E0 (tCons (tOp (rIxL K) (tVar 4) (tC (.int kk))) (tCons t2 (tCons t3 tNil))))) σ (byteAt ds (a + k) l m) :=
    fun k kk hk hk6 h4 h2 h3 => (t_wh (rest_ne nm (a + k)) (a_cons (e_ixL (e_var h4) (by rw [← hk]; exact e_int) (at_nat (hR k hk6))) (a_cons h2 (a_cons h3 a_nil)))).eq whole_rest
  have tI : ∀ {σ : En} {l m : Int} (k : Nat) (kk : Int), (k : Int) = kk → k < 6 → σ[4]? = some (some (.list R)) → byteAt ds (a + k) l m = true → E K M (tOp (rIxL K) (tVar 4) (tC (.int kk))) σ (.int (intAt ds (a + k))) :=
    fun k kk hk hk6 h4 hb => (e_ixL (e_var h4) (by rw [← hk]; exact e_int) (at_nat (hR k hk6))).eq (rest_int hb)
  refine SV.mono (s_thenR (c1 := 0 + 2 * 0) (c2 := 0) (s_for (w_rangeD (n := 2) e_int (by decide)) (fun items e => by rw [e]; exact Nat.le_refl 2)
    (fun _ i ρ => (0 < i → byteAt ds a 165 165 = true) ∧ (1 < i → byteAt ds (a + 1) 90 90 = true) ∧ ∃ x, ρ = [some c.d, some (.tuple ds), some (.int (a : Int)), some (oD st), some (.list R), x, none, none, none, none, none, none, none])
    (fun _ _ => ⟨fun z => absurd z (by decide), fun z => absurd z (by decide), _, rfl⟩) (fun items i d ρ1 e hi ⟨h1, h2, x, hρ⟩ => ?_) fun items ρ1 e ⟨h1, h2, x, hρ⟩ => ?_)) (by omega) fun _ p => p
  · subst e hρ
    obtain ⟨hlt, rfl⟩ := ixs_at hi
    refine ⟨_, gv_name, ?_⟩
    match i, hlt, h1, h2 with
    | 0, _, h1, h2 =>
      have tt : T K M (tB (tCall (sp_law_is_whole K) [] E0 (tCons (tOp (rIxL K) (tVar 4) (tVar 5)) (tCons (tOp (rIxT K) (tTup (tCons (tC (.int 165)) (tCons (tC (.int 90)) tNil))) (tVar 5)) (tCons (tOp (rIxT K) (tTup (tCons (tC (.int 165)) (tCons (tC (.int 90)) tNil))) (tVar 5)) tNil)))))
          [some c.d, some (.tuple ds), some (.int (a : Int)), some (oD st), some (.list R), some (.int ((0 : Nat) : Int)), none, none, none, none, none, none, none] (byteAt ds a 165 165) :=
        (t_wh (rest_ne nm (a + 0)) (a_cons (e_ixL (e_var rfl) (e_var rfl) (at_nat (hR 0 (by decide)))) (a_cons (e_ixT (e_tup (a_cons e_int (a_cons e_int a_nil)) len2) (e_var rfl) (at_nat rfl)) (a_cons (e_ixT (e_tup (a_cons e_int (a_cons e_int a_nil)) len2) (e_var rfl) (at_nat rfl)) a_nil)))).eq whole_rest
      refine s_if (t_not tt) (fun z => s_retD (e_add (e_var rfl) (e_var rfl)) ?_) fun z => s_next ⟨fun _ => nb2 z, fun z => absurd z (by decide), _, rfl⟩
      show _ ∨ _
      refine Or.inr ⟨?_, fun _ z => nomatch z⟩
      rw [blk_some (show hd c ds a st = some a from by unfold hd; rw [if_neg (nb z)])]; rfl
    | 1, _, h1, h2 =>
      have tt : T K M (tB (tCall (sp_law_is_whole K) [] E0 (tCons (tOp (rIxL K) (tVar 4) (tVar 5)) (tCons (tOp (rIxT K) (tTup (tCons (tC (.int 165)) (tCons (tC (.int 90)) tNil))) (tVar 5)) (tCons (tOp (rIxT K) (tTup (tCons (tC (.int 165)) (tCons (tC (.int 90)) tNil))) (tVar 5)) tNil)))))
          [some c.d, some (.tuple ds), some (.int (a : Int)), some (oD st), some (.list R), some (.int ((1 : Nat) : Int)), none, none, none, none, none, none, none] (byteAt ds (a + 1) 90 90) :=
        (t_wh (rest_ne nm (a + 1)) (a_cons (e_ixL (e_var rfl) (e_var rfl) (at_nat (hR 1 (by decide)))) (a_cons (e_ixT (e_tup (a_cons e_int (a_cons e_int a_nil)) len2) (e_var rfl) (at_nat rfl)) (a_cons (e_ixT (e_tup (a_cons e_int (a_cons e_int a_nil)) len2) (e_var rfl) (at_nat rfl)) a_nil)))).eq whole_rest
      refine s_if (t_not tt) (fun z => s_retD (e_add (e_var rfl) (e_var rfl)) ?_) fun z => s_next ⟨fun _ => h1 (by decide), fun _ => nb2 z, _, rfl⟩
      show _ ∨ _
      refine Or.inr ⟨?_, fun _ z => nomatch z⟩
      rw [blk_some (show hd c ds a st = some (a + 1) from by unfold hd; rw [if_pos (h1 (by decide)), if_neg (nb z)])]; rfl
    | i + 2, hlt, _, _ => omega
  subst e hρ
  have b0 := h1 (by decide)
  have b1 := h2 (by decide)
  refine .inl ⟨_, rfl, ?_⟩
  refine s_setG (e_lohi (l := loO c st) (m := hiO c st) (e_var rfl) (fun e => by subst e; exact ⟨e_ixT (e_var rfl) e_int rfl, e_ixT (e_var rfl) e_int rfl⟩) fun s e => by subst e; exact ⟨e_ixT (e_var rfl) e_int rfl, e_ixT (e_var rfl) e_int rfl⟩) (gv_tup (gvs_cons gv_name (gvs_cons gv_name gvs_nil)) rfl) ?_
  refine s_ifr (t_not (tW 2 2 rfl (by decide) rfl e_int e_int)) (fun z => s_retD (e_addN (n := 2) rfl (e_var rfl)) ⟨?_, fun _ z => nomatch z⟩) fun z => ?_
  · rw [blk_some (show hd c ds a st = some (a + 2) from by
      unfold hd; rw [if_pos b0, if_pos b1, if_neg]
      intro ⟨q1, _⟩
      rw [q1] at z; cases z)]
  have y2 := nb2 z
  have v2 := (byteAt_int y2).2
  refine s_set ((e_mul e_int (e_sub (tI 2 2 rfl (by decide) rfl y2) (e_mul e_int (e_div (tI 2 2 rfl (by decide) rfl y2) e_int (by decide)) (cmul_of (by decide)))) (cmul_of (by decide))).eq (d' := .int (256 * sg (intAt ds (a + 2)))) (by unfold sg; congr 1; split <;> omega)) ?_
  refine s_ifr (t_or (t_cI (e_var rfl) (e_var rfl)) fun _ => t_cI (e_add (e_var rfl) e_int) (e_var rfl)) (fun z => s_retD (e_addN (n := 2) rfl (e_var rfl)) ⟨?_, fun _ z => nomatch z⟩) fun z => ?_
  · rw [blk_some (show hd c ds a st = some (a + 2) from by
      unfold hd; rw [if_pos b0, if_pos b1, if_neg]
      intro ⟨_, q2, q3⟩
      rw [fdiv_pos (by decide)] at q2 q3
      simp only [Bool.or_eq_true, decide_eq_true_eq] at z
      omega)]
  have z2 : byteAt ds (a + 2) 0 255 = true ∧ (loO c st).fdiv 256 ≤ sg (intAt ds (a + 2)) ∧ sg (intAt ds (a + 2)) ≤ (hiO c st).fdiv 256 := by
    refine ⟨y2, ?_⟩
    rw [fdiv_pos (by decide), fdiv_pos (by decide)]
    simp only [Bool.or_eq_false_iff, decide_eq_false_iff_not] at z
    omega
  refine s_ifr (t_or (t_not (tW 3 3 rfl (by decide) rfl e_int e_int)) fun z => t_not (t_test (e_chainI (e_var rfl) (e_add (e_var rfl) (tI 3 3 rfl (by decide) rfl (nb2 z))) (e_var rfl)))) (fun z => s_retD (e_addN (n := 3) rfl (e_var rfl)) ⟨?_, fun _ z => nomatch z⟩) fun z => ?_
  · rw [blk_some (show hd c ds a st = some (a + 3) from by
      unfold hd; rw [if_pos b0, if_pos b1, if_pos z2, if_neg]
      intro ⟨q1, q2, q3⟩
      rw [sg_eq v2.1 v2.2] at q2 q3
      rw [q1, dec_and ⟨q2, q3⟩] at z
      cases z)]
  have z3 : byteAt ds (a + 3) 0 255 = true ∧ loO c st ≤ num (intAt ds (a + 2)) (intAt ds (a + 3)) ∧ num (intAt ds (a + 2)) (intAt ds (a + 3)) ≤ hiO c st := by
    rw [sg_eq v2.1 v2.2]
    simpa using z
  have key : ∀ {σ : En}, σ[0]? = some (some c.d) → σ[3]? = some (some (oD st)) → σ[4]? = some (some (.list R)) → T K M (tOr (tNot (tB (tCall (sp_law_is_whole K) [] E0 (tCons (tOp (rIxL K) (tVar 4) (tC (.int 4))) (tCons (tC (.int 0)) (tCons (tOp (rI0 fun i j => .int (i - j)) (tCB (rLenQ K) (tCons (tOp (rIxT K) (tVar 0) (tC (.int 2))) tNil)) (tC (.int 1))) tNil))))))
      (tAnd (tTest (tOp rNotN (tVar 3) (tC .non))) (tTest (tOp rNe (tOp (rIxL K) (tVar 4) (tC (.int 4))) (tOp (rIxT K) (tVar 3) (tC (.int 1))))))) σ (!byteAt ds (a + 4) (leO c st) (moO c st)) := fun {σ} h0 h3 h4 => by
    have ln : E K M (tOp (rI0 fun i j => .int (i - j)) (tCB (rLenQ K) (tCons (tOp (rIxT K) (tVar 0) (tC (.int 2))) tNil)) (tC (.int 1))) σ (.int ((c.steps.length : Int) - 1)) := (e_sub (e_len (e_ixT (e_var h0) e_int rfl)) e_int).eq (by rw [List.length_map])
    cases st with
    | none => exact (t_or (b2 := false) (t_not (tW 4 4 rfl (by decide) h4 e_int ln)) fun _ => t_and (b1 := false) (b2 := false) (t_notN (e_var h3)) fun z => nomatch z).eq (by rw [Bool.or_false])
    | some s =>
      have so := (show SOk c s from h.ook).p
      refine (t_or (t_not (tW 4 4 rfl (by decide) h4 e_int ln)) fun z => t_and (b1 := true) (t_notN (e_var h3)) fun _ => t_ne (tI 4 4 rfl (by decide) h4 (nb2 z)) (e_ixT (e_var h3) e_int rfl)).eq ?_
      have i1 := byteAt_iff (ds := ds) (i := a + 4) (l := 0) (m := (c.steps.length : Int) - 1)
      have i2 := byteAt_iff (ds := ds) (i := a + 4) (l := s.2) (m := s.2)
      show (!byteAt ds (a + 4) 0 ((c.steps.length : Int) - 1) || (true && !decide (intAt ds (a + 4) = s.2))) = !byteAt ds (a + 4) s.2 s.2
      cases e1 : byteAt ds (a + 4) 0 ((c.steps.length : Int) - 1) with
      | false =>
        cases e2 : byteAt ds (a + 4) s.2 s.2 with
        | false => rfl
        | true =>
          obtain ⟨q1, q2, q3⟩ := i2.mp e2
          rw [i1.mpr ⟨q1, by omega, by omega⟩] at e1
          cases e1
      | true =>
        obtain ⟨q1, q2, q3⟩ := i1.mp e1
        by_cases q : intAt ds (a + 4) = s.2
        · rw [i2.mpr ⟨q1, by omega, by omega⟩, decide_eq_true q]; rfl
        · rw [decide_eq_false q]
          cases e2 : byteAt ds (a + 4) s.2 s.2 with
          | false => rfl
          | true =>
            obtain ⟨_, q4, q5⟩ := i2.mp e2
            exact absurd (by omega) q
  refine s_ifr (key rfl rfl rfl) (fun z => s_retD (e_addN (n := 4) rfl (e_var rfl)) ⟨?_, fun _ z => nomatch z⟩) fun z => ?_
  · rw [blk_some (show hd c ds a st = some (a + 4) from by unfold hd; rw [if_pos b0, if_pos b1, if_pos z2, if_pos z3, if_neg (nb z)])]
  have z4 := nb2 z
  refine s_ifr (t_not (tW 5 5 rfl (by decide) rfl e_int e_int)) (fun z => s_retD (e_addN (n := 5) rfl (e_var rfl)) ⟨?_, fun _ z => nomatch z⟩) fun z => ?_
  · rw [blk_some (show hd c ds a st = some (a + 5) from by unfold hd; rw [if_pos b0, if_pos b1, if_pos z2, if_pos z3, if_pos z4, if_neg (nb z)])]
  have z5 := nb2 z
  have hn : hd c ds a st = none := by unfold hd; rw [if_pos b0, if_pos b1, if_pos z2, if_pos z3, if_pos z4, if_pos z5]
  rw [blk_none hn]
  obtain ⟨m1, m2, m3⟩ := many_at hn
  have em : E K M (tOp (rIxL K) (tVar 4) (tC (.int 5))) _ _ := tI (σ := [some c.d, some (.tuple ds), some (.int (a : Int)), some (oD st), some (.list R), x, some (.int (256 * sg (intAt ds (a + 2)))), some (.int (loO c st)), some (.int (hiO c st)), none, none, none, none]) 5 5 rfl (by decide) rfl z5
  rw [show intAt ds (a + 5) = (((intAt ds (a + 5)).toNat : Nat) : Int) from (Int.toNat_of_nonneg (by have := (byteAt_int z5).2; omega)).symm] at em
  generalize (intAt ds (a + 5)).toNat = many at em m1 m2 m3 ⊢
  refine s_par3D (a_cons em (a_cons (e_lst a_nil (Nat.zero_le _)) (a_cons (e_addN (n := 6) rfl (e_var rfl)) a_nil))) ?_
  refine SV.mono (s_thenR (c1 := 0) (c2 := 0) (s_while (fun m ρ => ∃ (j : Nat) (r : List Int) (y : Option PyData), m = (many + 1) / 2 - j ∧ j ≤ (many + 1) / 2 ∧ r.length = 2 * j ∧ body c ds (a + 6) many ((many + 1) / 2) 0 [] = body c ds (a + 6) many ((many + 1) / 2 - j) j r ∧
    ρ = [some c.d, some (.tuple ds), some (.int (a : Int)), some (oD st), some (.list R), x, some (.int (256 * sg (intAt ds (a + 2)))), some (.int (loO c st)), some (.int (hiO c st)), some (.int (many : Int)), some (.list (zz r)), some (.int ((a + 6 + j : Nat) : Int)), y]) ((many + 1) / 2)
    ⟨0, [], none, rfl, Nat.zero_le _, rfl, rfl, rfl⟩ (fun m ρ1 ⟨j, r, y, hm, hj, hr, hb, hρ⟩ => ?_))) (by omega) fun _ p => p
  subst hρ
  refine ⟨decide (((zz r).length : Int) < many), t_cI (e_lenL (e_var rfl)) (e_var rfl), fun z => ?_, fun z => ?_⟩
  · have z : 2 * j < many := by have z := of_decide_eq_true z; rw [List.length_map, hr] at z; omega
    have e1 : (many + 1) / 2 - j = ((many + 1) / 2 - (j + 1)) + 1 := by omega
    rw [e1, body_succ] at hb
    refine s_set (d := restD ds (a + 6 + j)) (e_if (t_cI (e_var rfl) (e_len (e_var rfl))) (fun q => ?_) fun q => ?_) ?_
    · have q : a + 6 + j < ds.length := by have q := of_decide_eq_true q; omega
      refine e_ixT (e_var rfl) (e_var rfl) (at_nat ?_)
      unfold restD
      rw [List.getElem?_eq_getElem q]
    · have q : ¬ a + 6 + j < ds.length := by have q := of_decide_eq_false q; omega
      refine e_non.eq ?_
      unfold restD
      rw [List.getElem?_eq_none (by omega)]
    have lm : ((c.moves.map mvD).length : Int) = c.moves.length := by rw [List.length_map]
    refine s_ifr (t_or ((t_not ((t_wh (rest_ne nm _) (a_cons (e_var rfl) (a_cons e_int (a_cons e_int a_nil)))).eq whole_rest))) fun q => t_cI (e_mod ((e_var rfl).eq (rest_int (nb2 q))) e_int (by decide)) (e_len (e_ixT (e_var rfl) e_int rfl)))
      (fun q => s_retD (e_var rfl) ⟨?_, fun _ z => nomatch z⟩) fun q => ?_
    · show _ ∨ _
      refine Or.inr ⟨?_, fun _ z => nomatch z⟩
      have no : ¬ okB c ds (a + 6 + j) (decide (2 * j + 1 = many)) = true := fun w => by
        unfold okB at w
        simp only [Bool.and_eq_true, Bool.or_eq_true, decide_eq_true_eq, Bool.not_eq_true', decide_eq_false_iff_not] at w q
        rcases q with q | q
        · rw [w.1] at q; cases q
        · omega
      rw [hb, if_neg no]
    have q' : byteAt ds (a + 6 + j) 0 255 = true ∧ intAt ds (a + 6 + j) % 16 < c.moves.length := by
      simp only [Bool.or_eq_false_iff, Bool.not_eq_false', decide_eq_false_iff_not] at q
      exact ⟨q.1, by omega⟩
    refine s_ifr (t_cI (e_div ((e_var rfl).eq (rest_int q'.1)) e_int (by decide)) (e_if (d := .int (if 2 * j + 1 < many then (c.moves.length : Int) else 1)) (t_cI (e_addN (n := 1) rfl (e_lenL (e_var rfl))) (e_var rfl)) (fun q2 => ?_) fun q2 => ?_))
      (fun q2 => s_retD (e_var rfl) ⟨?_, fun _ z => nomatch z⟩) fun q2 => ?_
    · have q2 : 2 * j + 1 < many := by have q2 := of_decide_eq_true q2; rw [List.length_map, hr] at q2; omega
      exact (e_len (e_ixT (e_var rfl) e_int rfl)).eq (by rw [if_pos q2, lm])
    · have q2 : ¬ 2 * j + 1 < many := by have q2 := of_decide_eq_false q2; rw [List.length_map, hr] at q2; omega
      exact e_int.eq (by rw [if_neg q2])
    · show _ ∨ _
      refine Or.inr ⟨?_, fun _ z => nomatch z⟩
      have no : ¬ okB c ds (a + 6 + j) (decide (2 * j + 1 = many)) = true := fun w => by
        unfold okB at w
        simp only [Bool.and_eq_true, Bool.or_eq_true, decide_eq_true_eq, Bool.not_eq_true', decide_eq_false_iff_not] at w q2
        split at q2 <;> omega
      rw [hb, if_neg no]
    have yes : okB c ds (a + 6 + j) (decide (2 * j + 1 = many)) = true := by
      have v := byteAt_int q'.1
      have mm := h.cok.ml
      unfold okB
      simp only [Bool.and_eq_true, Bool.or_eq_true, decide_eq_true_eq, Bool.not_eq_true', decide_eq_false_iff_not] at q2 ⊢
      refine ⟨q'.1, q'.2, ?_⟩
      split at q2 <;> omega
    rw [if_pos yes] at hb
    refine s_one (s_parD (a_cons ((e_op (e_var rfl) (e_lst (a_cons (e_mod ((e_var rfl).eq (rest_int q'.1)) e_int (by decide)) (a_cons (e_div ((e_var rfl).eq (rest_int q'.1)) e_int (by decide)) a_nil)) len2) (rd_cat ?_)).eq (d' := .list (zz (r ++ [intAt ds (a + 6 + j) % 16, intAt ds (a + 6 + j) / 16]))) (by unfold zz; rw [List.map_append]; rfl))
      (a_cons (e_addN (n := 1) rfl (e_var rfl)) a_nil)) (s_next ?_))
    · rw [List.length_map, hr]; show 2 * j + 2 ≤ 16000000; omega
    · exact ⟨(many + 1) / 2 - (j + 1), by omega, j + 1, _, _, rfl, by omega, by rw [List.length_append, hr]; rfl, hb, rfl⟩
  · have z : ¬ 2 * j < many := by have z := of_decide_eq_false z; rw [List.length_map, hr] at z; omega
    have ej : j = (many + 1) / 2 := by omega
    subst ej
    rw [Nat.sub_self] at hb
    have hb : body c ds (a + 6) many ((many + 1) / 2) 0 [] = (none, r) := hb
    refine .inl ⟨_, rfl, ?_⟩
    rw [hb]
    show SV K M 0 _ _ (fun o => o = .rt (lrD (tail0 ds a (a + 6 + (many + 1) / 2) many r)))
    have gi := got_ints hn hb
    have le : a + 6 + (many + 1) / 2 ≤ ds.length := by
      obtain ⟨w, hw⟩ := gi (a + 6 + (many + 1) / 2 - 1) (by omega) (by omega)
      have := (List.getElem?_eq_some_iff.mp hw).1
      omega
    unfold tail0
    generalize a + 6 + (many + 1) / 2 = en at gi le ⊢
    have tby : ∀ {σ : En}, en < ds.length → σ[1]? = some (some (.tuple ds)) → σ[11]? = some (some (.int (en : Int))) → E K M (tOp (rIxT K) (tVar 1) (tVar 11)) σ (restD ds en) := fun q h1 h2 => e_ixT (e_var h1) (e_var h2) (at_nat (by
      unfold restD; rw [List.getElem?_eq_getElem q]))
    refine s_ifr (t_or (t_eq (e_var rfl) (e_len (e_var rfl))) fun q => t_not ((t_wh (rest_ne nm en) (a_cons (tby (by have q := of_decide_eq_false q; omega) rfl rfl) (a_cons e_int (a_cons e_int a_nil)))).eq whole_rest)) (fun q => s_retD (e_var rfl) ⟨?_, fun _ z => nomatch z⟩) fun q => ?_
    · rw [if_neg]
      intro w
      have w1 := byteAt_lt w
      obtain ⟨w2, w3, w4⟩ := byteAt_int w
      rw [byteAt_iff.mpr ⟨w2, by omega, by omega⟩, decide_eq_false (by omega)] at q
      cases q
    have q2 : byteAt ds en 0 255 = true := by
      simp only [Bool.or_eq_false_iff, Bool.not_eq_false'] at q
      exact q.2
    have q3 := byteAt_lt q2
    obtain ⟨v1, v2', v3⟩ := byteAt_int q2
    refine s_ifr (t_ne ((tby q3 rfl rfl).eq (rest_int q2)) (e_mod (e_sumT ((e_slT (e_var rfl) (o_some (e_addN (n := 2) rfl (e_var rfl))) (o_some (e_var rfl))).eq (congrArg PyData.tuple (cut_ints gi)))) e_int (by decide))) (fun q => s_retD (e_var rfl) ⟨?_, fun _ z => nomatch z⟩) fun q => ?_
    · rw [if_neg]
      intro w
      obtain ⟨_, w3, w4⟩ := byteAt_int w
      have q : ¬ intAt ds en = sumAt ds (a + 2) en % 256 := ndec q
      omega
    · have q : intAt ds en = sumAt ds (a + 2) en % 256 := ndecF q
      rw [if_pos (byteAt_iff.mpr ⟨v1, by omega, by omega⟩)]
      refine s_retD (E.eq (e_tup (a_cons (e_addN (n := 1) rfl (e_var rfl)) (a_cons (e_tup (a_cons (e_add (e_var rfl) (tI 3 3 rfl (by decide) rfl z3.1)) (a_cons (tI 4 4 rfl (by decide) rfl z4) a_nil)) len2) (a_cons (e_tupl (e_slL (e_var rfl) o_none (o_some (e_var rfl)))) a_nil))) len3) ?_) rfl
      rw [sg_eq v2.1 v2.2, cutD_to]
      show PyData.tuple [_, _, .tuple (List.take many (r.map PyData.int))] = .tuple [_, _, .tuple ((r.take many).map PyData.int)]
      rw [List.map_take]
end
end Kt
set_option Elab.async false
set_option linter.all false
set_option maxRecDepth 100000
set_option maxHeartbeats 4000000
namespace Kt
open PySem PySem.Spec PyProof.Rows L2
section
variable {K : PySem.W.Frag} {M : Mode} {d x : PyData} {ds es : List PyData} {c : Cd} {s : St2} {k l m i j p : Int} {a n many : Nat} {row sizes : List Int} {st : Option St2} {ρ : En} {te ta tb : TE} {tt : TT} {b : Bool} {O : Out → Prop} {t u : TS} {X : XK}
structure BR (c : Cd) (ds : List PyData) (a e : Nat) (s : St2) (r : List Int) : Prop where
  m : (intAt ds (a + 5)).toNat = r.length
  m1 : 1 ≤ r.length
  m2 : r.length ≤ 255
  ee : e = a + 7 + (r.length + 1) / 2
  le : e ≤ ds.length
  so : SOk c s
  ro : ROk c r
theorem blk_inr (hc : c.Ok) (ho : OOk c st) {e : Nat} {r : List Int} (h : blk c ds a st = .inr (e, s, r)) : BR c ds a e s r := by
  cases hh : hd c ds a st with
  | some q => rw [blk_some hh] at h; cases h
  | none =>
    rw [blk_none hh] at h
    obtain ⟨m1, m2, m3⟩ := many_at hh
    obtain ⟨_, ⟨b2, _⟩, ⟨b3, n1, n2⟩, b4, b5⟩ := hd_none hh
    have q4 := byteAt_int b4
    generalize em : (intAt ds (a + 5)).toNat = many at h m1 m2 m3
    cases eb : body c ds (a + 6) many ((many + 1) / 2) 0 [] with
    | mk f r0 =>
      rw [eb] at h
      cases f with
      | some q => cases h
      | none =>
        have h : tail0 ds a (a + 6 + (many + 1) / 2) many r0 = .inr (e, s, r) := h
        obtain ⟨_, lr, rr⟩ := body_none eb (fun y hy => by cases hy)
        unfold tail0 at h
        by_cases z : byteAt ds (a + 6 + (many + 1) / 2) (sumAt ds (a + 2) (a + 6 + (many + 1) / 2) % 256) (sumAt ds (a + 2) (a + 6 + (many + 1) / 2) % 256) = true
        · rw [if_pos z] at h
          have zl := byteAt_lt z
          injection h with h
          injection h with e1 e2
          injection e2 with e2 e3
          subst e1 e2 e3
          have lr2 : (r0.take many).length = many := by
            rw [List.length_take, lr]
            show min many (0 + 2 * ((many + 1) / 2)) = many
            omega
          refine ⟨by rw [em, lr2], by omega, by omega, by rw [lr2]; omega, by omega, ⟨?_, ?_⟩, fun k hk => rr k (List.mem_of_mem_take hk)⟩
          · show c.low ≤ num _ _ ∧ num _ _ ≤ c.high
            cases st with
            | none => exact ⟨n1, n2⟩
            | some s0 =>
              have so := (show SOk c s0 from ho).l
              have n1 : s0.1 ≤ _ := n1
              have n2 : _ ≤ s0.1 := n2
              omega
          · show 0 ≤ intAt ds (a + 4) ∧ intAt ds (a + 4) < c.steps.length
            have q5 := q4.2
            cases st with
            | none =>
              have q6 : (0 : Int) ≤ _ ∧ _ ≤ (c.steps.length : Int) - 1 := q5
              omega
            | some s0 =>
              have so := (show SOk c s0 from ho).p
              have q6 : s0.2 ≤ _ ∧ _ ≤ s0.2 := q5
              omega
        · rw [if_neg z] at h; cases h
theorem fgo_succ {f : Nat} {due : Option St2} {first : St2} (h : a < ds.length) : fgo c ds (f + 1) a due first row = (match blk c ds a due with
      | .inl i => .inl i
      | .inr (e, s, r) => fgo c ds f e (some (walk c s r)) (firstO due s first) (row ++ r)) := by
  show (if _ then _ else _) = _
  rw [if_pos h]
  all_goals rfl
theorem fgo_end {f : Nat} {due : Option St2} {first : St2} (h : ¬ a < ds.length) : fgo c ds f a due first row = .inr (first, row) := by
  cases f with
  | zero => rfl
  | succ f => show (if _ then _ else _) = _; rw [if_neg h]
theorem e_first {due : Option St2} {first : St2} (h : E K M te ρ (oD due)) (h1 : E K M ta ρ (sd s)) (h2 : E K M tb ρ (sd first)) : E K M (tIf (tTest (tOp rIsN te (tC .non))) ta tb) ρ (sd (firstO due s first)) := by
  cases due with
  | none => exact e_if (t_isN h) (fun _ => h1) fun z => nomatch z
  | some s0 => exact e_if (t_isN h) (fun z => nomatch z) fun _ => h2
theorem e_lst1 (h : E K M te ρ d) : E K M (tLst (tCons te tNil)) ρ (.list [d]) := e_lst (a_cons h a_nil) len1
theorem sv_law_due (hc : c.Ok) (hd : DOk ds) : SV K M 0 (t_law_due K) [some c.d, some (.tuple ds), none, none, none, none, none] (· = .rt (fiD (file c ds))) := by
  have dl := hd.len
  refine s_setG (e_tup (a_cons e_int (a_cons (e_tup (a_cons e_int (a_cons e_int a_nil)) len2) (a_cons e_non (a_cons (e_tup a_nil (Nat.zero_le _)) a_nil)))) (by show 4 ≤ 16000000; decide)) (gv_tup (gvs_cons gv_name (gvs_cons gv_name (gvs_cons gv_name (gvs_cons gv_name gvs_nil)))) rfl) ?_
  refine SV.mono (s_thenR (c1 := 0) (c2 := 0) (s_while (fun m ρ => ∃ (a f : Nat) (due : Option St2) (first : St2) (r : List Int) (x : Option PyData), m = ds.length - a ∧ ds.length + 1 ≤ f + a ∧ OOk c due ∧ r.length ≤ 255 * a ∧ a ≤ ds.length ∧ fgo c ds f a due first r = file c ds ∧
    ρ = [some c.d, some (.tuple ds), some (.int (a : Int)), some (sd first), some (oD due), some (.tuple (zz r)), x]) ds.length
    ⟨0, ds.length + 1, none, (0, 0), [], none, rfl, by omega, trivial, Nat.le_refl _, Nat.zero_le _, rfl, rfl⟩ (fun m ρ1 ⟨a, f, due, first, r, x, hm, hf, ho, hr, ha, hfi, hρ⟩ => ?_))) (by omega) fun _ p => p
  subst hρ
  refine ⟨decide ((a : Int) < ds.length), t_cI (e_var rfl) (e_len (e_var rfl)), fun z => ?_, fun z => ?_⟩
  · have z : a < ds.length := by have z := of_decide_eq_true z; omega
    obtain ⟨f, rfl⟩ : ∃ g, f = g + 1 := ⟨f - 1, by omega⟩
    rw [fgo_succ z] at hfi
    refine s_set (e_call_pf (c, ds, a, due) ⟨⟨hc, hd, ho⟩, z⟩ (a_cons (e_var rfl) (a_cons (e_var rfl) (a_cons (e_var rfl) (a_cons (e_var rfl) a_nil))))) ?_
    show SV K M 0 _ [some c.d, some (.tuple ds), some (.int (a : Int)), some (sd first), some (oD due), some (.tuple (zz r)), some (lrD (blk c ds a due))] _
    cases eb : blk c ds a due with
    | inl q =>
      rw [eb] at hfi
      refine s_take (b := true) ((t_not (t_val (e_isi (e_var rfl) int_ne kIT))).eq rfl) rfl (s_retD (e_tup (a_cons e_str (a_cons (e_var rfl) a_nil)) len2) ⟨?_, fun _ z => nomatch z⟩)
      show _ ∨ _
      refine Or.inr ⟨?_, fun _ z => nomatch z⟩
      rw [← hfi]
    | inr q =>
      obtain ⟨e, s', r'⟩ := q
      rw [eb] at hfi
      have br := blk_inr hc ho eb
      have bm := br.m2
      have be := br.ee
      have bl := br.le
      refine s_skip (b := false) ((t_not (t_val (e_isi (e_var rfl) tup_ne kTT))).eq rfl) rfl ?_
      refine s_set (e_first (e_var rfl) (e_ixT (e_var rfl) e_int rfl) (e_var rfl)) ?_
      refine s_parD (a_cons (e_ixT (e_var rfl) e_int rfl) (a_cons ((e_op (e_var rfl) (e_ixT (e_var rfl) e_int rfl) (rd_catT ?_)).eq (d' := .tuple (zz (r ++ r'))) (by unfold zz; rw [List.map_append])) a_nil)) ?_
      · rw [List.length_map, List.length_map]; omega
      refine s_set1 (e_ixL (e_call_pf (c, s', r') ⟨hc, br.so, br.ro, show r'.length ≤ 1000 by omega⟩ (a_cons (e_var rfl) (a_cons (e_ixT (e_var rfl) e_int rfl) (a_cons (e_ixT (e_var rfl) e_int rfl) a_nil)))) (e_neg e_int) at_states) ?_
      exact ⟨ds.length - e, by omega, e, f, some (walk c s' r'), _, r ++ r', _, rfl, by omega, walk_ok hc br.so, by rw [List.length_append]; omega, bl, hfi, rfl⟩
  · have z : ¬ a < ds.length := by have z := of_decide_eq_false z; omega
    rw [fgo_end z] at hfi
    refine .inl ⟨_, rfl, ?_⟩
    rw [← hfi]
    exact s_retD (e_lst1 (e_tup (a_cons (e_var rfl) (a_cons (e_var rfl) a_nil)) len2)) rfl
end
end Kt
set_option Elab.async false
set_option linter.all false
set_option maxRecDepth 100000
set_option maxHeartbeats 4000000
namespace Kt
open PySem PySem.Spec PyProof.Rows L2
def t_law_next (K : PySem.W.Frag) : TS := (tSeq (tWhile (tAnd (tTest (tOp (rNeD K) (tDGet (tVar 0) (tC (.str "left"))) (tLst tNil))) (tTest (tOp rEq (tOp (rIxL K) (tDGet (tVar 0) (tC (.str "left"))) (tC (.int 0))) (tC (.int 0))))) (sDPut (tVar 0) (tC (.str "left")) (tSl (rSlL K) (tDGet (tVar 0) (tC (.str "left"))) (tPart (tC (.int 1))) tNoPart))) (tSeq (tIfS (tTest (tOp (rNeD K) (tDGet (tVar 0) (tC (.str "left"))) (tLst tNil))) (tSeq (tAsg (tCB rIntQ (tCons (tOp (rIxL K) (tDGet (tVar 0) (tC (.str "left"))) (tC (.int 0))) tNil)) (gName 5)) (tSeq (tAsg (tOp (rI CDivN fun i j => .int (i.fdiv j)) (tVar 5) (tVar 1)) (gSub (tDGet (tVar 0) (tC (.str "left"))) (tC (.int 0)) rSetL)) (tRet (tOp (rI (fun _ j => j ≠ 0) fun i j => .int (i.fmod j)) (tVar 5) (tVar 1))))) tNext) (tSeq (tAsg (tOp (rI0 fun i j => .int (i + j)) (tDGet (tVar 0) (tC (.str "at"))) (tC (.int 1))) (gName 2)) (tSeq (sDPut (tVar 0) (tC (.str "at")) (tVar 2)) (tSeq (tAsg (tIf (tTest (tOp (rNeD K) (tDGet (tVar 0) (tC (.str "cells"))) (tLst tNil))) (tOp (rIxL K) (tDGet (tVar 0) (tC (.str "cells"))) (tOp (rI (fun _ j => j ≠ 0) fun i j => .int (i.fmod j)) (tCB rIntQ (tCons (tVar 2) tNil)) (tCB (rLenQ K) (tCons (tDGet (tVar 0) (tC (.str "cells"))) tNil)))) (tC (.int 3))) (gName 3)) (tSeq (tAsg (tOp (rI CMul fun i j => .int (i * j)) (tCB rIntQ (tCons (tOp (rI0 fun i j => .int (i + j)) (tOp (rI0 fun i j => .int (i + j)) (tOp (rI (fun _ j => j ≠ 0) fun i j => .int (i.fmod j)) (tCB rIntQ (tCons (tVar 3) tNil)) (tC (.int 2147483629))) (tOp (rI CMul fun i j => .int (i * j)) (tC (.int 7919)) (tVar 2))) (tOp (rI CMul fun i j => .int (i * j)) (tOp (rI CMul fun i j => .int (i * j)) (tC (.int 19)) (tVar 2)) (tVar 2))) tNil)) (tC (.int 48271))) (gName 4)) (tSeq (tAsg (tOp (rI CMul fun i j => .int (i * j)) (tCB rIntQ (tCons (tOp (rI0 fun i j => .int (i + j)) (tOp (rI (fun _ j => j ≠ 0) fun i j => .int (i.fmod j)) (tCB rIntQ (tCons (tVar 4) tNil)) (tC (.int 2147483647))) (tOp (rI CMul fun i j => .int (i * j)) (tC (.int 104729)) (tVar 2))) tNil)) (tC (.int 69621))) (gName 4)) (tRet (tOp (rI (fun _ j => j ≠ 0) fun i j => .int (i.fmod j)) (tCB rIntQ (tCons (tOp (rI CDivN fun i j => .int (i.fdiv j)) (tOp (rI (fun _ j => j ≠ 0) fun i j => .int (i.fmod j)) (tCB rIntQ (tCons (tVar 4) tNil)) (tC (.int 2147483587))) (tC (.int 11))) tNil)) (tVar 1))))))))))
def t_next_tail (K : PySem.W.Frag) : TS := (tSeq (tAsg (tOp (rI CMul fun i j => .int (i * j)) (tCB rIntQ (tCons (tOp (rI0 fun i j => .int (i + j)) (tOp (rI0 fun i j => .int (i + j)) (tOp (rI (fun _ j => j ≠ 0) fun i j => .int (i.fmod j)) (tCB rIntQ (tCons (tVar 3) tNil)) (tC (.int 2147483629))) (tOp (rI CMul fun i j => .int (i * j)) (tC (.int 7919)) (tVar 2))) (tOp (rI CMul fun i j => .int (i * j)) (tOp (rI CMul fun i j => .int (i * j)) (tC (.int 19)) (tVar 2)) (tVar 2))) tNil)) (tC (.int 48271))) (gName 4)) (tSeq (tAsg (tOp (rI CMul fun i j => .int (i * j)) (tCB rIntQ (tCons (tOp (rI0 fun i j => .int (i + j)) (tOp (rI (fun _ j => j ≠ 0) fun i j => .int (i.fmod j)) (tCB rIntQ (tCons (tVar 4) tNil)) (tC (.int 2147483647))) (tOp (rI CMul fun i j => .int (i * j)) (tC (.int 104729)) (tVar 2))) tNil)) (tC (.int 69621))) (gName 4)) (tRet (tOp (rI (fun _ j => j ≠ 0) fun i j => .int (i.fmod j)) (tCB rIntQ (tCons (tOp (rI CDivN fun i j => .int (i.fdiv j)) (tOp (rI (fun _ j => j ≠ 0) fun i j => .int (i.fmod j)) (tCB rIntQ (tCons (tVar 4) tNil)) (tC (.int 2147483587))) (tC (.int 11))) tNil)) (tVar 1)))))
def t_next_rest (K : PySem.W.Frag) : TS := (tSeq (tIfS (tTest (tOp (rNeD K) (tDGet (tVar 0) (tC (.str "left"))) (tLst tNil))) (tSeq (tAsg (tCB rIntQ (tCons (tOp (rIxL K) (tDGet (tVar 0) (tC (.str "left"))) (tC (.int 0))) tNil)) (gName 5)) (tSeq (tAsg (tOp (rI CDivN fun i j => .int (i.fdiv j)) (tVar 5) (tVar 1)) (gSub (tDGet (tVar 0) (tC (.str "left"))) (tC (.int 0)) rSetL)) (tRet (tOp (rI (fun _ j => j ≠ 0) fun i j => .int (i.fmod j)) (tVar 5) (tVar 1))))) tNext) (tSeq (tAsg (tOp (rI0 fun i j => .int (i + j)) (tDGet (tVar 0) (tC (.str "at"))) (tC (.int 1))) (gName 2)) (tSeq (sDPut (tVar 0) (tC (.str "at")) (tVar 2)) (tSeq (tAsg (tIf (tTest (tOp (rNeD K) (tDGet (tVar 0) (tC (.str "cells"))) (tLst tNil))) (tOp (rIxL K) (tDGet (tVar 0) (tC (.str "cells"))) (tOp (rI (fun _ j => j ≠ 0) fun i j => .int (i.fmod j)) (tCB rIntQ (tCons (tVar 2) tNil)) (tCB (rLenQ K) (tCons (tDGet (tVar 0) (tC (.str "cells"))) tNil)))) (tC (.int 3))) (gName 3)) (tSeq (tAsg (tOp (rI CMul fun i j => .int (i * j)) (tCB rIntQ (tCons (tOp (rI0 fun i j => .int (i + j)) (tOp (rI0 fun i j => .int (i + j)) (tOp (rI (fun _ j => j ≠ 0) fun i j => .int (i.fmod j)) (tCB rIntQ (tCons (tVar 3) tNil)) (tC (.int 2147483629))) (tOp (rI CMul fun i j => .int (i * j)) (tC (.int 7919)) (tVar 2))) (tOp (rI CMul fun i j => .int (i * j)) (tOp (rI CMul fun i j => .int (i * j)) (tC (.int 19)) (tVar 2)) (tVar 2))) tNil)) (tC (.int 48271))) (gName 4)) (tSeq (tAsg (tOp (rI CMul fun i j => .int (i * j)) (tCB rIntQ (tCons (tOp (rI0 fun i j => .int (i + j)) (tOp (rI (fun _ j => j ≠ 0) fun i j => .int (i.fmod j)) (tCB rIntQ (tCons (tVar 4) tNil)) (tC (.int 2147483647))) (tOp (rI CMul fun i j => .int (i * j)) (tC (.int 104729)) (tVar 2))) tNil)) (tC (.int 69621))) (gName 4)) (tRet (tOp (rI (fun _ j => j ≠ 0) fun i j => .int (i.fmod j)) (tCB rIntQ (tCons (tOp (rI CDivN fun i j => .int (i.fdiv j)) (tOp (rI (fun _ j => j ≠ 0) fun i j => .int (i.fmod j)) (tCB rIntQ (tCons (tVar 4) tNil)) (tC (.int 2147483587))) (tC (.int 11))) tNil)) (tVar 1)))))))))
def t_next_cell (K : PySem.W.Frag) : TE := (tIf (tTest (tOp (rNeD K) (tDGet (tVar 0) (tC (.str "cells"))) (tLst tNil))) (tOp (rIxL K) (tDGet (tVar 0) (tC (.str "cells"))) (tOp (rI (fun _ j => j ≠ 0) fun i j => .int (i.fmod j)) (tCB rIntQ (tCons (tVar 2) tNil)) (tCB (rLenQ K) (tCons (tDGet (tVar 0) (tC (.str "cells"))) tNil)))) (tC (.int 3)))
section
variable {K : PySem.W.Frag} {T : List (Addr × Str)} {m c l : Addr} {W H : Hp} {cells left : List Int} {k : Nat} {σ : L2.St} {Q : VK}
abbrev mk3 (c l : Addr) (k : Int) : List (Key × V) := [(Sum.inr "cells", .ref c), (Sum.inr "left", .ref l), (Sum.inr "at", .int k)]
theorem tabs_put {a : Addr} {o o' : HO} (h : H a = some o) (h1 : ∀ ps, o ≠ .tbl ps) (h2 : ∀ b q, o ≠ LamX.CodeO b q) (t : LamX.Tabs T H) : LamX.Tabs T (upd H a o') := tabs_of t
  (fun b ps e => by rw [upd_ne (fun z => by rw [z, h] at e; exact h1 ps (Option.some.inj e))]; exact e) fun b q e => by rw [upd_ne (fun z => by rw [z] at e; rw [h] at e; exact h2 a q (Option.some.inj e))]; exact e
structure MSx (T : List (Addr × Str)) (m : Addr) (W H : Hp) (c l : Addr) (cells left : List Int) (k : Nat) : Prop where
  i : Same W H
  hm : H m = some (.dK (mk3 c l k))
  hc : H c = some (.lst (cells.map V.int))
  hl : H l = some (.lst (left.map V.int))
  ne : c ≠ l
  wm : W m = none
  wl : W l = none
  wc : W c = none
  tb : LamX.Tabs T H
  wt : ∀ b ps, W b ≠ some (.tbl ps)
theorem MSx.new {p : Addr} {o : HO} (s : MSx T m W H c l cells left k) (hp : H p = none) : MSx T m W (upd H p o) c l cells left k := by
  have n : ∀ {b u}, H b = some u → upd H p o b = some u := fun {b u} e => by rw [upd_ne (ne_of_none e hp)]; exact e
  exact ⟨fun b u e => n (s.i b u e), n s.hm, n s.hc, n s.hl, s.ne, s.wm, s.wl, s.wc, s.tb.ext fun b u e => n e, s.wt⟩
theorem n1 : ("cells" : Str) ≠ "left" := by decide +kernel
theorem n2 : ("cells" : Str) ≠ "at" := by decide +kernel
theorem n3 : ("left" : Str) ≠ "at" := by decide +kernel
theorem n4 : ("at" : Str) ≠ "left" := by decide +kernel
theorem v_left {k : Int} : valV (mk3 c l k) (Sum.inr "left") = some (.ref l) := by
  unfold valV
  simp [List.find?, n1, n2, n3, n4]
theorem v_cells {k : Int} : valV (mk3 c l k) (Sum.inr "cells") = some (.ref c) := by
  unfold valV
  simp [List.find?, n1, n2, n3, n4]
theorem v_at {k : Int} : valV (mk3 c l k) (Sum.inr "at") = some (.int k) := by
  unfold valV
  simp [List.find?, n1, n2, n3, n4]
theorem p_left {k : Int} {p : Addr} : putK (mk3 c l k) (Sum.inr "left") (.ref p) = mk3 c p k := by
  unfold putK
  simp [n1, n2, n3, n4]
theorem p_at {k j : Int} : putK (mk3 c l k) (Sum.inr "at") (.int j) = mk3 c l j := by
  unfold putK
  simp [n1, n2, n3, n4]
theorem g_left (hσ : σ[0]? = some (some (.ref m))) (s : MSx T m W H c l cells left k) (q : Q (.ref l) H) : tDGet (tVar 0) (tC (.str "left")) σ H Q :=
  ⟨_, hσ, m, .ref l, rfl, by have z := DGet.k (k := Sum.inr "left") s.hm; rw [v_left] at z; exact z, q⟩
theorem g_cells (hσ : σ[0]? = some (some (.ref m))) (s : MSx T m W H c l cells left k) (q : Q (.ref c) H) : tDGet (tVar 0) (tC (.str "cells")) σ H Q :=
  ⟨_, hσ, m, .ref c, rfl, by have z := DGet.k (k := Sum.inr "cells") s.hm; rw [v_cells] at z; exact z, q⟩
theorem g_at (hσ : σ[0]? = some (some (.ref m))) (s : MSx T m W H c l cells left k) (q : Q (.int k) H) : tDGet (tVar 0) (tC (.str "at")) σ H Q :=
  ⟨_, hσ, m, .int k, rfl, by have z := DGet.k (k := Sum.inr "at") s.hm; rw [v_at] at z; exact z, q⟩
theorem dpAll_ints : ∀ l : List Int, DpAll K H (l.map V.int) (zz l)
  | [] => .nil
  | i :: r => .cons (.int i) (dpAll_ints r)
theorem shaped_ints : ∀ l : List Int, SeqAt.shaped (.list (zz l)) = true
  | [] => rfl
  | i :: r => shaped_ints r
theorem eqv_nil : ∀ l : List Int, PyData.eqv (.list (zz l)) (.list []) = l.isEmpty
  | [] => rfl
  | i :: r => rfl
theorem r_ne {te : TE} {a : Addr} {xs : List Int} (s : MSx T m W H c l cells left k) (hs : H a = some (.lst (xs.map V.int))) (hte : ∀ Q : VK, Q (.ref a) H → te σ H Q) (q : ∀ H', MSx T m W H' c l cells left k → Q (.bl (!xs.isEmpty)) H') : tOp (rNeD K) te (tLst tNil) σ H Q := by
  refine hte _ ⟨Nat.zero_le _, fun p hp => ?_⟩
  have ha : upd H p (.lst []) a = some (.lst (xs.map V.int)) := by rw [upd_ne (ne_of_none hs hp)]; exact hs
  exact ⟨.list (zz xs), .list [], .lst (SqL.of ha) (dpAll_ints xs), .lst (SqL.of upd_same) .nil, shaped_ints xs, rfl, by rw [eqv_nil]; exact q _ (s.new hp)⟩
end
section
variable {K : PySem.W.Frag} {T : List (Addr × Str)} {m c l : Addr} {W H : Hp} {cells left : List Int} {k : Nat} {σ : L2.St} {Q : VK} {M : Mode} {ρ : En} {te : TE} {i : Int}
theorem ix0 {n : Nat} (h : 0 < n) : ixN n 0 = some 0 := by unfold ixN; simp [h]
theorem e_int1 (h : E K M te ρ (.int i)) : E K M (tCB rIntQ (tCons te tNil)) ρ (.int i) := e_callB (a_cons h a_nil) cd_int
theorem sv_next_tail {kk z many : Int} (hk : 0 ≤ kk ∧ kk ≤ 2000000000) (hm : 1 ≤ many) : SV K M 0 (t_next_tail K) [none, some (.int many), some (.int kk), some (.int z), none, none] (fun o => ∃ r : Int, o = .rt (.int r) ∧ 0 ≤ r ∧ r < many) := by
  have c64 : ∀ {i j : Int}, (-(2 ^ 64) < j ∧ j < 2 ^ 64) → CMul i j := fun h => .inr h
  refine s_set (e_mul (e_int1 (e_add (e_add (e_mod (e_int1 (e_var rfl)) e_int (by decide)) (e_mul e_int (e_var rfl) (cmul_of (by decide)))) (e_mul (e_mul e_int (e_var rfl) (cmul_of (by decide))) (e_var rfl) (c64 (by omega))))) e_int (c64 (by decide))) ?_
  refine s_set (e_mul (e_int1 (e_add (e_mod (e_int1 (e_var rfl)) e_int (by decide)) (e_mul e_int (e_var rfl) (c64 (by omega))))) e_int (c64 (by decide))) ?_
  refine s_retD (e_mod (e_int1 (e_div (e_mod (e_int1 (e_var rfl)) e_int (by decide)) e_int (by decide))) (e_var rfl) (by omega)) ⟨_, rfl, Int.emod_nonneg _ (by omega), Int.emod_lt_of_pos _ (by omega)⟩
theorem MSx.st {n : Nat} (s : MSx T m W H c l cells left k) (h1 : cells.length ≤ 100) (h2 : left.length ≤ 100) (h3 : k ≤ n) : MSt m T n W H := ⟨⟨c, l, cells, left, k, s.hm, s.hc, s.hl, s.ne, s.wm, s.wl, s.wc, h1, h2, h3⟩, s.tb, s.wt⟩
theorem run_law_next (vs : List V) (H : Hp) (Q : VK) (E : XK) (h : sp_law_next K vs H Q E) : t_law_next K { nx := fun _ H' => Q .non H', rt := Q } (start ["m", "many", "k", "cell", "mixed", "rest"] vs) H := by
  obtain ⟨m, T, n, W, many, i, st, hlim, iv, ⟨hm1, hm2⟩, q⟩ := h
  have iv : IsAll K (some m) W vs [markD, .int many] := iv
  cases iv with
  | cons h1 r =>
  cases r with
  | cons h2 r =>
  cases r
  cases h2
  cases h1 with
  | em h =>
  cases h
  obtain ⟨c, l, cells, left, k, a1, a2, a3, a4, a5, a6, a7, a8, a9, a10⟩ := st.ex
  have s0 : MSx T m W H c l cells left k := ⟨i, a1, a2, a3, a4, a5, a6, a7, st.tb, st.wt⟩
  have fin : ∀ {r : Int} {H' : Hp} {l : Addr} {left : List Int} {k : Nat}, MSx T m W H' c l cells left k → left.length ≤ 100 → k ≤ n + 1 → 0 ≤ r → r < many → Q (.int r) H' := fun {r H' l left k} s hl hk h0 h1 =>
    q (.int r) (.int r) W H' ⟨Same.refl _, s.i, trivial, s.st a8 hl hk⟩ ⟨r, rfl, h0, h1⟩ (.int r)
  refine ⟨fun μ σ' H' => σ' = start ["m", "many", "k", "cell", "mixed", "rest"] [.ref m, .int many] ∧ ∃ l left, MSx T m W H' c l cells left k ∧ left.length ≤ 100 ∧ μ = left.length, ⟨_, rfl, l, left, s0, a9, rfl⟩, ?_⟩
  rintro μ σ' H1 ⟨rfl, l, left, s, h100, rfl⟩
  have rest : ∀ {H2 : Hp} {left : List Int}, MSx T m W H2 c l cells left k → left.length ≤ 100 → t_next_rest K { nx := fun _ H' => Q .non H', rt := Q } (start ["m", "many", "k", "cell", "mixed", "rest"] [.ref m, .int many]) H2 := fun {H2 left} s hl => by
    refine r_ne (xs := left) s s.hl (fun Q q => g_left rfl s q) fun H3 s3 => ⟨_, rfl, ?_⟩
    cases left with
    | cons x r =>
      refine iteT ?_
      have p1 : ∀ Q : VK, Q (.int x) H3 → tOp (rIxL K) (tDGet (tVar 0) (tC (.str "left"))) (tC (.int 0)) (start ["m", "many", "k", "cell", "mixed", "rest"] [.ref m, .int many]) H3 Q := fun Q q => g_left rfl s3 ⟨l, _, 0, .int x, rfl, rfl, .inl (.inl s3.hl), at_of (j := 0) rfl rfl, q⟩
      refine p1 _ (.inl ⟨x, rfl, ?_⟩)
      refine ⟨_, rfl, _, rfl, x, many, rfl, rfl, ⟨by omega, by omega⟩, ?_⟩
      refine g_left rfl s3 ⟨l, _, 0, 0, rfl, rfl, s3.hl, ix0 (Nat.zero_lt_succ _), ?_⟩
      refine ⟨_, rfl, _, rfl, x, many, rfl, rfl, by omega, ?_⟩
      have nm : m ≠ l := ne_of s3.hm s3.hl (fun z => nomatch z)
      have s4 : MSx T m W (upd H3 l (.lst ((x.fdiv many :: r).map V.int))) c l cells (x.fdiv many :: r) k := by
        refine ⟨fun b u e => ?_, by rw [upd_ne nm]; exact s3.hm, by rw [upd_ne s3.ne]; exact s3.hc, upd_same, s3.ne, s3.wm, s3.wl, s3.wc, tabs_put s3.hl (fun _ z => nomatch z) (fun b q z => codeO_lst z.symm) s3.tb, s3.wt⟩
        have hb : b ≠ l := fun z => by rw [z, s3.wl] at e; cases e
        rw [upd_ne hb]; exact s3.i b u e
      show Q (.int (x.fmod many)) (upd H3 l (.lst ((x.fdiv many :: r).map V.int)))
      rw [fmod_pos (by omega)]
      exact fin s4 hl (by omega) (Int.emod_nonneg _ (by omega)) (Int.emod_lt_of_pos _ (by omega))
    | nil =>
      refine iteF ?_
      refine g_at rfl s3 ⟨_, _, rfl, rfl, ?_⟩
      have s4 : MSx T m W (upd H3 m (.dK (mk3 c l ((k + 1 : Nat) : Int)))) c l cells [] (k + 1) := by
        have nl : l ≠ m := ne_of s3.hl s3.hm (fun z => nomatch z)
        have nc : c ≠ m := ne_of s3.hc s3.hm (fun z => nomatch z)
        refine ⟨fun b u e => ?_, upd_same, by rw [upd_ne nc]; exact s3.hc, by rw [upd_ne nl]; exact s3.hl, s3.ne, s3.wm, s3.wl, s3.wc, tabs_put s3.hm (fun _ z => nomatch z) (fun b q z => codeO_dK z.symm) s3.tb, s3.wt⟩
        have hb : b ≠ m := fun z => by rw [z, s3.wm] at e; cases e
        rw [upd_ne hb]; exact s3.i b u e
      refine ⟨_, rfl, _, rfl, m, upd H3 m (.dK (mk3 c l ((k + 1 : Nat) : Int))), rfl, ?_, ?_⟩
      · have z := DPut.k (k := Sum.inr "at") (v := .int ((k : Int) + 1)) s3.hm (Nat.lt_of_lt_of_le (show 3 < 16000000 by decide) (sl_of (Nat.le_refl _)))
        rw [p_at] at z
        exact z
      · have cell : ∀ Q : VK, (∀ z H', MSx T m W H' c l cells [] (k + 1) → Q (.int z) H') → t_next_cell K ((start ["m", "many", "k", "cell", "mixed", "rest"] [.ref m, .int many]).set 2 (some (.int ((k : Int) + 1)))) (upd H3 m (.dK (mk3 c l ((k + 1 : Nat) : Int)))) Q := fun Q q => by
          refine r_ne (xs := cells) s4 s4.hc (fun Q q => g_cells rfl s4 q) fun H5 s5 => ⟨_, rfl, ?_⟩
          cases cells with
          | nil => exact iteF (q 3 _ s5)
          | cons z r =>
            refine iteT ?_
            refine g_cells rfl s5 ⟨_, rfl, .inl ⟨_, rfl, ?_⟩⟩
            refine g_cells rfl s5 ⟨c, _, rfl, .inl (.inl (.inl s5.hc)), ?_⟩
            refine ⟨_, _, rfl, rfl, by rw [List.length_map]; show ((r.length + 1 : Nat) : Int) ≠ 0; omega, ?_⟩
            have g0 : 0 ≤ ((k : Int) + 1).fmod ((z :: r).map V.int).length := by
              rw [fmod_pos (by omega)]
              exact Int.emod_nonneg _ (by rw [List.length_map]; show ((r.length + 1 : Nat) : Int) ≠ 0; omega)
            have g1 : ((k : Int) + 1).fmod ((z :: r).map V.int).length < ((z :: r).map V.int).length := by
              rw [fmod_pos (by omega)]
              exact Int.emod_lt_of_pos _ (by rw [List.length_map]; show (0 : Int) < ((r.length + 1 : Nat) : Int); omega)
            generalize hx : ((k : Int) + 1).fmod ((z :: r).map V.int).length = ix at g0 g1
            obtain ⟨y, hy⟩ : ∃ y, ((z :: r).map V.int)[ix.toNat]? = some (.int y) := by
              have lt : ix.toNat < (z :: r).length := by rw [List.length_map] at g1; omega
              exact ⟨(z :: r)[ix.toNat], by rw [List.getElem?_map, List.getElem?_eq_getElem lt]; rfl⟩
            exact ⟨c, _, ix, .int y, rfl, congrArg V.int hx, .inl (.inl s5.hc), at_of (j := ix.toNat) (by omega) hy, q y _ s5⟩
        refine cell _ fun z H' s5 => ?_
        refine sv_next_tail (K := K) (M := .em m T) (kk := (k : Int) + 1) (z := z) (many := many) ⟨by omega, by unfold lim at hlim; omega⟩ hm1 (fun _ _ _ => True) (n + 1) _ W H' s5.i (s5.st a8 (Nat.zero_le _) (by omega)) hlim ⟨rfl, fun j d hj => ?_⟩ _ (fun o W' H2 g ⟨r, e, h0, h1⟩ => ?_) fun d ⟨_, z, _⟩ => nomatch z
        · match j, hj with
          | 0, hj => cases hj
          | 1, hj => cases hj; exact ⟨_, rfl, .int _⟩
          | 2, hj => cases hj; exact ⟨_, rfl, .int _⟩
          | 3, hj => cases hj; exact ⟨_, rfl, .int _⟩
          | 4, hj => cases hj
          | 5, hj => cases hj
          | j + 6, hj => cases hj
        · subst e
          intro v ivr
          cases ivr
          exact q (.int r) (.int r) W' H2 ⟨g.w, g.i, trivial, g.s⟩ ⟨r, rfl, h0, h1⟩ (.int r)
  refine r_ne (xs := left) s s.hl (fun Q q => g_left rfl s q) fun H2 s2 => ⟨_, rfl, ?_⟩
  cases left with
  | nil => exact iteF (iteF (rest s2 h100))
  | cons x r =>
    refine iteT (g_left rfl s2 ⟨l, _, 0, .int x, rfl, rfl, .inl (.inl s2.hl), at_of (j := 0) rfl rfl, rfl, _, rfl, ?_⟩)
    by_cases hx : x = 0
    · subst hx
      refine iteT ⟨fun σ' H' => ∃ μ', μ' < (0 :: r).length ∧ σ' = start ["m", "many", "k", "cell", "mixed", "rest"] [.ref m, .int many] ∧ ∃ l left, MSx T m W H' c l cells left k ∧ left.length ≤ 100 ∧ μ' = left.length, fun σ' H' h => h, ?_⟩
      refine g_left rfl s2 ⟨1, rfl, l, _, rfl, .inl (.inl s2.hl), fun p hp => ?_⟩
      have s3 := s2.new (o := .lst (cutV ((0 :: r).map V.int) (some 1) none)) hp
      have ep : cutV ((0 :: r).map V.int) (some 1) none = r.map V.int := by
        unfold cutV
        rw [show (some (1 : Int)) = some ((1 : Nat) : Int) from rfl, HT.sIx_nat, HT.sIx_none]
        simp [List.take_of_length_le]
      rw [ep] at s3 ⊢
      have wp : W p = none := s2.i.free hp
      have np : m ≠ p := ne_of_none s2.hm hp
      have nc : c ≠ p := ne_of_none s2.hc hp
      have ncm : c ≠ m := ne_of s2.hc s2.hm (fun z => nomatch z)
      refine ⟨_, rfl, m, upd (upd H2 p (.lst (r.map V.int))) m (.dK (mk3 c p k)), rfl, ?_, r.length, Nat.lt_succ_self _, rfl, p, r, ?_, by have : (0 :: r).length ≤ 100 := h100; simp at this; omega, rfl⟩
      · have z := DPut.k (k := Sum.inr "left") (v := .ref p) s3.hm (Nat.lt_of_lt_of_le (show 3 < 16000000 by decide) (sl_of (Nat.le_refl _)))
        rw [p_left] at z
        exact z
      · refine ⟨fun b u e => ?_, upd_same, by rw [upd_ne ncm, upd_ne nc]; exact s2.hc, by rw [upd_ne (Ne.symm np), upd_same], nc, s2.wm, wp, s2.wc, tabs_put s3.hm (fun _ z => nomatch z) (fun b q z => codeO_dK z.symm) s3.tb, s3.wt⟩
        have hb : b ≠ m := fun z => by rw [z, s2.wm] at e; cases e
        have hb2 : b ≠ p := fun z => by rw [z, wp] at e; cases e
        rw [upd_ne hb, upd_ne hb2]; exact s2.i b u e
    · have e : decide (V.int x = V.int 0) = false := by rw [decV_int, decide_eq_false hx]
      rw [e]
      exact iteF (rest s2 h100)
end
end Kt
set_option Elab.async false
set_option linter.all false
set_option maxRecDepth 100000
set_option maxHeartbeats 4000000
namespace Kt
open PySem PySem.Spec PyProof.Rows L2
section
variable {K : PySem.W.Frag} {M : Mode} {m : Addr} {T : List (Addr × Str)} {d x : PyData} {ds es : List PyData} {c : Cd} {s : St2} {k l i j p N : Int} {a n many : Nat} {row sizes : List Int} {st : Option St2} {ρ : En} {te ta tb tm tn : TE} {tt : TT} {b : Bool} {O : Out → Prop} {t u : TS} {X : XK} {c1 c2 : Nat}
def EI (K : PySem.W.Frag) (M : Mode) (c : Nat) (te : TE) (ρ : En) (P : Int → Prop) : Prop := EV K M c te ρ (fun d => ∃ i : Int, d = .int i ∧ P i)
theorem ei_of {P : Int → Prop} (h : E K M te ρ (.int i)) (p : P i) : EI K M 0 te ρ P := EV.mono h (Nat.le_refl _) fun _ e => ⟨i, e, p⟩
theorem EI.mono {P P' : Int → Prop} {c c' : Nat} (h : EI K M c te ρ P) (hc : c ≤ c') (hp : ∀ i, P i → P' i) : EI K M c' te ρ P' := EV.mono h hc fun _ ⟨i, e, p⟩ => ⟨i, e, hp i p⟩
theorem ei_add {P1 P2 P : Int → Prop} (h1 : EI K M c1 ta ρ P1) (h2 : EI K M c2 tb ρ P2) (h : ∀ i j, P1 i → P2 j → P (i + j)) : EI K M (c1 + c2) (tOp (rI0 fun i j => .int (i + j)) ta tb) ρ P :=
  ev_op h1 h2 fun x y ⟨i, e1, p1⟩ ⟨j, e2, p2⟩ => by
    subst e1 e2
    exact fun W H v w e iv iw Q q => rd_add W H v w e iv iw Q fun u d W' H' up e' iu => q u d W' H' up ⟨_, e', h i j p1 p2⟩ iu
theorem ei_sub {P1 P2 P : Int → Prop} (h1 : EI K M c1 ta ρ P1) (h2 : EI K M c2 tb ρ P2) (h : ∀ i j, P1 i → P2 j → P (i - j)) : EI K M (c1 + c2) (tOp (rI0 fun i j => .int (i - j)) ta tb) ρ P :=
  ev_op h1 h2 fun x y ⟨i, e1, p1⟩ ⟨j, e2, p2⟩ => by
    subst e1 e2
    exact fun W H v w e iv iw Q q => rd_sub W H v w e iv iw Q fun u d W' H' up e' iu => q u d W' H' up ⟨_, e', h i j p1 p2⟩ iu
/-- a draw: the number of answers may itself be drawn -/
theorem ei_draw (hm : E K (.em m T) tm ρ markD) (hn : EI K (.em m T) c1 tn ρ (fun i => 1 ≤ i ∧ i ≤ N)) (hN : N ≤ 1000000) : EI K (.em m T) (c1 + 1) (tCall (sp_law_next K) [] X (tCons tm (tCons tn tNil))) ρ (fun r => 0 ≤ r ∧ r < N) :=
  EV.mono (ev_call (c2 := 1) (av_cons hm (av_cons hn av_nil)) fun l ⟨d, l2, e, e1, d2, l3, e2, ⟨i, e3, p1, p2⟩, e4⟩ => by
    subst e e1 e2 e3 e4
    exact fun n W H vs is s hl iv Q E q => sd_MF i ⟨p1, by omega⟩ n W H vs is s hl iv Q E fun u d W' H' g ⟨r, er, q1, q2⟩ iu => q u d W' H' g ⟨r, er, q1, by omega⟩ iu) (by omega) fun _ p => p
theorem ei_drawD (hm : E K (.em m T) tm ρ markD) (hn : E K (.em m T) tn ρ (.int N)) (h1 : 1 ≤ N) (hN : N ≤ 1000000) : EI K (.em m T) 1 (tCall (sp_law_next K) [] X (tCons tm (tCons tn tNil))) ρ (fun r => 0 ≤ r ∧ r < N) :=
  (ei_draw (N := N) hm (ei_of hn ⟨h1, Int.le_refl _⟩) hN).mono (by omega) fun _ p => p
/-- [..][a draw] -/
theorem ev_pick {P : PyData → Prop} (h : E K M ta ρ (.list ds)) (hi : EI K M c1 tb ρ (fun r => 0 ≤ r ∧ r < ds.length)) (hp : ∀ d ∈ ds, P d) : EV K M c1 (tOp (rIxL K) ta tb) ρ P :=
  EV.mono (ev_op (c1 := 0) h hi fun x y e ⟨i, e2, p1, p2⟩ => by
    subst e e2
    have lt : i.toNat < ds.length := by omega
    have z := rd_ixL (K := K) (M := M) (at_int p1 (List.getElem?_eq_getElem lt))
    exact fun W H v w e iv iw Q q => z W H v w e iv iw Q fun u d W' H' up e' iu => q u d W' H' up (by rw [e']; exact hp _ (List.getElem_mem lt)) iu) (by omega) fun _ p => p
theorem ei_pick {P : Int → Prop} (h : E K M ta ρ (.list ds)) (hi : EI K M c1 tb ρ (fun r => 0 ≤ r ∧ r < ds.length)) (hp : ∀ d ∈ ds, ∃ i : Int, d = .int i ∧ P i) : EI K M c1 (tOp (rIxL K) ta tb) ρ P := ev_pick h hi hp
theorem sv_law_some_state (h : c.Ok) : SV K (.em m T) 2 (t_law_some_state K) [some markD, some c.d] (fun o => ∃ d, o = .rt d ∧ ∃ s, SOk c s ∧ d = sd s) := by
  have h1 := h.low
  have h2 := h.high
  have h3 := h.sl
  refine s_ret (P := fun d => ∃ s, SOk c s ∧ d = sd s) (EV.mono (ev_tup (P := fun d => ∃ s, SOk c s ∧ d = sd s) (av_cons (ei_add (P := fun v => c.low ≤ v ∧ v ≤ c.high) (ei_of (P := fun i => i = c.low) (e_ixT (e_var rfl) e_int rfl) rfl) (ei_drawD (e_var rfl) (e_add (e_sub (e_ixT (e_var rfl) e_int rfl) (e_ixT (e_var rfl) e_int rfl)) e_int) (by omega) (by omega)) (fun i j e1 e2 => by omega))
    (av_cons (ei_drawD (e_var rfl) (e_len (e_ixT (e_var rfl) e_int rfl)) (by rw [List.length_map]; omega) (by rw [List.length_map]; omega)) av_nil)) (fun l ⟨d, l2, e, _, d2, l3, e2, _, e3⟩ => by subst e e2 e3; exact len2) fun l ⟨d, l2, e, ⟨i, e4, p4⟩, d2, l3, e2, ⟨j, e5, p5⟩, e3⟩ => ?_) (by omega) fun _ p => p) fun d hd => ⟨d, rfl, hd⟩
  subst e e2 e3 e4 e5
  rw [List.length_map] at p5
  exact ⟨(i, j), ⟨p4, p5⟩, rfl⟩
theorem sv_law_row (h : c.Ok) (hm : many ≤ 40) : SV K (.em m T) 100 (t_law_row K) [some markD, some c.d, some (.int (many : Int)), none] (fun o => ∃ d, o = .rt d ∧ ∃ r, ROk c r ∧ r.length ≤ many ∧ d = .tuple (zz r)) := by
  have h3 := h.ml
  refine s_ret (P := fun d => ∃ r, ROk c r ∧ r.length ≤ many ∧ d = .tuple (zz r)) (EV.mono (ev_callB (P := fun d => ∃ r, ROk c r ∧ r.length ≤ many ∧ d = .tuple (zz r)) (av_cons (P1 := fun d => ∃ r, ROk c r ∧ r.length ≤ many ∧ d = .list (zz r)) (ev_lc (c2 := 1) (L := 40) (PI := fun l => ∃ n : Nat, l = ixs n ∧ n ≤ many)
    (wh_range (PN := fun n => n ≤ many) (EV.mono (ei_drawD (X := E0) (e_var rfl) (e_addN (n := 1) rfl (e_var rfl)) (by omega) (by omega)) (Nat.le_refl _) fun d ⟨i, e, p1, p2⟩ => ⟨i.toNat, by rw [e]; congr 1; omega, by omega, by omega⟩))
    (fun items ⟨n, e, hn⟩ => by rw [e, ixs_len]; exact ⟨by omega, by omega⟩) (fun items i acc => ∃ r, acc = zz r ∧ r.length = i ∧ ROk c r) (fun _ _ => ⟨[], rfl, rfl, fun k hk => by cases hk⟩) (fun items i d acc ⟨n, e, hn⟩ hi ⟨r, ha, hr, ho⟩ => ?_) fun items acc ⟨n, e, hn⟩ ⟨r, ha, hr, ho⟩ => ⟨r, ho, by rw [hr, e, ixs_len]; exact hn, by rw [ha]⟩) av_nil)
    fun l ⟨d, l2, e, ⟨r, ho, hr, e1⟩, e2⟩ => ?_) (by omega) fun _ p => p) fun d hd => ⟨d, rfl, hd⟩
  · subst e ha
    obtain ⟨hlt, rfl⟩ := ixs_at hi
    refine EV.mono (ei_drawD (X := E0) (e_var rfl) (e_len (e_ixT (e_var rfl) e_int rfl)) (by rw [List.length_map]; omega) (by rw [List.length_map]; omega)) (by omega) fun d ⟨j, e, p1, p2⟩ => ?_
    subst e
    rw [List.length_map] at p2
    refine ⟨rfl, r ++ [j], by unfold zz; rw [List.map_append]; rfl, by rw [List.length_append, hr]; rfl, fun k hk => ?_⟩
    rcases List.mem_append.mp hk with q | q
    · exact ho k q
    · rcases List.mem_cons.mp q with q | q
      · rw [q]; exact ⟨p1, p2⟩
      · cases q
  · subst e e1 e2
    exact fun W H vs e iv Q q => cd_tup W H vs e iv Q fun u d W' H' up e' iu => q u d W' H' up ⟨r, ho, hr, e'⟩ iu
end
end Kt
set_option Elab.async false
set_option linter.all false
set_option maxRecDepth 100000
set_option maxHeartbeats 4000000
namespace Kt
open PySem PySem.Spec PyProof.Rows L2
def rAddB0 : R2 := fun x y H Q => ∃ (b : Bool) (j : Int), x = .bl b ∧ y = .int j ∧ Q (.int ((if b = true then (1 : Int) else 0) + j)) H
def rAddB : R2 := fun x y H Q => (rI0 fun i j => .int (i + j)) x y H Q ∨ rAddB0 x y H Q
theorem op_addB {X : Cx} : OpR X (binaryOp .Add) rAddB := OpR.or op_add (by
  intro pins s σ H x y v u Q I rx ry h
  obtain ⟨b, j, rfl, rfl, q⟩ := h
  cases rx
  obtain ⟨t', rfl⟩ := ry
  exact IntBool.add_bool_int ⟨.int _, H, I.tok _, ⟨_, rfl⟩, q⟩)
def t_law_bent_data (K : PySem.W.Frag) : TS := (tSeq (tPar3 3 4 5 (tCons (tCall (sp_law_next K) [] E0 (tCons (tVar 0) (tCons (tOp (rI0 fun i j => .int (i + j)) (tCB (rLenQ K) (tCons (tVar 1) tNil)) (tC (.int 1))) tNil))) (tCons (tCall (sp_law_next K) [] E0 (tCons (tVar 0) (tCons (tC (.int 9)) tNil))) (tCons (tCall (sp_law_next K) [] E0 (tCons (tVar 0) (tCons (tOp (rI0 fun i j => .int (i + j)) (tCB (rLenQ K) (tCons (tVar 1) tNil)) (tC (.int 1))) tNil))) tNil)))) (tSeq (tAsg (tOp (rIxL K) (tLst (tCons (tC .non) (tCons (tC (.bl true)) (tCons (tC (.str "0")) (tCons (tUn (rU fun i => .int (-i)) (tC (.int 1))) (tCons (tC (.int 256)) (tCons (tTup (tCons (tC (.int 0)) tNil)) (tCons (tC (.int 165)) (tCons (tC (.int 90)) (tCons (tC (.int 0)) (tCons (tC (.int 255)) (tCons (tC (.int 1)) (tCons (tC (.int 16)) (tCons (tLst tNil) (tCons tDNewK (tCons (tLst (tCons (tC (.int 165)) tNil)) tNil)))))))))))))))) (tCall (sp_law_next K) [] E0 (tCons (tVar 0) (tCons (tC (.int 15)) tNil)))) (gName 2)) (tSeq (tIfS (tTest (tOp (rI0 fun i j => .bl (decide (i < j))) (tVar 4) (tC (.int 2)))) (tRet (tOp (rCatA K) (tOp (rCatA K) (tSl (rSlA K) (tVar 1) tNoPart (tPart (tVar 3))) (tTup (tCons (tVar 2) tNil))) (tSl (rSlA K) (tVar 1) (tPart (tOp (rI0 fun i j => .int (i + j)) (tVar 3) (tC (.int 1)))) tNoPart))) tNext) (tSeq (tIfS (tTest (tOp rEq (tVar 4) (tC (.int 2)))) (tRet (tOp (rCatA K) (tOp (rCatA K) (tSl (rSlA K) (tVar 1) tNoPart (tPart (tVar 3))) (tTup (tCons (tCall (sp_law_next K) [] E0 (tCons (tVar 0) (tCons (tC (.int 256)) tNil))) tNil))) (tSl (rSlA K) (tVar 1) (tPart (tOp (rI0 fun i j => .int (i + j)) (tVar 3) (tC (.int 1)))) tNoPart))) tNext) (tSeq (tIfS (tTest (tOp rEq (tVar 4) (tC (.int 3)))) (tSeq (tIfS (tOr (tTest (tOp rEq (tVar 3) (tCB (rLenQ K) (tCons (tVar 1) tNil)))) (tNot (tB (tCB (rIsi K) (tCons (tOp (rIxT K) (tVar 1) (tVar 3)) (tCons (tC (.ty "int")) tNil)))))) (tRet (tSl (rSlA K) (tVar 1) tNoPart (tPart (tUn (rU fun i => .int (-i)) (tC (.int 1)))))) tNext) (tRet (tOp (rCatA K) (tOp (rCatA K) (tSl (rSlA K) (tVar 1) tNoPart (tPart (tVar 3))) (tTup (tCons (tOp (rI (fun _ j => j ≠ 0) fun i j => .int (i.fmod j)) (tOp rAddB (tOp (rIxT K) (tVar 1) (tVar 3)) (tC (.int 1))) (tC (.int 256))) tNil))) (tSl (rSlA K) (tVar 1) (tPart (tOp (rI0 fun i j => .int (i + j)) (tVar 3) (tC (.int 1)))) tNoPart)))) tNext) (tSeq (tIfS (tTest (tOp rEq (tVar 4) (tC (.int 4)))) (tRet (tOp (rCatA K) (tSl (rSlA K) (tVar 1) tNoPart (tPart (tVar 3))) (tSl (rSlA K) (tVar 1) (tPart (tOp (rI0 fun i j => .int (i + j)) (tVar 3) (tC (.int 1)))) tNoPart))) tNext) (tSeq (tIfS (tTest (tOp rEq (tVar 4) (tC (.int 5)))) (tRet (tOp (rCatA K) (tOp (rCatA K) (tSl (rSlA K) (tVar 1) tNoPart (tPart (tVar 3))) (tTup (tCons (tVar 2) tNil))) (tSl (rSlA K) (tVar 1) (tPart (tVar 3)) tNoPart))) tNext) (tSeq (tIfS (tTest (tOp rEq (tVar 4) (tC (.int 6)))) (tRet (tSl (rSlA K) (tVar 1) tNoPart (tPart (tVar 3)))) tNext) (tRet (tIf (tTest (tOp rEq (tVar 4) (tC (.int 7)))) (tOp (rCatA K) (tSl (rSlA K) (tVar 1) tNoPart (tPart (tVar 3))) (tSl (rSlA K) (tVar 1) (tPart (tVar 5)) tNoPart)) (tOp (rCatA K) (tVar 1) (tSl (rSlA K) (tVar 1) (tPart (tVar 3)) tNoPart))))))))))))
section
variable {K : PySem.W.Frag} {M : Mode} {m : Addr} {T : List (Addr × Str)} {d x : PyData} {ds es : List PyData} {c : Cd} {s : St2} {k l i j p N : Int} {a n many : Nat} {row sizes : List Int} {st : Option St2} {ρ : En} {te ta tb tm tn : TE} {tt : TT} {b : Bool} {O : Out → Prop} {t u : TS} {X : XK} {c1 c2 : Nat}
theorem sv_law_great_coder : SV K (.em m T) 100 (t_law_great_coder K) [some markD, none, none, none, none, none, none] (fun o => ∃ d, o = .rt d ∧ ∃ c : Cd, c.Ok ∧ d = c.d) := by
  refine SV.mono (c := 1 + 80) (s_setP (ei_pick (P := fun w => 3 ≤ w ∧ w ≤ 32767) (e_lst (a_cons e_int (a_cons e_int (a_cons e_int (a_cons e_int a_nil)))) (by show 4 ≤ 16000000; decide)) (ei_drawD (e_var rfl) e_int (by decide) (by decide)) (fun d hd => ?_)) fun d ⟨w, e, hw⟩ => ?_) (by omega) fun _ p => p
  · rcases List.mem_cons.mp hd with e | hd
    · exact ⟨_, e, by decide⟩
    rcases List.mem_cons.mp hd with e | hd
    · exact ⟨_, e, by decide⟩
    rcases List.mem_cons.mp hd with e | hd
    · exact ⟨_, e, by decide⟩
    rcases List.mem_cons.mp hd with e | hd
    · exact ⟨_, e, by decide⟩
    · cases hd
  subst e
  refine SV.mono (c := 2 + 70) (s_par (av_cons (ei_sub (P := fun v => -32767 ≤ v ∧ v ≤ 0) (ei_of (P := fun i => i = 0) e_int rfl) (ei_drawD (e_var rfl) (e_add (e_var rfl) e_int) (by omega) (by omega)) (fun i j e p => by omega)) (av_cons (ei_drawD (e_var rfl) (e_add (e_var rfl) e_int) (by omega) (by omega)) av_nil)) fun l ⟨d, l2, e, ⟨lo, e1, p1⟩, d2, l3, e2, ⟨hi, e3, p3⟩, e4⟩ => ⟨.int lo, .int hi, by rw [e, e1, e2, e3, e4], ?_⟩) (by omega) fun _ p => p
  refine SV.mono (c := (1 + 16 * 1) + 50) (s_setP (P := fun d => ∃ st : List Int, d = .list (zz st) ∧ (1 ≤ st.length ∧ st.length ≤ 16) ∧ ∀ s ∈ st, 1 ≤ s ∧ s ≤ 9999) (ev_lc (PI := fun l => ∃ n : Nat, l = ixs n ∧ 1 ≤ n ∧ n ≤ 16)
    (wh_range (PN := fun n => 1 ≤ n ∧ n ≤ 16) (EV.mono (ei_pick (P := fun w => 1 ≤ w ∧ w ≤ 16) (e_lst (a_cons e_int (a_cons e_int (a_cons e_int a_nil))) len3) (ei_drawD (e_var rfl) e_int (by decide) (by decide)) (fun d hd => ?_)) (Nat.le_refl _) fun d ⟨i, e, p1, p2⟩ => ⟨i.toNat, by rw [e]; congr 1; omega, by omega, by omega, by omega⟩))
    (fun items ⟨n, e, hn⟩ => by rw [e, ixs_len]; exact ⟨hn.2, by omega⟩) (fun items i acc => ∃ r : List Int, acc = zz r ∧ r.length = i ∧ ∀ s ∈ r, 1 ≤ s ∧ s ≤ 9999) (fun _ _ => ⟨[], rfl, rfl, fun k hk => by cases hk⟩) (fun items i d acc ⟨n, e, hn⟩ hi ⟨r, ha, hr, ho⟩ => ?_) fun items acc ⟨n, e, hn⟩ ⟨r, ha, hr, ho⟩ => ⟨r, by rw [ha], by rw [hr, e, ixs_len]; exact hn, ho⟩) fun d ⟨st, e, hst, hsv⟩ => ?_) (by omega) fun _ p => p
  · rcases List.mem_cons.mp hd with e | hd
    · exact ⟨_, e, by decide⟩
    rcases List.mem_cons.mp hd with e | hd
    · exact ⟨_, e, by decide⟩
    rcases List.mem_cons.mp hd with e | hd
    · exact ⟨_, e, by decide⟩
    · cases hd
  · subst e ha
    refine EV.mono (ei_add (P := fun v => 1 ≤ v ∧ v ≤ 9999) (ei_of (P := fun i => i = 1) e_int rfl) (ei_drawD (X := E0) (e_var rfl) e_int (by decide) (by decide)) (fun i j e p => by omega)) (by omega) fun d ⟨j, e, p⟩ => ?_
    subst e
    refine ⟨rfl, r ++ [j], by unfold zz; rw [List.map_append]; rfl, by rw [List.length_append, hr]; rfl, fun k hk => ?_⟩
    rcases List.mem_append.mp hk with q | q
    · exact ho k q
    · rcases List.mem_cons.mp q with q | q
      · rw [q]; exact p
      · cases q
  subst e
  refine SV.mono (c := 0 + (1 + 16 * 2 + 1)) (s_grow (ds := []) (by show 3 < 7; decide) a_nil (Nat.zero_le _) (lv_for (k := 4) (PI := fun l => ∃ n : Nat, l = ixs n ∧ 2 ≤ n ∧ n ≤ 16) (wh_range (PN := fun n => 2 ≤ n ∧ n ≤ 16) (EV.mono (ei_pick (P := fun w => 2 ≤ w ∧ w ≤ 16) (e_lst (a_cons e_int (a_cons e_int (a_cons e_int (a_cons e_int a_nil)))) (by show 4 ≤ 16000000; decide)) (ei_drawD (e_var rfl) e_int (by decide) (by decide)) (fun d hd => ?_)) (Nat.le_refl _) fun d ⟨i, e, p1, p2⟩ => ⟨i.toNat, by rw [e]; congr 1; omega, by omega, by omega, by omega⟩))
    (fun items ⟨n, e, hn⟩ => by rw [e, ixs_len]; exact ⟨hn.2, by show 0 + n ≤ _; omega⟩) (by decide)
    (fun items i ρ1 acc => ∃ mv : List (Int × Int), acc = mv.map mvD ∧ mv.length = i ∧ (∀ m ∈ mv, (-32 ≤ m.1 ∧ m.1 ≤ 32) ∧ (-15 ≤ m.2 ∧ m.2 ≤ 15)) ∧ ∃ x, ρ1 = [some markD, some (.int w), some (.list (zz st)), none, x, some (.int lo), some (.int hi)]) (fun _ _ => ⟨[], rfl, rfl, fun m hm => (by cases hm), _, rfl⟩) (fun items i d ρ1 acc ⟨n, e, hn⟩ hi2 ⟨mv, ha, hr, ho, x, hρ⟩ => ?_) (fun items ρ1 acc ⟨n, e, hn⟩ ⟨mv, ha, hr, ho, x, hρ⟩ => ?_) rfl)) (by omega) fun _ p => p
  · rcases List.mem_cons.mp hd with e | hd
    · exact ⟨_, e, by decide⟩
    rcases List.mem_cons.mp hd with e | hd
    · exact ⟨_, e, by decide⟩
    rcases List.mem_cons.mp hd with e | hd
    · exact ⟨_, e, by decide⟩
    rcases List.mem_cons.mp hd with e | hd
    · exact ⟨_, e, by decide⟩
    · cases hd
  · subst e ha hρ
    refine EV.mono (ev_tup (P := fun y => ∃ q : Int × Int, y = mvD q ∧ ((-32 ≤ q.1 ∧ q.1 ≤ 32) ∧ (-15 ≤ q.2 ∧ q.2 ≤ 15))) (av_cons (ei_sub (P := fun v => -32 ≤ v ∧ v ≤ 32) (ei_drawD (X := E0) (e_var rfl) e_int (by decide) (by decide)) (ei_of (P := fun i => i = 16) e_int rfl) (fun i j e p => by omega)) (av_cons (ei_sub (P := fun v => -15 ≤ v ∧ v ≤ 15) (ei_drawD (X := E0) (e_var rfl) e_int (by decide) (by decide)) (ei_of (P := fun i => i = 3) e_int rfl) (fun i j e p => by omega)) av_nil))
      (fun l ⟨d, l2, e, _, d2, l3, e2, _, e3⟩ => by subst e e2 e3; exact len2) fun l ⟨d, l2, e, ⟨i1, e4, p4⟩, d2, l3, e2, ⟨i2, e5, p5⟩, e3⟩ => ⟨(i1, i2), by subst e e2 e3 e4 e5; rfl, p4, p5⟩) (by omega) fun y ⟨q, e, hq⟩ => ?_
    subst e
    refine ⟨rfl, mv ++ [q], by rw [List.map_append]; rfl, by rw [List.length_append, hr]; rfl, fun k hk => ?_, _, rfl⟩
    rcases List.mem_append.mp hk with z | z
    · exact ho k z
    · rcases List.mem_cons.mp z with z | z
      · rw [z]; exact hq
      · cases z
  · subst e ha hρ
    rw [ixs_len] at hr
    refine s_ret (P := fun d => ∃ c : Cd, c.Ok ∧ d = c.d) (EV.mono (ev_tup (P := fun d => ∃ c : Cd, c.Ok ∧ d = c.d) (av_cons (e_var rfl) (av_cons (e_var rfl) (av_cons (e_tupl (e_var rfl)) (av_cons (e_tupl (e_var rfl)) (av_cons (ei_pick (P := fun w => w = 0 ∨ (2 ≤ w ∧ w ≤ 99)) (e_lst (a_cons e_int (a_cons e_int (a_cons e_int a_nil))) len3) (ei_drawD (X := E0) (e_var rfl) e_int (by decide) (by decide)) (fun d hd => ?_)) av_nil)))))
      (fun l ⟨d1, l1, e1, f1, d2, l2, e2, f2, d3, l3, e3, f3, d4, l4, e4, f4, d5, l5, e5, f5, e6⟩ => by subst e1 e2 e3 e4 e5 e6; show 5 ≤ 16000000; decide) fun l ⟨d1, l1, e1, f1, d2, l2, e2, f2, d3, l3, e3, f3, d4, l4, e4, f4, d5, l5, e5, ⟨fa, f5, hf⟩, e6⟩ => ?_) (by omega) fun _ p => p) fun d hd => ⟨d, rfl, hd⟩
    · rcases List.mem_cons.mp hd with e | hd
      · exact ⟨_, e, by decide⟩
      rcases List.mem_cons.mp hd with e | hd
      · exact ⟨_, e, by decide⟩
      rcases List.mem_cons.mp hd with e | hd
      · exact ⟨_, e, by decide⟩
      · cases hd
    · subst e1 e2 e3 e4 e5 e6 f1 f2 f3 f4 f5
      exact ⟨⟨lo, hi, st, mv, fa⟩, ⟨by show -32768 ≤ lo ∧ lo ≤ 0; omega, by show 0 ≤ hi ∧ hi ≤ 32767; omega, hst, hsv, by show 2 ≤ mv.length ∧ mv.length ≤ 16; omega, ho, hf⟩, rfl⟩
end
end Kt
set_option Elab.async false
set_option linter.all false
set_option maxRecDepth 100000
set_option maxHeartbeats 4000000
namespace Kt
open PySem PySem.Spec PyProof.Rows L2
section
variable {K : PySem.W.Frag} {M : Mode} {m : Addr} {T : List (Addr × Str)} {d x : PyData} {ds es : List PyData} {c : Cd} {s : St2} {k l i j p N : Int} {a n many : Nat} {row sizes D D' : List Int} {st : Option St2} {ρ : En} {te ta tb tm tn : TE} {tt : TT} {b : Bool} {O : Out → Prop} {t u : TS} {X : XK} {c1 c2 : Nat}
theorem Blocks.app (h : Blocks D n) : ∀ {D' : List Int} {n' : Nat}, Blocks D' n' → Blocks (D ++ D') (n + n') := by
  induction h with
  | nil => intro D' n' h'; rw [Nat.zero_add]; exact h'
  | cons h0 h1 t ih =>
    intro D' n' h'
    rw [List.append_assoc, Nat.add_assoc]
    exact .cons h0 h1 (ih h')
theorem fileB_blocks (h : FOk c row sizes s) : ∀ (f a q : Nat) (s' : St2), row.length + 1 ≤ f + a → Blocks (fgoB c row sizes f a q s') (row.length - a)
  | 0, a, q, s', hf => by rw [show row.length - a = 0 by omega]; exact .nil
  | f + 1, a, q, s', hf => by
    by_cases z : a < row.length
    · rw [fgoB_succ z]
      have zi := size_in h q
      generalize ezn : (sizes.getD q (sizes.getLastD 1)).toNat = zn
      have zn1 : 1 ≤ zn := by omega
      have hl := h.l
      have ls : ((row.drop a).take zn).length = min zn (row.length - a) := by rw [List.length_take, List.length_drop]
      have ih := fileB_blocks h f (a + zn) (q + 1) (walk c s' ((row.drop a).take zn)) (by omega)
      have z2 := Blocks.cons (s := s') (r := (row.drop a).take zn) (fun e => by rw [e] at ls; simp at ls; omega) (by omega) ih
      rw [ls, show min zn (row.length - a) + (row.length - (a + zn)) = row.length - a by omega] at z2
      exact z2
    · rw [fgoB_end z, show row.length - a = 0 by omega]
      exact .nil
theorem Bytes.app (h : Bytes D) (h' : Bytes D') : Bytes (D ++ D') := fun b hb => by
  rcases List.mem_append.mp hb with q | q
  · exact h b q
  · exact h' b q
theorem Bytes.cons {b : Int} (h : 0 ≤ b ∧ b ≤ 255) (h' : Bytes D) : Bytes (b :: D) := fun x hb => by
  rcases List.mem_cons.mp hb with q | q
  · rw [q]; exact h
  · exact h' x q
theorem Bytes.nil : Bytes [] := fun x hx => by cases hx
theorem bytes_block (h : BOk s row) (hp : 0 ≤ s.2 ∧ s.2 ≤ 255) : Bytes (blockB s row) := by
  have hl := h.l
  have hs := h.sv
  unfold blockB inner
  refine ((Bytes.cons (by decide) (Bytes.cons (by decide) .nil)).app (Bytes.app (.cons (by omega) (.cons (by omega) (.cons hp (.cons (by omega) .nil)))) fun x hx => ?_)).app (.cons (by omega) .nil)
  obtain ⟨i, _, rfl⟩ := List.mem_map.mp hx
  have g1 := getD_in h.rk (2 * i)
  have g2 := getD_in h.rk (2 * i + 1)
  unfold pairAt
  omega
theorem fileB_bytes (h : FOk c row sizes s) : ∀ (f a q : Nat) (s' : St2), SOk c s' → Bytes (fgoB c row sizes f a q s')
  | 0, a, q, s', _ => .nil
  | f + 1, a, q, s', hs => by
    by_cases z : a < row.length
    · rw [fgoB_succ z]
      have hl := h.l
      have sl := h.cok.sl
      have sp := hs.p
      refine (bytes_block ⟨sok_in h.cok hs, rok_16 h.cok (seg_ok h.rok _ _), by rw [List.length_take, List.length_drop]; omega⟩ (by omega)).app (fileB_bytes h f _ _ _ (walk_ok h.cok hs))
    · rw [fgoB_end z]
      exact .nil
theorem blocks_len (h : Blocks D n) : D.length ≤ 8 * n := by
  induction h with
  | nil => exact Nat.zero_le _
  | @cons s r D n h0 h1 t ih =>
    rw [List.length_append, blockB_len]
    have : 1 ≤ r.length := by cases r with | nil => exact absurd rfl h0 | cons _ _ => simp
    omega
theorem sv_law_pieces (h : c.Ok) : SV K (.em m T) 1000 (t_law_pieces K) [some markD, some c.d, some (.int 3), none, none, none] (fun o => ∃ d, o = .rt d ∧ ∃ D n, Blocks D n ∧ n ≤ 42 ∧ Bytes D ∧ d = .tuple (zz D)) := by
  refine s_set (e_tup a_nil (Nat.zero_le _)) ?_
  refine SV.mono (c := (1 + 3 * 200) + 0) (s_then (s_for (PI := fun l => ∃ n : Nat, l = ixs n ∧ n ≤ 3) (w_range (PN := fun n => n ≤ 3) (EV.mono (ei_add (P := fun v => 1 ≤ v ∧ v ≤ 3) (ei_of (P := fun i => i = 1) e_int rfl) (ei_drawD (X := E0) (e_var rfl) (e_var rfl) (by decide) (by decide)) (fun i j e p => by omega)) (by omega) fun d ⟨i, e, p1, p2⟩ => ⟨i.toNat, by rw [e]; congr 1; omega, by omega, by omega⟩))
    (fun items ⟨n, e, hn⟩ => by rw [e, ixs_len]; exact hn) (fun _ i ρ => ∃ D n x y, Blocks D n ∧ n ≤ 14 * i ∧ Bytes D ∧ ρ = [some markD, some c.d, some (.int 3), some (.tuple (zz D)), x, y]) (fun _ _ => ⟨[], 0, _, _, .nil, Nat.le_refl _, .nil, rfl⟩) (fun items i d ρ1 ⟨n, e, hn⟩ hi ⟨D, nn, x, y, hB, hb, hby, hρ⟩ => ?_) fun items ρ1 ⟨n, e, hn⟩ ⟨D, nn, x, y, hB, hb, hby, hρ⟩ => ?_)) (by omega) fun _ p => p
  · subst e hρ
    obtain ⟨hlt, rfl⟩ := ixs_at hi
    refine ⟨_, gv_name, ?_⟩
    refine SV.mono (c := 2 + 110) (s_setP (P := fun d => ∃ z : Int, d = .list (zz [z]) ∧ 1 ≤ z ∧ z ≤ 255) (EV.mono (ev_lst (P := fun d => ∃ z : Int, d = .list (zz [z]) ∧ 1 ≤ z ∧ z ≤ 255) (av_cons (ei_add (P := fun v => 1 ≤ v ∧ v ≤ 255) (ei_of (P := fun i => i = 1) e_int rfl) (ei_draw (X := E0) (N := 255) (e_var rfl)
      (ei_pick (P := fun w => 1 ≤ w ∧ w ≤ 255) (e_lst (a_cons e_int (a_cons e_int (a_cons e_int a_nil))) len3) (ei_drawD (X := E0) (e_var rfl) e_int (by decide) (by decide)) (fun d hd => ?_)) (by decide)) (fun i j e p => by omega)) av_nil) (fun l ⟨d, l2, e, _, e3⟩ => by subst e e3; exact len1) fun l ⟨d, l2, e, ⟨z, e2, hz⟩, e3⟩ => ⟨z, by subst e e2 e3; rfl, hz⟩) (by omega) fun _ p => p) fun d ⟨z, e, hz⟩ => ?_) (by omega) fun _ p => p
    · rcases List.mem_cons.mp hd with e | hd
      · exact ⟨_, e, by decide⟩
      rcases List.mem_cons.mp hd with e | hd
      · exact ⟨_, e, by decide⟩
      rcases List.mem_cons.mp hd with e | hd
      · exact ⟨_, e, by decide⟩
      · cases hd
    subst e
    have lD := blocks_len hB
    refine SV.mono (c := 102) (s_asg (P := fun d => ∃ D n, Blocks D n ∧ n ≤ 14 * (i + 1) ∧ Bytes D ∧ d = .tuple (zz D)) (EV.mono (ev_op (c1 := 0) (c2 := 102) (e_var rfl) (ev_call (c1 := 102) (c2 := 0) (P := fun d => ∃ D n, Blocks D n ∧ n ≤ 14 ∧ Bytes D ∧ d = .tuple (zz D))
      (AV.mono (c' := 102) (av_cons (e_var rfl) (av_cons (ec_call (c := 100) (P := fun d => ∃ r, ROk c r ∧ r.length ≤ 14 ∧ d = .tuple (zz r)) (X := E0) (a_cons (e_var rfl) (a_cons (e_var rfl) (a_cons (e_int) a_nil))) (sd_MF (c, 14) ⟨h, (by decide : (14 : Nat) ≤ 40)⟩)) (av_cons (e_var rfl) (av_cons (ec_call (c := 2) (P := fun d => ∃ s, SOk c s ∧ d = sd s) (X := E0) (a_cons (e_var rfl) (a_cons (e_var rfl) a_nil)) (sd_MF c h)) av_nil)))) (by omega) fun _ p => p)
      (fun l ⟨d1, l1, e1, f1, d2, l2, e2, ⟨r, hr1, hr2, f2⟩, d3, l3, e3, f3, d4, l4, e4, ⟨s, hs, f4⟩, e5⟩ => ?_)) (fun x y e ⟨D2, n2, hB2, hn2, hby2, e2⟩ => ?_)) (by omega) fun _ p => p) fun d ⟨D2, n2, hB2, hn2, hby2, e2⟩ => ⟨_, gv_name, D2, n2, _, _, hB2, hn2, hby2, by rw [e2]; rfl⟩) (by omega) fun _ p => p
    · subst e1 e2 e3 e4 e5 f1 f2 f3 f4
      have hr2 : r.length ≤ 14 := hr2
      have hzz : ∀ y ∈ [z], 1 ≤ y ∧ y ≤ 255 := fun y hy => by
        rcases List.mem_cons.mp hy with q | q
        · rw [q]; exact hz
        · cases q
      have fo : FOk c r [z] s := ⟨h, hr1, by omega, (fun q => nomatch q), hzz, by show 1 ≤ 10; decide, hs⟩
      have fb := fileB_blocks fo (r.length + 1) 0 0 s (by omega)
      have fy := fileB_bytes fo (r.length + 1) 0 0 s hs
      exact fun n W H vs is s1 hl iv Q E q => sd_PF (K := K) (M := .em m T) (c, r, [z], s) fo n W H vs is s1 hl iv Q E fun u d W' H' g e iu => q u d W' H' g ⟨_, _, fb, by omega, fy, e⟩ iu
    · subst e e2
      have lD2 := blocks_len hB2
      have z := rd_catT (K := K) (M := .em m T) (ds := zz D) (es := zz D2) (by rw [List.length_map, List.length_map]; omega)
      exact fun W H v w e iv iw Q q => z W H v w e iv iw Q fun u d W' H' up e' iu => q u d W' H' up ⟨D ++ D2, nn + n2, hB.app hB2, by omega, hby.app hby2, by rw [e']; unfold zz; rw [List.map_append]⟩ iu
  · subst e hρ
    rw [ixs_len] at hb
    exact ⟨_, rfl, s_retD (e_var rfl) ⟨_, rfl, D, nn, hB, by omega, hby, rfl⟩⟩
end
end Kt
set_option Elab.async false
set_option linter.all false
set_option maxRecDepth 100000
set_option maxHeartbeats 4000000
namespace Kt
open PySem PySem.Spec PyProof.Rows L2
section
variable {K : PySem.W.Frag} {M : Mode} {m : Addr} {T : List (Addr × Str)} {d x : PyData} {ds es : List PyData} {c : Cd} {s : St2} {k l i j p N : Int} {a n many : Nat} {row sizes D D' : List Int} {st : Option St2} {ρ : En} {te ta tb tm tn : TE} {tt : TT} {b : Bool} {O : Out → Prop} {t u : TS} {X : XK} {c1 c2 : Nat}
theorem e_dnew : E K M tDNewK ρ (.dict []) := fun n σ W H i s l e Q q p hp => by
  have u := Up.new (o := .dK []) i hp
  exact q _ _ _ _ (Go.up u s) rfl (.dct upd_same)
def isIntD : PyData → Bool
  | .int _ => true
  | .bool _ => true
  | _ => false
theorem kit_int : ∀ d : PyData, kitB (tyOf d) "int" = some (isIntD d)
  | .none => kNI
  | .bool _ => kBI
  | .int _ => kII
  | .str _ => kSI
  | .list _ => kLI
  | .tuple _ => kTI
  | .dict _ => kDI
theorem item_ne {d : PyData} (h : itemB d = true) : d ≠ markD := fun e => by rw [e] at h; cases h
theorem itOk_app (h : ItOk ds) (h' : ItOk es) : ItOk (ds ++ es) := fun d hd => by
  rcases List.mem_append.mp hd with q | q
  · exact h d q
  · exact h' d q
theorem itOk_take (h : ItOk ds) (n : Nat) : ItOk (ds.take n) := fun d hd => h d (List.mem_of_mem_take hd)
theorem itOk_drop (h : ItOk ds) (n : Nat) : ItOk (ds.drop n) := fun d hd => h d (List.mem_of_mem_drop hd)
theorem itOk_one (h : itemB d = true) : ItOk [d] := fun x hx => by
  rcases List.mem_cons.mp hx with q | q
  · rw [q]; exact h
  · cases q
theorem item_int (h : -1 ≤ i ∧ i ≤ 256) : itemB (.int i) = true := dec_and h
abbrev BentP (ds : List PyData) : Out → Prop := fun o => ∃ d, o = .rt d ∧ ∃ Y, Bent ds Y ∧ ItOk Y ∧ d = .tuple Y
theorem e_to (h : E K M te ρ (.tuple ds)) (h1 : E K M ta ρ (.int (a : Int))) : E K M (tSl (rSlA K) te tNoPart (tPart ta)) ρ (.tuple (ds.take a)) := (e_slT h o_none (o_some h1)).eq (congrArg PyData.tuple cutD_to)
theorem e_from (h : E K M te ρ (.tuple ds)) (h1 : E K M ta ρ (.int (a : Int))) : E K M (tSl (rSlA K) te (tPart ta) tNoPart) ρ (.tuple (ds.drop a)) := (e_slT h (o_some h1) o_none).eq (congrArg PyData.tuple cutD_from)
theorem ev_mid {P : PyData → Prop} {t1 t2 t3 : TE} (h1 : E K M t1 ρ (.tuple ds)) (h2 : EV K M c1 t2 ρ P) (h3 : E K M t3 ρ (.tuple es)) (hl : ds.length + 1 + es.length ≤ 16000000) :
    EV K M c1 (tOp (rCatA K) (tOp (rCatA K) t1 (tTup (tCons t2 tNil))) t3) ρ (fun y => ∃ o, P o ∧ y = .tuple (ds ++ [o] ++ es)) := by
  refine EV.mono (ev_op (c1 := c1) (c2 := 0) (P1 := fun y => ∃ o, P o ∧ y = .tuple (ds ++ [o])) (EV.mono (ev_op (c1 := 0) (c2 := c1) h1 (ev_tup (P := fun y => ∃ o, P o ∧ y = .tuple [o]) (av_cons h2 av_nil) (fun l ⟨d, l2, e, _, e3⟩ => by subst e e3; exact len1) fun l ⟨d, l2, e, p, e3⟩ => ⟨d, p, by rw [e, e3]⟩) (fun x y e ⟨o, p, e2⟩ => ?_)) (by omega) fun _ p => p) h3 (fun x y ⟨o, p, e⟩ e2 => ?_)) (by omega) fun _ p => p
  · subst e e2
    have z := rd_catT (K := K) (M := M) (ds := ds) (es := [o]) (by show ds.length + 1 ≤ _; omega)
    exact fun W H v w e iv iw Q q => z W H v w e iv iw Q fun u d W' H' up e' iu => q u d W' H' up ⟨o, p, e'⟩ iu
  · subst e e2
    have z := rd_catT (K := K) (M := M) (ds := ds ++ [o]) (es := es) (by rw [List.length_append]; exact hl)
    exact fun W H v w e iv iw Q q => z W H v w e iv iw Q fun u d W' H' up e' iu => q u d W' H' up ⟨o, p, e'⟩ iu
theorem rd_addB (h : isIntD d = true) : RD K M rAddB d (.int 1) (fun y => ∃ i : Int, y = .int i) := fun W H v w e iv iw Q q => by
  cases iw
  cases iv with
  | bl b => exact .inr ⟨b, 1, rfl, rfl, q _ _ W H (Up.refl e) ⟨_, rfl⟩ (.int _)⟩
  | int i => exact .inl ⟨i, 1, rfl, rfl, q _ _ W H (Up.refl e) ⟨_, rfl⟩ (.int _)⟩
  | _ => cases h
theorem sv_law_bent_data (h : ItOk ds) (hl : ds.length ≤ 5000) : SV K (.em m T) 20 (t_law_bent_data K) [some markD, some (.tuple ds), none, none, none, none] (BentP ds) := by
  refine SV.mono (c := 3 + 10) (s_par3 (av_cons (ei_drawD (X := E0) (N := (ds.length : Int) + 1) (e_var rfl) (e_add (e_len (e_var rfl)) e_int) (by omega) (by omega)) (av_cons (ei_drawD (X := E0) (e_var rfl) e_int (by decide) (by decide)) (av_cons (ei_drawD (X := E0) (N := (ds.length : Int) + 1) (e_var rfl) (e_add (e_len (e_var rfl)) e_int) (by omega) (by omega)) av_nil)))
    fun l ⟨d1, l1, e1, ⟨av, f1, p1⟩, d2, l2, e2, ⟨wv, f2, p2⟩, d3, l3, e3, ⟨tv, f3, p3⟩, e4⟩ => ⟨.int av, .int wv, .int tv, by rw [e1, f1, e2, f2, e3, f3, e4], ?_⟩) (by omega) fun _ p => p
  obtain ⟨a, ea⟩ : ∃ a : Nat, av = (a : Int) := ⟨av.toNat, by omega⟩
  obtain ⟨to, et⟩ : ∃ a : Nat, tv = (a : Int) := ⟨tv.toNat, by omega⟩
  subst ea et
  have a1 : a ≤ ds.length := by omega
  have lt : (ds.take a).length = a := by rw [List.length_take]; omega
  refine SV.mono (c := 1 + 9) (s_setP (P := fun d => itemB d = true) (ev_pick (e_lst (a_cons e_non (a_cons e_bl (a_cons e_str (a_cons (e_neg e_int) (a_cons e_int (a_cons (e_tup (a_cons e_int a_nil) len1) (a_cons e_int (a_cons e_int (a_cons e_int (a_cons e_int (a_cons e_int (a_cons e_int (a_cons (e_lst a_nil (Nat.zero_le _)) (a_cons e_dnew (a_cons (e_lst1 e_int) a_nil))))))))))))))) (by show 15 ≤ 16000000; decide))
    (ei_drawD (X := E0) (e_var rfl) e_int (by decide) (by decide)) (fun d hd => ?_)) fun odd ho => ?_) (by omega) fun _ p => p
  · have key : ∀ l : List PyData, (l.all itemB) = true → d ∈ l → itemB d = true := fun l hl hd => List.all_eq_true.mp hl d hd
    exact key _ (by decide +kernel) hd
  have tk : ∀ {σ : En} {t2 : TE}, σ[1]? = some (some (.tuple ds)) → E K (.em m T) t2 σ (.int (a : Int)) → E K (.em m T) (tSl (rSlA K) (tVar 1) tNoPart (tPart t2)) σ (.tuple (ds.take a)) := fun h1 h3 => e_to (e_var h1) h3
  have ld : ∀ q : Nat, (ds.drop q).length ≤ ds.length := fun q => by rw [List.length_drop]; omega
  have bent1 : ∀ (o : PyData) (q : Nat), a ≤ q → Bent ds (ds.take a ++ [o] ++ ds.drop q) := fun o q hq => .inl (by rw [List.length_append, List.length_append, lt, List.length_drop]; show a + 1 + _ ≤ _; omega)
  have it1 : ∀ (o : PyData) (q : Nat), itemB o = true → ItOk (ds.take a ++ [o] ++ ds.drop q) := fun o q h1 => itOk_app (itOk_app (itOk_take h a) (itOk_one h1)) (itOk_drop h q)
  refine SV.mono (c := 0 + 9) (s_ifrV (c1 := 0) (t_cI (e_var rfl) e_int) (fun z => ?_) fun z => ?_) (by omega) fun _ p => p
  · refine SV.mono (s_ret (c := 0) (ev_mid (P := (· = odd)) (tk rfl (e_var rfl)) (e_var rfl) (e_from (e_var rfl) (e_addN (n := 1) rfl (e_var rfl))) (by have := ld (a + 1); omega)) (fun d ⟨o, e1, e⟩ => ?_)) (by omega) fun _ p => p
    exact ⟨⟨d, rfl, _, bent1 o (a + 1) (by omega), it1 o _ (by rw [e1]; exact ho), e⟩, fun _ z => nomatch z⟩
  refine SV.mono (c := 0 + 9) (s_ifrV (c1 := 0) (t_eq (e_var rfl) e_int) (fun z => ?_) fun z => ?_) (by omega) fun _ p => p
  · refine SV.mono (s_ret (c := 1) (ev_mid (tk rfl (e_var rfl)) (ei_drawD (X := E0) (e_var rfl) e_int (by decide) (by decide)) (e_from (e_var rfl) (e_addN (n := 1) rfl (e_var rfl))) (by have := ld (a + 1); omega)) (fun d ⟨o, ⟨i, e1, p1⟩, e⟩ => ?_)) (by omega) fun _ p => p
    exact ⟨⟨d, rfl, _, bent1 o (a + 1) (by omega), it1 o _ (by rw [e1]; exact item_int (by omega)), e⟩, fun _ z => nomatch z⟩
  refine SV.mono (c := 0 + 9) (s_ifrV (c1 := 0) (t_eq (e_var rfl) e_int) (fun z => ?_) fun z => ?_) (by omega) fun _ p => p
  · refine SV.mono (c := 0) ?_ (by omega) fun _ p => p
    have last : SV K (.em m T) 0 (tRet (tSl (rSlA K) (tVar 1) tNoPart (tPart (tUn (rU fun i => .int (-i)) (tC (.int 1)))))) [some markD, some (.tuple ds), some odd, some (.int (a : Int)), some (.int wv), some (.int (to : Int))] (fun o => ((BentP ds o) ∧ ∀ ρ1, o ≠ .nx ρ1) ∧ ∀ ρ1, o ≠ .nx ρ1) := by
      refine s_retD (e_slT (e_var rfl) o_none (o_some (e_neg e_int))) ⟨⟨⟨_, rfl, _, .inl ?_, ?_, rfl⟩, fun _ z => nomatch z⟩, fun _ z => nomatch z⟩
      · unfold cutD
        rw [List.length_take, List.length_drop]; omega
      · unfold cutD
        exact itOk_take (itOk_drop h _) _
    by_cases z3 : a = ds.length
    · exact s_take (b := true) ((t_or (b2 := false) (t_eq (e_var rfl) (e_len (e_var rfl))) fun q => absurd (show (a : Int) = ds.length by omega) (of_decide_eq_false q)).eq (by rw [decide_eq_true (by omega)]; rfl)) rfl last
    have z4 : a < ds.length := by omega
    have da : ds[a]? = some ds[a] := List.getElem?_eq_getElem z4
    have di : itemB ds[a] = true := h _ (List.getElem_mem z4)
    generalize ds[a] = d0 at da di
    have tt := (t_or (t_eq (e_var (K := K) (M := .em m T) (ρ := [some markD, some (.tuple ds), some odd, some (.int (a : Int)), some (.int wv), some (.int (to : Int))]) (k := 3) rfl) (e_len (e_var (k := 1) rfl))) fun _ => t_not (t_val (e_isi (n := "int") (e_ixT (e_var (k := 1) rfl) (e_var (k := 3) rfl) (at_nat da)) (item_ne di) (kit_int d0))))
    rw [decide_eq_false (show ¬ (a : Int) = ds.length by omega)] at tt
    cases ei : isIntD d0 with
    | false =>
      rw [ei] at tt
      exact s_take tt rfl last
    | true =>
      rw [ei] at tt
      refine s_skip tt rfl (s_ret (P := fun y => ∃ o, (∃ i : Int, o = .int i ∧ 0 ≤ i ∧ i < 256) ∧ y = .tuple (ds.take a ++ [o] ++ ds.drop (a + 1))) (ev_mid (tk rfl (e_var rfl)) (EV.mono (ev_op (c1 := 0) (c2 := 0) (P1 := fun y => ∃ i : Int, y = .int i) (ev_op (c1 := 0) (c2 := 0) (e_ixT (e_var rfl) (e_var rfl) (at_nat da)) e_int (fun x y e1 e2 => by rw [e1, e2]; exact rd_addB ei)) e_int (fun x y ⟨i, e1⟩ e2 => ?_)) (Nat.le_refl _) fun _ p => p) (e_from (e_var rfl) (e_addN (n := 1) rfl (e_var rfl))) (by have := ld (a + 1); omega)) (fun d ⟨o, ⟨i, e1, p1⟩, e⟩ => ?_))
      · subst e1 e2
        have z := rd_mod (K := K) (M := .em m T) (i := i) (j := 256) (by decide)
        rw [fmod_pos (by decide)] at z
        exact fun W H v w e iv iw Q q => z W H v w e iv iw Q fun u d W' H' up e' iu => q u d W' H' up ⟨_, e', Int.emod_nonneg _ (by decide), Int.emod_lt_of_pos _ (by decide)⟩ iu
      · exact ⟨⟨d, rfl, _, bent1 o (a + 1) (by omega), it1 o _ (by rw [e1]; exact item_int (by omega)), e⟩, fun _ z => nomatch z⟩
  refine SV.mono (c := 0 + 9) (s_ifrV (c1 := 0) (t_eq (e_var rfl) e_int) (fun z => ?_) fun z => ?_) (by omega) fun _ p => p
  · refine SV.mono (s_retD (e_op (tk rfl (e_var rfl)) (e_from (e_var rfl) (e_addN (n := 1) rfl (e_var rfl))) (rd_catT (by have := ld (a + 1); omega))) ?_) (by omega) fun _ p => p
    exact ⟨⟨_, rfl, _, .inr ⟨a, a + 1, rfl⟩, itOk_app (itOk_take h a) (itOk_drop h _), rfl⟩, fun _ z => nomatch z⟩
  refine SV.mono (c := 0 + 9) (s_ifrV (c1 := 0) (t_eq (e_var rfl) e_int) (fun z => ?_) fun z => ?_) (by omega) fun _ p => p
  · refine SV.mono (s_ret (c := 0) (ev_mid (P := (· = odd)) (tk rfl (e_var rfl)) (e_var rfl) (e_from (e_var rfl) (e_var rfl)) (by have := ld a; omega)) (fun d ⟨o, e1, e⟩ => ?_)) (by omega) fun _ p => p
    exact ⟨⟨d, rfl, _, bent1 o a (by omega), it1 o _ (by rw [e1]; exact ho), e⟩, fun _ z => nomatch z⟩
  refine SV.mono (c := 0 + 9) (s_ifrV (c1 := 0) (t_eq (e_var rfl) e_int) (fun z => ?_) fun z => ?_) (by omega) fun _ p => p
  · refine SV.mono (s_retD (tk rfl (e_var rfl)) ?_) (by omega) fun _ p => p
    exact ⟨⟨_, rfl, _, .inl (by omega), itOk_take h a, rfl⟩, fun _ z => nomatch z⟩
  refine SV.mono (s_ret (c := 0) (P := fun y => ∃ Y, Bent ds Y ∧ ItOk Y ∧ y = .tuple Y) (EV.mono (ev_if (c1 := 0) (c2 := 0) (t_eq (e_var rfl) e_int) (fun z => ?_) fun z => ?_) (Nat.le_refl _) fun _ p => p) fun d hd => ⟨d, rfl, hd⟩) (by omega) fun _ p => p
  · exact EV.mono (e_op (tk rfl (e_var rfl)) (e_from (e_var rfl) (e_var rfl)) (rd_catT (by have := ld to; omega))) (Nat.le_refl _) fun y e => ⟨_, .inr ⟨a, to, rfl⟩, itOk_app (itOk_take h a) (itOk_drop h to), e⟩
  · exact EV.mono (e_op (e_var rfl) (e_from (e_var rfl) (e_var rfl)) (rd_catT (by have := ld a; omega))) (Nat.le_refl _) fun y e => ⟨_, .inr ⟨ds.length, a, by rw [List.take_length]⟩, itOk_app h (itOk_drop h a), e⟩
end
end Kt
set_option Elab.async false
set_option linter.all false
set_option maxRecDepth 100000
set_option maxHeartbeats 0
namespace Kt
open PySem PySem.Spec PyProof.Rows L2
def top (i : Nat) : Stmt := PySem.Challenge.pw_stepsound_k48_whole_files_refused.main.body.getD i (.Pass ⟨0, 0, 0, 0⟩)
abbrev s_is_whole : Stmt := top 13
abbrev s_cd_is_move : Stmt := top 14
abbrev s_cd_row_fault : Stmt := top 15
abbrev s_coder_fault : Stmt := top 16
abbrev s_need_coder : Stmt := top 17
abbrev s_divided : Stmt := top 18
abbrev s_moved_by : Stmt := top 19
abbrev s_next_state : Stmt := top 20
abbrev s_walked : Stmt := top 21
abbrev s_bk_level : Stmt := top 26
abbrev s_bk_number : Stmt := top 27
abbrev s_bk_need : Stmt := top 28
abbrev s_bk_is_byte : Stmt := top 29
abbrev s_bk_signed : Stmt := top 30
abbrev s_bk_head_fault : Stmt := top 31
abbrev s_bk_codes : Stmt := top 32
abbrev s_bk_read : Stmt := top 33
abbrev s_read_file : Stmt := top 34
abbrev s_law_begun : Stmt := top 36
abbrev s_law_next : Stmt := top 37
abbrev s_law_parted : Stmt := top 38
abbrev s_law_limited : Stmt := top 39
abbrev s_law_led : Stmt := top 40
abbrev s_law_walked : Stmt := top 41
abbrev s_law_some_state : Stmt := top 42
abbrev s_law_row : Stmt := top 43
abbrev s_law_is_whole : Stmt := top 44
abbrev s_law_fault : Stmt := top 45
abbrev s_law_outcome : Stmt := top 46
abbrev s_law_great_coder : Stmt := top 47
abbrev s_law_block : Stmt := top 48
abbrev s_law_file : Stmt := top 49
abbrev s_law_block_read : Stmt := top 50
abbrev s_law_pieces : Stmt := top 51
abbrev s_law_bent_data : Stmt := top 52
abbrev s_law_due : Stmt := top 53
abbrev s_law_right : Stmt := top 54
abbrev s_law : Stmt := top 55
abbrev s_badbyte : Stmt := inClass (top 4) 0
def d_is_whole : He.DefD := ⟨("is_whole", none), "is_whole", "is_whole", defArgs s_is_whole, defBody s_is_whole, defScope s_is_whole, [], []⟩
def d_cd_is_move : He.DefD := ⟨("cd_is_move", none), "cd_is_move", "cd_is_move", defArgs s_cd_is_move, defBody s_cd_is_move, defScope s_cd_is_move, [], []⟩
def d_cd_row_fault : He.DefD := ⟨("cd_row_fault", none), "cd_row_fault", "cd_row_fault", defArgs s_cd_row_fault, defBody s_cd_row_fault, defScope s_cd_row_fault, [], []⟩
def d_coder_fault : He.DefD := ⟨("coder_fault", none), "coder_fault", "coder_fault", defArgs s_coder_fault, defBody s_coder_fault, defScope s_coder_fault, [], []⟩
def d_need_coder : He.DefD := ⟨("need_coder", none), "need_coder", "need_coder", defArgs s_need_coder, defBody s_need_coder, defScope s_need_coder, [], []⟩
def d_divided : He.DefD := ⟨("divided", none), "divided", "divided", defArgs s_divided, defBody s_divided, defScope s_divided, [], []⟩
def d_moved_by : He.DefD := ⟨("moved_by", none), "moved_by", "moved_by", defArgs s_moved_by, defBody s_moved_by, defScope s_moved_by, [], []⟩
def d_next_state : He.DefD := ⟨("next_state", none), "next_state", "next_state", defArgs s_next_state, defBody s_next_state, defScope s_next_state, [], []⟩
def d_walked : He.DefD := ⟨("walked", none), "walked", "walked", defArgs s_walked, defBody s_walked, defScope s_walked, [], []⟩
def d_bk_level : He.DefD := ⟨("bk_level", none), "bk_level", "bk_level", defArgs s_bk_level, defBody s_bk_level, defScope s_bk_level, [], []⟩
def d_bk_number : He.DefD := ⟨("bk_number", none), "bk_number", "bk_number", defArgs s_bk_number, defBody s_bk_number, defScope s_bk_number, [], []⟩
def d_bk_need : He.DefD := ⟨("bk_need", none), "bk_need", "bk_need", defArgs s_bk_need, defBody s_bk_need, defScope s_bk_need, [], []⟩
def d_bk_is_byte : He.DefD := ⟨("bk_is_byte", none), "bk_is_byte", "bk_is_byte", defArgs s_bk_is_byte, defBody s_bk_is_byte, defScope s_bk_is_byte, [], []⟩
def d_bk_signed : He.DefD := ⟨("bk_signed", none), "bk_signed", "bk_signed", defArgs s_bk_signed, defBody s_bk_signed, defScope s_bk_signed, [], []⟩
def d_bk_head_fault : He.DefD := ⟨("bk_head_fault", none), "bk_head_fault", "bk_head_fault", defArgs s_bk_head_fault, defBody s_bk_head_fault, defScope s_bk_head_fault, [], []⟩
def d_bk_codes : He.DefD := ⟨("bk_codes", none), "bk_codes", "bk_codes", defArgs s_bk_codes, defBody s_bk_codes, defScope s_bk_codes, [], []⟩
def d_bk_read : He.DefD := ⟨("bk_read", none), "bk_read", "bk_read", defArgs s_bk_read, defBody s_bk_read, defScope s_bk_read, [], []⟩
def d_read_file : He.DefD := ⟨("read_file", none), "read_file", "read_file", defArgs s_read_file, defBody s_read_file, defScope s_read_file, [], []⟩
def d_law_begun : He.DefD := ⟨("_law_begun", none), "_law_begun", "_law_begun", defArgs s_law_begun, defBody s_law_begun, defScope s_law_begun, [], []⟩
def d_law_next : He.DefD := ⟨("_law_next", none), "_law_next", "_law_next", defArgs s_law_next, defBody s_law_next, defScope s_law_next, [], []⟩
def d_law_parted : He.DefD := ⟨("_law_parted", none), "_law_parted", "_law_parted", defArgs s_law_parted, defBody s_law_parted, defScope s_law_parted, [], []⟩
def d_law_limited : He.DefD := ⟨("_law_limited", none), "_law_limited", "_law_limited", defArgs s_law_limited, defBody s_law_limited, defScope s_law_limited, [], []⟩
def d_law_led : He.DefD := ⟨("_law_led", none), "_law_led", "_law_led", defArgs s_law_led, defBody s_law_led, defScope s_law_led, [], []⟩
def d_law_walked : He.DefD := ⟨("_law_walked", none), "_law_walked", "_law_walked", defArgs s_law_walked, defBody s_law_walked, defScope s_law_walked, [], []⟩
def d_law_some_state : He.DefD := ⟨("_law_some_state", none), "_law_some_state", "_law_some_state", defArgs s_law_some_state, defBody s_law_some_state, defScope s_law_some_state, [], []⟩
def d_law_row : He.DefD := ⟨("_law_row", none), "_law_row", "_law_row", defArgs s_law_row, defBody s_law_row, defScope s_law_row, [], []⟩
def d_law_is_whole : He.DefD := ⟨("_law_is_whole", none), "_law_is_whole", "_law_is_whole", defArgs s_law_is_whole, defBody s_law_is_whole, defScope s_law_is_whole, [], []⟩
def d_law_fault : He.DefD := ⟨("_law_fault", none), "_law_fault", "_law_fault", defArgs s_law_fault, defBody s_law_fault, defScope s_law_fault, [], []⟩
def d_law_outcome : He.DefD := ⟨("_law_outcome", none), "_law_outcome", "_law_outcome", defArgs s_law_outcome, defBody s_law_outcome, defScope s_law_outcome, [], []⟩
def d_law_great_coder : He.DefD := ⟨("_law_great_coder", none), "_law_great_coder", "_law_great_coder", defArgs s_law_great_coder, defBody s_law_great_coder, defScope s_law_great_coder, [], []⟩
def d_law_block : He.DefD := ⟨("_law_block", none), "_law_block", "_law_block", defArgs s_law_block, defBody s_law_block, defScope s_law_block, [], []⟩
def d_law_file : He.DefD := ⟨("_law_file", none), "_law_file", "_law_file", defArgs s_law_file, defBody s_law_file, defScope s_law_file, [], []⟩
def d_law_block_read : He.DefD := ⟨("_law_block_read", none), "_law_block_read", "_law_block_read", defArgs s_law_block_read, defBody s_law_block_read, defScope s_law_block_read, [], []⟩
def d_law_pieces : He.DefD := ⟨("_law_pieces", none), "_law_pieces", "_law_pieces", defArgs s_law_pieces, defBody s_law_pieces, defScope s_law_pieces, [], []⟩
def d_law_bent_data : He.DefD := ⟨("_law_bent_data", none), "_law_bent_data", "_law_bent_data", defArgs s_law_bent_data, defBody s_law_bent_data, defScope s_law_bent_data, [], []⟩
def d_law_due : He.DefD := ⟨("_law_due", none), "_law_due", "_law_due", defArgs s_law_due, defBody s_law_due, defScope s_law_due, [], []⟩
def d_law_right : He.DefD := ⟨("_law_right", none), "_law_right", "_law_right", defArgs s_law_right, defBody s_law_right, defScope s_law_right, [], []⟩
def d_law : He.DefD := ⟨("law", none), "law", "law", defArgs s_law, defBody s_law, defScope s_law, [], []⟩
def d_badbyte : He.DefD := ⟨("BadByte", some "__init__"), "__init__", "BadByte.__init__", defArgs s_badbyte, defBody s_badbyte, defScope s_badbyte, [], []⟩
def fn0 : List He.DefD := [d_is_whole, d_cd_is_move, d_cd_row_fault, d_coder_fault, d_need_coder, d_divided, d_moved_by, d_next_state, d_walked, d_bk_level, d_bk_number, d_bk_need, d_bk_is_byte, d_bk_signed, d_bk_head_fault, d_bk_codes, d_bk_read, d_read_file, d_law_begun, d_law_next]
def fn1 : List He.DefD := [d_law_parted, d_law_limited, d_law_led, d_law_walked, d_law_some_state, d_law_row, d_law_is_whole, d_law_fault, d_law_outcome, d_law_great_coder, d_law_block, d_law_file, d_law_block_read, d_law_pieces, d_law_bent_data, d_law_due, d_law_right, d_law, d_badbyte]
def fn : List He.DefD := fn0 ++ (fn1)
def fa0 : List He.Fa := [.glo "BadCoder", .glo "BadRow", .glo "BadPaper", .glo "BadByte", .glo "OutOfPlace", .glo "NoSeam", .glo "TooGreat", .glo "Nothing", .glo "is_whole", .glo "cd_is_move", .glo "cd_row_fault", .glo "coder_fault", .glo "need_coder", .glo "divided", .glo "moved_by", .glo "next_state", .glo "walked", .glo "bk_level", .glo "bk_number", .glo "bk_need"]
def fa1 : List He.Fa := [.glo "bk_is_byte", .glo "bk_signed", .glo "bk_head_fault", .glo "bk_codes", .glo "bk_read", .glo "read_file", .glo "_law_begun", .glo "_law_next", .glo "_law_parted", .glo "_law_limited", .glo "_law_led", .glo "_law_walked", .glo "_law_some_state", .glo "_law_row", .glo "_law_is_whole", .glo "_law_fault", .glo "_law_outcome", .glo "_law_great_coder", .glo "_law_block", .glo "_law_file"]
def fa2 : List He.Fa := [.glo "_law_block_read", .glo "_law_pieces", .glo "_law_bent_data", .glo "_law_due", .glo "_law_right", .glo "law", .free "isinstance", .free "int", .free "bool", .free "tuple", .free "len", .free "enumerate", .free "min", .free "max", .free "range", .free "sum", .free "list", .free "repr", .int "MOST_STEPS" 16, .int "MOST_MOVES" 16]
def fa3 : List He.Fa := [.int "MOST_CODES" 2000, .int "HEAD" 6, .int "MOST_BLOCK" 255, .keep "BadByte", .glo "MARK", .exm "BadByte" "BadByte" true]
def fa : List He.Fa := fa0 ++ (fa1 ++ (fa2 ++ (fa3)))
def loose0 : List Str := ["BadCoder", "BadRow", "BadPaper", "BadByte", "OutOfPlace", "NoSeam", "TooGreat", "Nothing", "MOST_STEPS", "MOST_MOVES", "MOST_CODES", "MARK", "HEAD", "MOST_BLOCK"]
def loosef0 : List Str := ["is_whole", "cd_is_move", "cd_row_fault", "coder_fault", "need_coder", "divided", "moved_by", "next_state", "walked", "bk_level", "bk_number", "bk_need", "bk_is_byte", "bk_signed", "bk_head_fault", "bk_codes", "bk_read", "read_file", "_law_begun", "_law_next"]
def loosef1 : List Str := ["_law_parted", "_law_limited", "_law_led", "_law_walked", "_law_some_state", "_law_row", "_law_is_whole", "_law_fault", "_law_outcome", "_law_great_coder", "_law_block", "_law_file", "_law_block_read", "_law_pieces", "_law_bent_data", "_law_due", "_law_right"]
def loosef : List Str := loosef0 ++ (loosef1)
def loose : List Str := loose0 ++ loosef
/-- an exception class of the program: its object, over ValueError -/
def oexB (K : PySem.W.Frag) (C : Addr) : Bool := match K.lookup C with
  | some ⟨.type "type", _, .cls cd, sl⟩ => (match cd.mro, sl.toList with
    | .ref C' :: bm, [_, _, _, _, some (.builtin n), _] => decide (C' = C) && (decide (n = "ValueError.__new__") && (!cd.hasDel && (cd.hasDict && PySem.HandSPX.refsVE bm)))
    | _, _ => false)
  | _ => false
def excNames : List Str := ["BadCoder", "BadRow", "BadPaper", "BadByte", "TooGreat", "OutOfPlace", "NoSeam", "Nothing"]
def bb (K : PySem.W.Frag) : Addr := He.ga K "BadByte"
def bbI (K : PySem.W.Frag) : Addr := He.ma K (bb K) "__init__"
def okVal (a b : Option Value) : Bool := decide (a = b)
def okBo (a b : Option Bool) : Bool := decide (a = b)
def exA (K : PySem.W.Frag) : Bool := oexB K (bb K) && (He.eqO (PySem.W.findIn K (.ref (bb K)) "__setattr__") (some (some (.builtin "object.__setattr__"))) &&
  (okBo (PySem.W.subIn K (.ref (bb K)) (.type "BaseException")) (some true) && (okVal (PySem.W.typeIn K (.ref (bb K))) (some (.type "type")) &&
  (PySem.W.keepIn K (.ref (bb K)) && (He.eqO (PySem.W.findIn K (.ref (bb K)) "__init__") (some (some (.ref (bbI K)))) &&
  (okVal (PySem.W.typeIn K (.ref (bbI K))) (some (.type "function")) && He.eqO (PySem.W.findIn K (.ref (bb K)) "number") (some none)))))))
def exB (K : PySem.W.Frag) : Bool := He.eqO (PySem.W.findIn K (.ref (bb K)) "__getattribute__") (some (some (.builtin "BaseException.__getattribute__"))) && (He.eqO (PySem.W.findIn K (.ref (bb K)) "__getattr__") (some none) &&
  (PySem.W.hasDictIn K (bb K) && ((PySem.W.clsIn K (bb K)).isSome && (He.eqO (PySem.W.findIn K (.ref (bb K)) "__class__") (some (some (.builtin "object.__class__"))) &&
  (He.eqO (PySem.W.specialIn K (.builtin "object.__class__") "__get__") (some (some (.builtin "getset_descriptor.__get__"))) &&
  (okBo (PySem.W.takesIn K (.builtin "object.__class__")) (some true) && okBo (PySem.W.mroIn K (bb K) (.type "object")) (some true)))))))
def exC (K : PySem.W.Frag) : Bool := excNames.all fun x => okBo (PySem.W.exmOne K (.ref (bb K)) (.ref (He.ga K x))) (some (decide (x = "BadByte"))) && okBo (PySem.W.kitOne K (.ref (bb K)) (.ref (He.ga K x))) (some (decide (x = "BadByte")))
def exD (K : PySem.W.Frag) : Bool := He.tupB K "MARK" [.int 165, .int 90]
def exE (K : PySem.W.Frag) : Bool := decide ((He.cT K ("_law_right", none)).2 ≠ (He.cT K ("law", none)).2)
def ex (K : PySem.W.Frag) : Bool := exA K && (exB K && (exC K && (exD K && exE K)))
abbrev R : PySem.W.OpenRow := PySem.W.OpenLaw.row PySem.Challenge.rw_stepsound_k48_whole_files_refused
def tf : List He.Defn := [("_law_right", none), ("law", none)]
abbrev hk : PySem.W.Hook := He.hookX 5 fa fn [] tf ex
def ob (s : PySem.W.SharedT) : He.AlX := He.obsX 5 fa fn [] tf ex (HandSHeadRun.getT s)
theorem ob_eq (s : PySem.W.SharedT) : ob s = hk.obs s.abs := He.obsX_eq (HandSHeadRun.getT_eq s)

theorem run (w : World) : HandSHeadRun.RunEq R (PySem.W.view R.prog [55]) hk ob 4000 loose w := by
  intro os
  kernel_rfl
end Kt
set_option Elab.async false
set_option linter.all false
set_option maxRecDepth 100000
set_option maxHeartbeats 4000000
namespace Kt
open PySem PySem.Spec PyProof.Rows L2
def mkA (K : PySem.W.Frag) : Addr := He.ga K "MARK"
structure Base (P : Program) (w : World) (K : PySem.W.Frag) (mg : Str → Option Value) (base : Heap) : Prop where
  is_whole : Std K mg "is_whole" s_is_whole
  cd_is_move : Std K mg "cd_is_move" s_cd_is_move
  cd_row_fault : Std K mg "cd_row_fault" s_cd_row_fault
  coder_fault : Std K mg "coder_fault" s_coder_fault
  need_coder : Std K mg "need_coder" s_need_coder
  divided : Std K mg "divided" s_divided
  moved_by : Std K mg "moved_by" s_moved_by
  next_state : Std K mg "next_state" s_next_state
  walked : Std K mg "walked" s_walked
  bk_level : Std K mg "bk_level" s_bk_level
  bk_number : Std K mg "bk_number" s_bk_number
  bk_need : Std K mg "bk_need" s_bk_need
  bk_is_byte : Std K mg "bk_is_byte" s_bk_is_byte
  bk_signed : Std K mg "bk_signed" s_bk_signed
  bk_head_fault : Std K mg "bk_head_fault" s_bk_head_fault
  bk_codes : Std K mg "bk_codes" s_bk_codes
  bk_read : Std K mg "bk_read" s_bk_read
  read_file : Std K mg "read_file" s_read_file
  law_begun : Std K mg "_law_begun" s_law_begun
  law_next : Std K mg "_law_next" s_law_next
  law_parted : Std K mg "_law_parted" s_law_parted
  law_limited : Std K mg "_law_limited" s_law_limited
  law_led : Std K mg "_law_led" s_law_led
  law_walked : Std K mg "_law_walked" s_law_walked
  law_some_state : Std K mg "_law_some_state" s_law_some_state
  law_row : Std K mg "_law_row" s_law_row
  law_is_whole : Std K mg "_law_is_whole" s_law_is_whole
  law_fault : Std K mg "_law_fault" s_law_fault
  law_outcome : Std K mg "_law_outcome" s_law_outcome
  law_great_coder : Std K mg "_law_great_coder" s_law_great_coder
  law_block : Std K mg "_law_block" s_law_block
  law_file : Std K mg "_law_file" s_law_file
  law_block_read : Std K mg "_law_block_read" s_law_block_read
  law_pieces : Std K mg "_law_pieces" s_law_pieces
  law_bent_data : Std K mg "_law_bent_data" s_law_bent_data
  law_due : Std K mg "_law_due" s_law_due
  law_right : Std K mg "_law_right" s_law_right
  law : Std K mg "law" s_law
  isinstance : mg "isinstance" = none
  int : mg "int" = none
  bool : mg "bool" = none
  tuple : mg "tuple" = none
  len : mg "len" = none
  enumerate : mg "enumerate" = none
  min : mg "min" = none
  max : mg "max" = none
  range : mg "range" = none
  sum : mg "sum" = none
  list : mg "list" = none
  repr : mg "repr" = none
  MOST_STEPS : ∃ t, mg "MOST_STEPS" = some (.int 16 t)
  MOST_MOVES : ∃ t, mg "MOST_MOVES" = some (.int 16 t)
  MOST_CODES : ∃ t, mg "MOST_CODES" = some (.int 2000 t)
  HEAD : ∃ t, mg "HEAD" = some (.int 6 t)
  MOST_BLOCK : ∃ t, mg "MOST_BLOCK" = some (.int 255 t)
  BadCoder : mg "BadCoder" = some (.ref (He.ga K "BadCoder"))
  BadRow : mg "BadRow" = some (.ref (He.ga K "BadRow"))
  BadPaper : mg "BadPaper" = some (.ref (He.ga K "BadPaper"))
  BadByte : mg "BadByte" = some (.ref (He.ga K "BadByte"))
  TooGreat : mg "TooGreat" = some (.ref (He.ga K "TooGreat"))
  OutOfPlace : mg "OutOfPlace" = some (.ref (He.ga K "OutOfPlace"))
  NoSeam : mg "NoSeam" = some (.ref (He.ga K "NoSeam"))
  Nothing : mg "Nothing" = some (.ref (He.ga K "Nothing"))
  MARK : mg "MARK" = some (.ref (mkA K))
  mkT : ∀ (mm : Option Addr) (W : Hp), Is K mm W (.ref (mkA K)) (.tuple [.int 165, .int 90])
theorem base_of {P : Program} {w : World} {K : PySem.W.Frag} {mg : Str → Option Value} {base h : Heap} (X : K.In h) (G : h.Ns mainGlobals mg) (c : He.SaysX fa fn [] tf ex w h K) : Base P w K mg base where
  is_whole := by
    obtain ⟨fd, F⟩ := c.t.d.def_ 0 (d := d_is_whole) rfl
    exact ⟨_, fd, F, He.glo_ok X G (c.t.d.fact 8 (f := .glo "is_whole") rfl)⟩
  cd_is_move := by
    obtain ⟨fd, F⟩ := c.t.d.def_ 1 (d := d_cd_is_move) rfl
    exact ⟨_, fd, F, He.glo_ok X G (c.t.d.fact 9 (f := .glo "cd_is_move") rfl)⟩
  cd_row_fault := by
    obtain ⟨fd, F⟩ := c.t.d.def_ 2 (d := d_cd_row_fault) rfl
    exact ⟨_, fd, F, He.glo_ok X G (c.t.d.fact 10 (f := .glo "cd_row_fault") rfl)⟩
  coder_fault := by
    obtain ⟨fd, F⟩ := c.t.d.def_ 3 (d := d_coder_fault) rfl
    exact ⟨_, fd, F, He.glo_ok X G (c.t.d.fact 11 (f := .glo "coder_fault") rfl)⟩
  need_coder := by
    obtain ⟨fd, F⟩ := c.t.d.def_ 4 (d := d_need_coder) rfl
    exact ⟨_, fd, F, He.glo_ok X G (c.t.d.fact 12 (f := .glo "need_coder") rfl)⟩
  divided := by
    obtain ⟨fd, F⟩ := c.t.d.def_ 5 (d := d_divided) rfl
    exact ⟨_, fd, F, He.glo_ok X G (c.t.d.fact 13 (f := .glo "divided") rfl)⟩
  moved_by := by
    obtain ⟨fd, F⟩ := c.t.d.def_ 6 (d := d_moved_by) rfl
    exact ⟨_, fd, F, He.glo_ok X G (c.t.d.fact 14 (f := .glo "moved_by") rfl)⟩
  next_state := by
    obtain ⟨fd, F⟩ := c.t.d.def_ 7 (d := d_next_state) rfl
    exact ⟨_, fd, F, He.glo_ok X G (c.t.d.fact 15 (f := .glo "next_state") rfl)⟩
  walked := by
    obtain ⟨fd, F⟩ := c.t.d.def_ 8 (d := d_walked) rfl
    exact ⟨_, fd, F, He.glo_ok X G (c.t.d.fact 16 (f := .glo "walked") rfl)⟩
  bk_level := by
    obtain ⟨fd, F⟩ := c.t.d.def_ 9 (d := d_bk_level) rfl
    exact ⟨_, fd, F, He.glo_ok X G (c.t.d.fact 17 (f := .glo "bk_level") rfl)⟩
  bk_number := by
    obtain ⟨fd, F⟩ := c.t.d.def_ 10 (d := d_bk_number) rfl
    exact ⟨_, fd, F, He.glo_ok X G (c.t.d.fact 18 (f := .glo "bk_number") rfl)⟩
  bk_need := by
    obtain ⟨fd, F⟩ := c.t.d.def_ 11 (d := d_bk_need) rfl
    exact ⟨_, fd, F, He.glo_ok X G (c.t.d.fact 19 (f := .glo "bk_need") rfl)⟩
  bk_is_byte := by
    obtain ⟨fd, F⟩ := c.t.d.def_ 12 (d := d_bk_is_byte) rfl
    exact ⟨_, fd, F, He.glo_ok X G (c.t.d.fact 20 (f := .glo "bk_is_byte") rfl)⟩
  bk_signed := by
    obtain ⟨fd, F⟩ := c.t.d.def_ 13 (d := d_bk_signed) rfl
    exact ⟨_, fd, F, He.glo_ok X G (c.t.d.fact 21 (f := .glo "bk_signed") rfl)⟩
  bk_head_fault := by
    obtain ⟨fd, F⟩ := c.t.d.def_ 14 (d := d_bk_head_fault) rfl
    exact ⟨_, fd, F, He.glo_ok X G (c.t.d.fact 22 (f := .glo "bk_head_fault") rfl)⟩
  bk_codes := by
    obtain ⟨fd, F⟩ := c.t.d.def_ 15 (d := d_bk_codes) rfl
    exact ⟨_, fd, F, He.glo_ok X G (c.t.d.fact 23 (f := .glo "bk_codes") rfl)⟩
  bk_read := by
    obtain ⟨fd, F⟩ := c.t.d.def_ 16 (d := d_bk_read) rfl
    exact ⟨_, fd, F, He.glo_ok X G (c.t.d.fact 24 (f := .glo "bk_read") rfl)⟩
  read_file := by
    obtain ⟨fd, F⟩ := c.t.d.def_ 17 (d := d_read_file) rfl
    exact ⟨_, fd, F, He.glo_ok X G (c.t.d.fact 25 (f := .glo "read_file") rfl)⟩
  law_begun := by
    obtain ⟨fd, F⟩ := c.t.d.def_ 18 (d := d_law_begun) rfl
    exact ⟨_, fd, F, He.glo_ok X G (c.t.d.fact 26 (f := .glo "_law_begun") rfl)⟩
  law_next := by
    obtain ⟨fd, F⟩ := c.t.d.def_ 19 (d := d_law_next) rfl
    exact ⟨_, fd, F, He.glo_ok X G (c.t.d.fact 27 (f := .glo "_law_next") rfl)⟩
  law_parted := by
    obtain ⟨fd, F⟩ := c.t.d.def_ 20 (d := d_law_parted) rfl
    exact ⟨_, fd, F, He.glo_ok X G (c.t.d.fact 28 (f := .glo "_law_parted") rfl)⟩
  law_limited := by
    obtain ⟨fd, F⟩ := c.t.d.def_ 21 (d := d_law_limited) rfl
    exact ⟨_, fd, F, He.glo_ok X G (c.t.d.fact 29 (f := .glo "_law_limited") rfl)⟩
  law_led := by
    obtain ⟨fd, F⟩ := c.t.d.def_ 22 (d := d_law_led) rfl
    exact ⟨_, fd, F, He.glo_ok X G (c.t.d.fact 30 (f := .glo "_law_led") rfl)⟩
  law_walked := by
    obtain ⟨fd, F⟩ := c.t.d.def_ 23 (d := d_law_walked) rfl
    exact ⟨_, fd, F, He.glo_ok X G (c.t.d.fact 31 (f := .glo "_law_walked") rfl)⟩
  law_some_state := by
    obtain ⟨fd, F⟩ := c.t.d.def_ 24 (d := d_law_some_state) rfl
    exact ⟨_, fd, F, He.glo_ok X G (c.t.d.fact 32 (f := .glo "_law_some_state") rfl)⟩
  law_row := by
    obtain ⟨fd, F⟩ := c.t.d.def_ 25 (d := d_law_row) rfl
    exact ⟨_, fd, F, He.glo_ok X G (c.t.d.fact 33 (f := .glo "_law_row") rfl)⟩
  law_is_whole := by
    obtain ⟨fd, F⟩ := c.t.d.def_ 26 (d := d_law_is_whole) rfl
    exact ⟨_, fd, F, He.glo_ok X G (c.t.d.fact 34 (f := .glo "_law_is_whole") rfl)⟩
  law_fault := by
    obtain ⟨fd, F⟩ := c.t.d.def_ 27 (d := d_law_fault) rfl
    exact ⟨_, fd, F, He.glo_ok X G (c.t.d.fact 35 (f := .glo "_law_fault") rfl)⟩
  law_outcome := by
    obtain ⟨fd, F⟩ := c.t.d.def_ 28 (d := d_law_outcome) rfl
    exact ⟨_, fd, F, He.glo_ok X G (c.t.d.fact 36 (f := .glo "_law_outcome") rfl)⟩
  law_great_coder := by
    obtain ⟨fd, F⟩ := c.t.d.def_ 29 (d := d_law_great_coder) rfl
    exact ⟨_, fd, F, He.glo_ok X G (c.t.d.fact 37 (f := .glo "_law_great_coder") rfl)⟩
  law_block := by
    obtain ⟨fd, F⟩ := c.t.d.def_ 30 (d := d_law_block) rfl
    exact ⟨_, fd, F, He.glo_ok X G (c.t.d.fact 38 (f := .glo "_law_block") rfl)⟩
  law_file := by
    obtain ⟨fd, F⟩ := c.t.d.def_ 31 (d := d_law_file) rfl
    exact ⟨_, fd, F, He.glo_ok X G (c.t.d.fact 39 (f := .glo "_law_file") rfl)⟩
  law_block_read := by
    obtain ⟨fd, F⟩ := c.t.d.def_ 32 (d := d_law_block_read) rfl
    exact ⟨_, fd, F, He.glo_ok X G (c.t.d.fact 40 (f := .glo "_law_block_read") rfl)⟩
  law_pieces := by
    obtain ⟨fd, F⟩ := c.t.d.def_ 33 (d := d_law_pieces) rfl
    exact ⟨_, fd, F, He.glo_ok X G (c.t.d.fact 41 (f := .glo "_law_pieces") rfl)⟩
  law_bent_data := by
    obtain ⟨fd, F⟩ := c.t.d.def_ 34 (d := d_law_bent_data) rfl
    exact ⟨_, fd, F, He.glo_ok X G (c.t.d.fact 42 (f := .glo "_law_bent_data") rfl)⟩
  law_due := by
    obtain ⟨fd, F⟩ := c.t.d.def_ 35 (d := d_law_due) rfl
    exact ⟨_, fd, F, He.glo_ok X G (c.t.d.fact 43 (f := .glo "_law_due") rfl)⟩
  law_right := by
    obtain ⟨fd, F⟩ := c.t.d.def_ 36 (d := d_law_right) rfl
    exact ⟨_, fd, F, He.glo_ok X G (c.t.d.fact 44 (f := .glo "_law_right") rfl)⟩
  law := by
    obtain ⟨fd, F⟩ := c.t.d.def_ 37 (d := d_law) rfl
    exact ⟨_, fd, F, He.glo_ok X G (c.t.d.fact 45 (f := .glo "law") rfl)⟩
  isinstance := He.free_ok X G (c.t.d.fact 46 (f := .free "isinstance") rfl)
  int := He.free_ok X G (c.t.d.fact 47 (f := .free "int") rfl)
  bool := He.free_ok X G (c.t.d.fact 48 (f := .free "bool") rfl)
  tuple := He.free_ok X G (c.t.d.fact 49 (f := .free "tuple") rfl)
  len := He.free_ok X G (c.t.d.fact 50 (f := .free "len") rfl)
  enumerate := He.free_ok X G (c.t.d.fact 51 (f := .free "enumerate") rfl)
  min := He.free_ok X G (c.t.d.fact 52 (f := .free "min") rfl)
  max := He.free_ok X G (c.t.d.fact 53 (f := .free "max") rfl)
  range := He.free_ok X G (c.t.d.fact 54 (f := .free "range") rfl)
  sum := He.free_ok X G (c.t.d.fact 55 (f := .free "sum") rfl)
  list := He.free_ok X G (c.t.d.fact 56 (f := .free "list") rfl)
  repr := He.free_ok X G (c.t.d.fact 57 (f := .free "repr") rfl)
  MOST_STEPS := He.int_ok X G (c.t.d.fact 58 (f := .int "MOST_STEPS" 16) rfl)
  MOST_MOVES := He.int_ok X G (c.t.d.fact 59 (f := .int "MOST_MOVES" 16) rfl)
  MOST_CODES := He.int_ok X G (c.t.d.fact 60 (f := .int "MOST_CODES" 2000) rfl)
  HEAD := He.int_ok X G (c.t.d.fact 61 (f := .int "HEAD" 6) rfl)
  MOST_BLOCK := He.int_ok X G (c.t.d.fact 62 (f := .int "MOST_BLOCK" 255) rfl)
  BadCoder := He.glo_ok X G (c.t.d.fact 0 (f := .glo "BadCoder") rfl)
  BadRow := He.glo_ok X G (c.t.d.fact 1 (f := .glo "BadRow") rfl)
  BadPaper := He.glo_ok X G (c.t.d.fact 2 (f := .glo "BadPaper") rfl)
  BadByte := He.glo_ok X G (c.t.d.fact 3 (f := .glo "BadByte") rfl)
  TooGreat := He.glo_ok X G (c.t.d.fact 6 (f := .glo "TooGreat") rfl)
  OutOfPlace := He.glo_ok X G (c.t.d.fact 4 (f := .glo "OutOfPlace") rfl)
  NoSeam := He.glo_ok X G (c.t.d.fact 5 (f := .glo "NoSeam") rfl)
  Nothing := He.glo_ok X G (c.t.d.fact 7 (f := .glo "Nothing") rfl)
  MARK := He.glo_ok X G (c.t.d.fact 64 (f := .glo "MARK") rfl)
  mkT := fun mm W => by
    have h := c.more
    unfold ex at h
    obtain ⟨_, h⟩ := He.ba h
    obtain ⟨_, h⟩ := He.ba h
    obtain ⟨_, h⟩ := He.ba h
    have h := (He.ba h).1
    exact .tup (He.tupB_ok h W) (.cons (.int 165) (.cons (.int 90) .nil))
end Kt
set_option Elab.async false
set_option linter.all false
set_option maxRecDepth 100000
set_option maxHeartbeats 4000000
namespace Kt
open PySem PySem.Spec PyProof.Rows L2
theorem pt_ifExp {X : Cx} {c a b : Expr} {pos : Pos} {tt : TT} {ta tb : TE} (hc : PT X c tt) (ha : PT X a (tB ta)) (hb : PT X b (tB tb)) : PT X (.IfExp c a b pos) (tB (tIf tt ta tb)) := by
  refine ⟨fun pins s σ H Q I h => ?_⟩
  refine isTrue_IfExp (thn (hc.run pins s σ H _ I (show tt σ H _ from h)) fun k s1 ⟨H1, I1, q1⟩ => ?_)
  cases k with
  | true => exact ha.run pins s1 σ H1 Q I1 q1
  | false => exact hb.run pins s1 σ H1 Q I1 q1
section
variable {P : Program} {w : World} {K : PySem.W.Frag} {mg : Str → Option Value} {base : Heap}
abbrev N_is_whole : List Str := ["value", "least", "most"]
theorem sc_is_whole : FnScope N_is_whole ["value", "least", "most"] (defScope s_is_whole) := ⟨rfl, rfl, rfl, by decide +kernel, rfl, by decide +kernel, by decide +kernel⟩
theorem len_is_whole : ∀ vs H Q E, sp_is_whole K vs H Q E → vs.length = 3 := pf_len fun _ => rfl
theorem run_is_whole : ∀ vs H Q E, sp_is_whole K vs H Q E → t_is_whole K { nx := fun _ H' => Q .non H', rt := Q } (start N_is_whole vs) H := pf_run (N := N_is_whole) fun M x h => sv_is_whole h
theorem b_is_whole (B : Base P w K mg base) (f : Addr) (cdv : Value) (A : Around) (outer : List Env) (s : Shared) (H : Hp) (E : XK) (hr : Room 0 (A.deeper (envOfC "is_whole" (defScope s_is_whole) s.heap.objs.size f cdv))) :
    PSs (cxOf CX0 P w K mg base N_is_whole "is_whole" (defScope s_is_whole) f cdv A outer s H E).nox (defBody s_is_whole) (t_is_whole K) :=
  (pss_one (ps_ret (pe_and (pe_callB call_isi rfl B.isinstance boot_isinstance (pa_cons (pv 0) (pa_cons (pe_bltn rfl B.int boot_int rfl) pa_nil))) (pe_and (pe_not (pe_callB call_isi rfl B.isinstance boot_isinstance (pa_cons (pv 0) (pa_cons (pe_bltn rfl B.bool boot_bool rfl) pa_nil)))) (pe_one (pe_chain op_le op_le (pv 1) (pv 0) (pv 2)))))))
theorem fn_is_whole (B : Base P w K mg base) : Got P w K mg base 1 "is_whole" ["value", "least", "most"] (sp_is_whole K) :=
  got_of B.is_whole sc_is_whole len_is_whole (fun _ _ _ _ _ _ us hl => match us, hl with | [_, _, _], _ => rfl) (t_is_whole K) (run_is_whole) (b_is_whole B)
abbrev N_divided : List Str := ["number", "by"]
theorem sc_divided : FnScope N_divided ["number", "by"] (defScope s_divided) := ⟨rfl, rfl, rfl, by decide +kernel, rfl, by decide +kernel, by decide +kernel⟩
theorem len_divided : ∀ vs H Q E, sp_divided K vs H Q E → vs.length = 2 := pf_len fun _ => rfl
theorem run_divided : ∀ vs H Q E, sp_divided K vs H Q E → t_divided K { nx := fun _ H' => Q .non H', rt := Q } (start N_divided vs) H := pf_run (N := N_divided) fun M x h => sv_divided h
theorem b_divided (B : Base P w K mg base) (f : Addr) (cdv : Value) (A : Around) (outer : List Env) (s : Shared) (H : Hp) (E : XK) (hr : Room 0 (A.deeper (envOfC "divided" (defScope s_divided) s.heap.objs.size f cdv))) :
    PSs (cxOf CX0 P w K mg base N_divided "divided" (defScope s_divided) f cdv A outer s H E).nox (defBody s_divided) (t_divided K) :=
  (pss_one (ps_ret (pe_ifExp (pt_cmpR op_ge (pv 0) pe_int (nomark _)) (pe_op op_fdivN (pv 0) (pv 1)) (pe_un un_neg (pe_op op_fdivN (pe_un un_neg (pv 0)) (pv 1))))))
theorem fn_divided (B : Base P w K mg base) : Got P w K mg base 1 "divided" ["number", "by"] (sp_divided K) :=
  got_of B.divided sc_divided len_divided (fun _ _ _ _ _ _ us hl => match us, hl with | [_, _], _ => rfl) (t_divided K) (run_divided) (b_divided B)
abbrev N_bk_level : List Str := ["level", "number"]
theorem sc_bk_level : FnScope N_bk_level ["level"] (defScope s_bk_level) := ⟨rfl, rfl, rfl, by decide +kernel, rfl, by decide +kernel, by decide +kernel⟩
theorem len_bk_level : ∀ vs H Q E, sp_bk_level K vs H Q E → vs.length = 1 := pf_len fun _ => rfl
theorem run_bk_level : ∀ vs H Q E, sp_bk_level K vs H Q E → t_bk_level K { nx := fun _ H' => Q .non H', rt := Q } (start N_bk_level vs) H := pf_run (N := N_bk_level) fun M x h => sv_bk_level h
theorem b_bk_level (B : Base P w K mg base) (f : Addr) (cdv : Value) (A : Around) (outer : List Env) (s : Shared) (H : Hp) (E : XK) (hr : Room 0 (A.deeper (envOfC "bk_level" (defScope s_bk_level) s.heap.objs.size f cdv))) :
    PSs (cxOf CX0 P w K mg base N_bk_level "bk_level" (defScope s_bk_level) f cdv A outer s H E).nox (defBody s_bk_level) (t_bk_level K) :=
  (pss_cons (ps_set (i := 1) sc_bk_level.nd rfl (Or.inl rfl) (pe_ifExp (pt_cmpR op_lt (pv 0) pe_int (nomark _)) (pe_op op_add (pv 0) pe_int) (pv 0))) (pss_one (ps_ret (pe_tup (pa_cons (pe_op op_fdivN (pv 1) pe_int) (pa_cons (pe_op op_and (pv 1) pe_int) pa_nil))))))
theorem fn_bk_level (B : Base P w K mg base) : Got P w K mg base 1 "bk_level" ["level"] (sp_bk_level K) :=
  got_of B.bk_level sc_bk_level len_bk_level (fun _ _ _ _ _ _ us hl => match us, hl with | [_], _ => rfl) (t_bk_level K) (run_bk_level) (b_bk_level B)
abbrev N_bk_number : List Str := ["top", "rest", "number"]
theorem sc_bk_number : FnScope N_bk_number ["top", "rest"] (defScope s_bk_number) := ⟨rfl, rfl, rfl, by decide +kernel, rfl, by decide +kernel, by decide +kernel⟩
theorem len_bk_number : ∀ vs H Q E, sp_bk_number K vs H Q E → vs.length = 2 := pf_len fun _ => rfl
theorem run_bk_number : ∀ vs H Q E, sp_bk_number K vs H Q E → t_bk_number K { nx := fun _ H' => Q .non H', rt := Q } (start N_bk_number vs) H := pf_run (N := N_bk_number) fun M x h => sv_bk_number
theorem b_bk_number (B : Base P w K mg base) (f : Addr) (cdv : Value) (A : Around) (outer : List Env) (s : Shared) (H : Hp) (E : XK) (hr : Room 0 (A.deeper (envOfC "bk_number" (defScope s_bk_number) s.heap.objs.size f cdv))) :
    PSs (cxOf CX0 P w K mg base N_bk_number "bk_number" (defScope s_bk_number) f cdv A outer s H E).nox (defBody s_bk_number) (t_bk_number K) :=
  (pss_cons (ps_set (i := 2) sc_bk_number.nd rfl (Or.inl rfl) (pe_op op_add (pe_op op_mul pe_int (pv 0)) (pv 1))) (pss_one (ps_ret (pe_ifExp (pt_cmpR op_gt (pv 0) pe_int (nomark _)) (pe_op op_sub (pv 2) pe_int) (pv 2)))))
theorem fn_bk_number (B : Base P w K mg base) : Got P w K mg base 1 "bk_number" ["top", "rest"] (sp_bk_number K) :=
  got_of B.bk_number sc_bk_number len_bk_number (fun _ _ _ _ _ _ us hl => match us, hl with | [_, _], _ => rfl) (t_bk_number K) (run_bk_number) (b_bk_number B)
abbrev N_bk_signed : List Str := ["byte"]
theorem sc_bk_signed : FnScope N_bk_signed ["byte"] (defScope s_bk_signed) := ⟨rfl, rfl, rfl, by decide +kernel, rfl, by decide +kernel, by decide +kernel⟩
theorem len_bk_signed : ∀ vs H Q E, sp_bk_signed K vs H Q E → vs.length = 1 := pf_len fun _ => rfl
theorem run_bk_signed : ∀ vs H Q E, sp_bk_signed K vs H Q E → t_bk_signed K { nx := fun _ H' => Q .non H', rt := Q } (start N_bk_signed vs) H := pf_run (N := N_bk_signed) fun M x h => sv_bk_signed
theorem b_bk_signed (B : Base P w K mg base) (f : Addr) (cdv : Value) (A : Around) (outer : List Env) (s : Shared) (H : Hp) (E : XK) (hr : Room 0 (A.deeper (envOfC "bk_signed" (defScope s_bk_signed) s.heap.objs.size f cdv))) :
    PSs (cxOf CX0 P w K mg base N_bk_signed "bk_signed" (defScope s_bk_signed) f cdv A outer s H E).nox (defBody s_bk_signed) (t_bk_signed K) :=
  (pss_one (ps_ret (pe_ifExp (pt_cmpR op_gt (pv 0) pe_int (nomark _)) (pe_op op_sub (pv 0) pe_int) (pv 0))))
theorem fn_bk_signed (B : Base P w K mg base) : Got P w K mg base 1 "bk_signed" ["byte"] (sp_bk_signed K) :=
  got_of B.bk_signed sc_bk_signed len_bk_signed (fun _ _ _ _ _ _ us hl => match us, hl with | [_], _ => rfl) (t_bk_signed K) (run_bk_signed) (b_bk_signed B)
abbrev N_law_next : List Str := ["m", "many", "k", "cell", "mixed", "rest"]
theorem sc_law_next : FnScope N_law_next ["m", "many"] (defScope s_law_next) := ⟨rfl, rfl, rfl, by decide +kernel, rfl, by decide +kernel, by decide +kernel⟩
theorem len_law_next : ∀ vs H Q E, sp_law_next K vs H Q E → vs.length = 2 := mf_len fun _ => rfl
theorem b_law_next (B : Base P w K mg base) (f : Addr) (cdv : Value) (A : Around) (outer : List Env) (s : Shared) (H : Hp) (E : XK) (hr : Room 0 (A.deeper (envOfC "_law_next" (defScope s_law_next) s.heap.objs.size f cdv))) :
    PSs (cxOf CX0 P w K mg base N_law_next "_law_next" (defScope s_law_next) f cdv A outer s H E).nox (defBody s_law_next) (t_law_next K) :=
  (pss_cons (ps_while PassesOwn.never (PW.pt (pw_and (pt_cmpR (op_neD hr.units) (pe_dget (hu_of hr) (pv 0) pe_str (fun _ _ => rfl)) (pe_lst pa_nil) (nomark _)) (pw_and1 (pt_cmpR op_eq (pe_ix ix_list (pe_dget (hu_of hr) (pv 0) pe_str (fun _ _ => rfl)) pe_int (fun _ _ => rfl)) pe_int (nomark _))))) (pss_one (ps_dput (hu_of hr) (pv 0) pe_str (pe_slice sl_list (pe_dget (hu_of hr) (pv 0) pe_str (fun _ _ => rfl)) (po_some pe_int) po_none) rfl))) (pss_cons (ps_if (pt_cmpR (op_neD hr.units) (pe_dget (hu_of hr) (pv 0) pe_str (fun _ _ => rfl)) (pe_lst pa_nil) (nomark _)) (pss_cons (ps_set (i := 5) sc_law_next.nd rfl (Or.inl rfl) (pe_callTy call_intQ rfl B.int boot_int (pa_cons (pe_ix ix_list (pe_dget (hu_of hr) (pv 0) pe_str (fun _ _ => rfl)) pe_int (fun _ _ => rfl)) pa_nil))) (pss_cons (ps_asg (pe_op op_fdivN (pv 5) (pv 1)) (pg_sub (pe_dget (hu_of hr) (pv 0) pe_str (fun _ _ => rfl)) pe_int set_list)) (pss_one (ps_ret (pe_op op_modN (pv 5) (pv 1)))))) pss_nil) (pss_cons (ps_set (i := 2) sc_law_next.nd rfl (Or.inl rfl) (pe_op op_add (pe_dget (hu_of hr) (pv 0) pe_str (fun _ _ => rfl)) pe_int)) (pss_cons (ps_dput (hu_of hr) (pv 0) pe_str (pv 2) rfl) (pss_cons (ps_set (i := 3) sc_law_next.nd rfl (Or.inl rfl) (pe_ifExp (pt_cmpR (op_neD hr.units) (pe_dget (hu_of hr) (pv 0) pe_str (fun _ _ => rfl)) (pe_lst pa_nil) (nomark _)) (pe_ix ix_list (pe_dget (hu_of hr) (pv 0) pe_str (fun _ _ => rfl)) (pe_op op_modN (pe_callTy call_intQ rfl B.int boot_int (pa_cons (pv 2) pa_nil)) (pe_callB call_lenQ rfl B.len boot_len (pa_cons (pe_dget (hu_of hr) (pv 0) pe_str (fun _ _ => rfl)) pa_nil))) (fun _ _ => rfl)) pe_int)) (pss_cons (ps_set (i := 4) sc_law_next.nd rfl (Or.inl rfl) (pe_op op_mul (pe_callTy call_intQ rfl B.int boot_int (pa_cons (pe_op op_add (pe_op op_add (pe_op op_modN (pe_callTy call_intQ rfl B.int boot_int (pa_cons (pv 3) pa_nil)) pe_int) (pe_op op_mul pe_int (pv 2))) (pe_op op_mul (pe_op op_mul pe_int (pv 2)) (pv 2))) pa_nil)) pe_int)) (pss_cons (ps_set (i := 4) sc_law_next.nd rfl (Or.inl rfl) (pe_op op_mul (pe_callTy call_intQ rfl B.int boot_int (pa_cons (pe_op op_add (pe_op op_modN (pe_callTy call_intQ rfl B.int boot_int (pa_cons (pv 4) pa_nil)) pe_int) (pe_op op_mul pe_int (pv 2))) pa_nil)) pe_int)) (pss_one (ps_ret (pe_op op_modN (pe_callTy call_intQ rfl B.int boot_int (pa_cons (pe_op op_fdivN (pe_op op_modN (pe_callTy call_intQ rfl B.int boot_int (pa_cons (pv 4) pa_nil)) pe_int) pe_int) pa_nil)) (pv 1)))))))))))
theorem fn_law_next (B : Base P w K mg base) : Got P w K mg base 1 "_law_next" ["m", "many"] (sp_law_next K) :=
  got_of B.law_next sc_law_next len_law_next (fun _ _ _ _ _ _ us hl => match us, hl with | [_, _], _ => rfl) (t_law_next K) (run_law_next) (b_law_next B)
abbrev N_law_parted : List Str := ["number", "by"]
theorem sc_law_parted : FnScope N_law_parted ["number", "by"] (defScope s_law_parted) := ⟨rfl, rfl, rfl, by decide +kernel, rfl, by decide +kernel, by decide +kernel⟩
theorem len_law_parted : ∀ vs H Q E, sp_law_parted K vs H Q E → vs.length = 2 := pf_len fun _ => rfl
theorem run_law_parted : ∀ vs H Q E, sp_law_parted K vs H Q E → t_law_parted K { nx := fun _ H' => Q .non H', rt := Q } (start N_law_parted vs) H := pf_run (N := N_law_parted) fun M x h => sv_law_parted h
theorem b_law_parted (B : Base P w K mg base) (f : Addr) (cdv : Value) (A : Around) (outer : List Env) (s : Shared) (H : Hp) (E : XK) (hr : Room 0 (A.deeper (envOfC "_law_parted" (defScope s_law_parted) s.heap.objs.size f cdv))) :
    PSs (cxOf CX0 P w K mg base N_law_parted "_law_parted" (defScope s_law_parted) f cdv A outer s H E).nox (defBody s_law_parted) (t_law_parted K) :=
  (pss_one (ps_ret (pe_ifExp (pt_cmpR op_ge (pv 0) pe_int (nomark _)) (pe_op op_fdivN (pv 0) (pv 1)) (pe_op op_sub pe_int (pe_op op_fdivN (pe_op op_sub pe_int (pv 0)) (pv 1))))))
theorem fn_law_parted (B : Base P w K mg base) : Got P w K mg base 1 "_law_parted" ["number", "by"] (sp_law_parted K) :=
  got_of B.law_parted sc_law_parted len_law_parted (fun _ _ _ _ _ _ us hl => match us, hl with | [_, _], _ => rfl) (t_law_parted K) (run_law_parted) (b_law_parted B)
abbrev N_law_limited : List Str := ["number", "least", "most"]
theorem sc_law_limited : FnScope N_law_limited ["number", "least", "most"] (defScope s_law_limited) := ⟨rfl, rfl, rfl, by decide +kernel, rfl, by decide +kernel, by decide +kernel⟩
theorem len_law_limited : ∀ vs H Q E, sp_law_limited K vs H Q E → vs.length = 3 := pf_len fun _ => rfl
theorem run_law_limited : ∀ vs H Q E, sp_law_limited K vs H Q E → t_law_limited K { nx := fun _ H' => Q .non H', rt := Q } (start N_law_limited vs) H := pf_run (N := N_law_limited) fun M x h => sv_law_limited
theorem b_law_limited (B : Base P w K mg base) (f : Addr) (cdv : Value) (A : Around) (outer : List Env) (s : Shared) (H : Hp) (E : XK) (hr : Room 0 (A.deeper (envOfC "_law_limited" (defScope s_law_limited) s.heap.objs.size f cdv))) :
    PSs (cxOf CX0 P w K mg base N_law_limited "_law_limited" (defScope s_law_limited) f cdv A outer s H E).nox (defBody s_law_limited) (t_law_limited K) :=
  (pss_one (ps_ret (pe_ifExp (pt_cmpR op_lt (pv 0) (pv 1) (nomark _)) (pv 1) (pe_ifExp (pt_cmpR op_gt (pv 0) (pv 2) (nomark _)) (pv 2) (pv 0)))))
theorem fn_law_limited (B : Base P w K mg base) : Got P w K mg base 1 "_law_limited" ["number", "least", "most"] (sp_law_limited K) :=
  got_of B.law_limited sc_law_limited len_law_limited (fun _ _ _ _ _ _ us hl => match us, hl with | [_, _, _], _ => rfl) (t_law_limited K) (run_law_limited) (b_law_limited B)
abbrev N_law_is_whole : List Str := ["thing", "least", "most"]
theorem sc_law_is_whole : FnScope N_law_is_whole ["thing", "least", "most"] (defScope s_law_is_whole) := ⟨rfl, rfl, rfl, by decide +kernel, rfl, by decide +kernel, by decide +kernel⟩
theorem len_law_is_whole : ∀ vs H Q E, sp_law_is_whole K vs H Q E → vs.length = 3 := pf_len fun _ => rfl
theorem run_law_is_whole : ∀ vs H Q E, sp_law_is_whole K vs H Q E → t_law_is_whole K { nx := fun _ H' => Q .non H', rt := Q } (start N_law_is_whole vs) H := pf_run (N := N_law_is_whole) fun M x h => sv_law_is_whole h
theorem b_law_is_whole (B : Base P w K mg base) (f : Addr) (cdv : Value) (A : Around) (outer : List Env) (s : Shared) (H : Hp) (E : XK) (hr : Room 0 (A.deeper (envOfC "_law_is_whole" (defScope s_law_is_whole) s.heap.objs.size f cdv))) :
    PSs (cxOf CX0 P w K mg base N_law_is_whole "_law_is_whole" (defScope s_law_is_whole) f cdv A outer s H E).nox (defBody s_law_is_whole) (t_law_is_whole K) :=
  (pss_one (ps_ret (pe_and (pe_callB call_isi rfl B.isinstance boot_isinstance (pa_cons (pv 0) (pa_cons (pe_bltn rfl B.int boot_int rfl) pa_nil))) (pe_and (pe_not (pe_callB call_isi rfl B.isinstance boot_isinstance (pa_cons (pv 0) (pa_cons (pe_bltn rfl B.bool boot_bool rfl) pa_nil)))) (pe_one (pe_chain op_le op_le (pv 1) (pv 0) (pv 2)))))))
theorem fn_law_is_whole (B : Base P w K mg base) : Got P w K mg base 1 "_law_is_whole" ["thing", "least", "most"] (sp_law_is_whole K) :=
  got_of B.law_is_whole sc_law_is_whole len_law_is_whole (fun _ _ _ _ _ _ us hl => match us, hl with | [_, _, _], _ => rfl) (t_law_is_whole K) (run_law_is_whole) (b_law_is_whole B)
abbrev N_law_block : List Str := ["here", "row", "k", "inner", "level", "found"]
theorem sc_law_block : FnScope N_law_block ["here", "row"] (defScope s_law_block) := ⟨rfl, rfl, rfl, by decide +kernel, rfl, by decide +kernel, by decide +kernel⟩
theorem len_law_block : ∀ vs H Q E, sp_law_block K vs H Q E → vs.length = 2 := pf_len fun _ => rfl
theorem run_law_block : ∀ vs H Q E, sp_law_block K vs H Q E → t_law_block K { nx := fun _ H' => Q .non H', rt := Q } (start N_law_block vs) H := pf_run (N := N_law_block) fun M x h => sv_law_block h
theorem b_law_block (B : Base P w K mg base) (f : Addr) (cdv : Value) (A : Around) (outer : List Env) (s : Shared) (H : Hp) (E : XK) (hr : Room 0 (A.deeper (envOfC "_law_block" (defScope s_law_block) s.heap.objs.size f cdv))) :
    PSs (cxOf CX0 P w K mg base N_law_block "_law_block" (defScope s_law_block) f cdv A outer s H E).nox (defBody s_law_block) (t_law_block K) :=
  (pss_cons (ps_par (i := 4) (j := 5) rfl sc_law_block.nd rfl rfl (by decide) rfl rfl (pa_cons (pe_op op_modN (pe_ix ix_tup (pv 0) pe_int (fun _ _ => rfl)) pe_int) (pa_cons (pe_lst pa_nil) pa_nil)) rfl) (pss_cons (ps_for PassesOwn.never rfl (pi_range1 rfl B.range (pa_cons (pe_op op_fdivN (pe_op op_add (pe_callB call_lenQ rfl B.len boot_len (pa_cons (pv 1) pa_nil)) pe_int) pe_int) pa_nil)) (pg_name (i := 2) sc_law_block.nd rfl (Or.inl rfl)) (pss_one (ps_expr (pe_bm PySem.F.plainAttrs_list PySem.F.slot_list_append PySem.F.type_list_append mt_append (pv 5) (pa_cons (pe_op op_add (pe_ix ix_tup (pv 1) (pe_op op_mul pe_int (pv 2)) (fun _ _ => rfl)) (pe_ifExp (pt_cmpR op_lt (pe_op op_add (pe_op op_mul pe_int (pv 2)) pe_int) (pe_callB call_lenQ rfl B.len boot_len (pa_cons (pv 1) pa_nil)) (nomark _)) (pe_op op_mul pe_int (pe_ix ix_tup (pv 1) (pe_op op_add (pe_op op_mul pe_int (pv 2)) pe_int) (fun _ _ => rfl))) pe_int)) pa_nil))))) (pss_cons (ps_set (i := 3) sc_law_block.nd rfl (Or.inl rfl) (pe_op op_cat (pe_lst (pa_cons (pe_op op_fdivN (pv 4) pe_int) (pa_cons (pe_op op_modN (pv 4) pe_int) (pa_cons (pe_ix ix_tup (pv 0) pe_int (fun _ _ => rfl)) (pa_cons (pe_callB call_lenQ rfl B.len boot_len (pa_cons (pv 1) pa_nil)) pa_nil))))) (pv 5))) (pss_one (ps_ret (pe_op op_catA (pe_op op_catA (pe_tup (pa_cons pe_int (pa_cons pe_int pa_nil))) (pe_callTy call_tupQ rfl B.tuple boot_tuple (pa_cons (pv 3) pa_nil))) (pe_tup (pa_cons (pe_op op_modN (pe_callB (cr_sum rfl) rfl B.sum boot_sum (pa_cons (pv 3) pa_nil)) pe_int) pa_nil))))))))
theorem fn_law_block (B : Base P w K mg base) : Got P w K mg base 1 "_law_block" ["here", "row"] (sp_law_block K) :=
  got_of B.law_block sc_law_block len_law_block (fun _ _ _ _ _ _ us hl => match us, hl with | [_, _], _ => rfl) (t_law_block K) (run_law_block) (b_law_block B)
abbrev N_cd_is_move : List Str := ["move"]
theorem sc_cd_is_move : FnScope N_cd_is_move ["move"] (defScope s_cd_is_move) := ⟨rfl, rfl, rfl, by decide +kernel, rfl, by decide +kernel, by decide +kernel⟩
theorem len_cd_is_move : ∀ vs H Q E, sp_cd_is_move K vs H Q E → vs.length = 1 := pf_len fun _ => rfl
theorem run_cd_is_move : ∀ vs H Q E, sp_cd_is_move K vs H Q E → t_cd_is_move K { nx := fun _ H' => Q .non H', rt := Q } (start N_cd_is_move vs) H := pf_run (N := N_cd_is_move) fun M x h => sv_cd_is_move h
theorem b_cd_is_move (B : Base P w K mg base) (f : Addr) (cdv : Value) (A : Around) (outer : List Env) (s : Shared) (H : Hp) (E : XK) (hr : Room 1 (A.deeper (envOfC "cd_is_move" (defScope s_cd_is_move) s.heap.objs.size f cdv))) :
    PSs (cxOf CX0 P w K mg base N_cd_is_move "cd_is_move" (defScope s_cd_is_move) f cdv A outer s H E).nox (defBody s_cd_is_move) (t_cd_is_move K) :=
  (pss_one (ps_ret (pe_and (pe_callB call_isi rfl B.isinstance boot_isinstance (pa_cons (pv 0) (pa_cons (pe_bltn rfl B.tuple boot_tuple rfl) pa_nil))) (pe_and (pe_cmpR op_eq (pe_callB call_lenQ rfl B.len boot_len (pa_cons (pv 0) pa_nil)) pe_int (nomark _)) (pe_and (pe_got (fn_is_whole B) (hr.mono (by decide)) rfl (pa_cons (pe_ix ix_tup (pv 0) pe_int (fun _ _ => rfl)) (pa_cons (pe_un un_neg pe_int) (pa_cons pe_int pa_nil)))) (pe_one (pe_got (fn_is_whole B) (hr.mono (by decide)) rfl (pa_cons (pe_ix ix_tup (pv 0) pe_int (fun _ _ => rfl)) (pa_cons (pe_un un_neg pe_int) (pa_cons pe_int pa_nil))))))))))
theorem fn_cd_is_move (B : Base P w K mg base) : Got P w K mg base 2 "cd_is_move" ["move"] (sp_cd_is_move K) :=
  got_of B.cd_is_move sc_cd_is_move len_cd_is_move (fun _ _ _ _ _ _ us hl => match us, hl with | [_], _ => rfl) (t_cd_is_move K) (run_cd_is_move) (b_cd_is_move B)
abbrev N_moved_by : List Str := ["coder", "code", "place"]
theorem sc_moved_by : FnScope N_moved_by ["coder", "code", "place"] (defScope s_moved_by) := ⟨rfl, rfl, rfl, by decide +kernel, rfl, by decide +kernel, by decide +kernel⟩
theorem len_moved_by : ∀ vs H Q E, sp_moved_by K vs H Q E → vs.length = 3 := pf_len fun _ => rfl
theorem run_moved_by : ∀ vs H Q E, sp_moved_by K vs H Q E → t_moved_by K { nx := fun _ H' => Q .non H', rt := Q } (start N_moved_by vs) H := pf_run (N := N_moved_by) fun M x h => sv_moved_by h
theorem b_moved_by (B : Base P w K mg base) (f : Addr) (cdv : Value) (A : Around) (outer : List Env) (s : Shared) (H : Hp) (E : XK) (hr : Room 1 (A.deeper (envOfC "moved_by" (defScope s_moved_by) s.heap.objs.size f cdv))) :
    PSs (cxOf CX0 P w K mg base N_moved_by "moved_by" (defScope s_moved_by) f cdv A outer s H E).nox (defBody s_moved_by) (t_moved_by K) :=
  (pss_one (ps_ret (pe_got (fn_divided B) (hr.mono (by decide)) rfl (pa_cons (pe_op op_mul (pe_ix ix_tup (pe_ix ix_tup (pe_ix ix_tup (pv 0) pe_int (fun _ _ => rfl)) (pv 1) (fun _ _ => rfl)) pe_int (fun _ _ => rfl)) (pe_ix ix_tup (pe_ix ix_tup (pv 0) pe_int (fun _ _ => rfl)) (pv 2) (fun _ _ => rfl))) (pa_cons pe_int pa_nil)))))
theorem fn_moved_by (B : Base P w K mg base) : Got P w K mg base 2 "moved_by" ["coder", "code", "place"] (sp_moved_by K) :=
  got_of B.moved_by sc_moved_by len_moved_by (fun _ _ _ _ _ _ us hl => match us, hl with | [_, _, _], _ => rfl) (t_moved_by K) (run_moved_by) (b_moved_by B)
abbrev N_bk_is_byte : List Str := ["data", "at", "least", "most"]
theorem sc_bk_is_byte : FnScope N_bk_is_byte ["data", "at", "least", "most"] (defScope s_bk_is_byte) := ⟨rfl, rfl, rfl, by decide +kernel, rfl, by decide +kernel, by decide +kernel⟩
theorem len_bk_is_byte : ∀ vs H Q E, sp_bk_is_byte K vs H Q E → vs.length = 4 := pf_len fun _ => rfl
theorem run_bk_is_byte : ∀ vs H Q E, sp_bk_is_byte K vs H Q E → t_bk_is_byte K { nx := fun _ H' => Q .non H', rt := Q } (start N_bk_is_byte vs) H := pf_run (N := N_bk_is_byte) fun M x h => sv_bk_is_byte h
theorem b_bk_is_byte (B : Base P w K mg base) (f : Addr) (cdv : Value) (A : Around) (outer : List Env) (s : Shared) (H : Hp) (E : XK) (hr : Room 1 (A.deeper (envOfC "bk_is_byte" (defScope s_bk_is_byte) s.heap.objs.size f cdv))) :
    PSs (cxOf CX0 P w K mg base N_bk_is_byte "bk_is_byte" (defScope s_bk_is_byte) f cdv A outer s H E).nox (defBody s_bk_is_byte) (t_bk_is_byte K) :=
  (pss_one (ps_ret (pe_and (pe_cmpR op_lt (pv 1) (pe_callB call_lenQ rfl B.len boot_len (pa_cons (pv 0) pa_nil)) (nomark _)) (pe_one (pe_got (fn_is_whole B) (hr.mono (by decide)) rfl (pa_cons (pe_ix ix_tup (pv 0) (pv 1) (fun _ _ => rfl)) (pa_cons (pv 2) (pa_cons (pv 3) pa_nil))))))))
theorem fn_bk_is_byte (B : Base P w K mg base) : Got P w K mg base 2 "bk_is_byte" ["data", "at", "least", "most"] (sp_bk_is_byte K) :=
  got_of B.bk_is_byte sc_bk_is_byte len_bk_is_byte (fun _ _ _ _ _ _ us hl => match us, hl with | [_, _, _, _], _ => rfl) (t_bk_is_byte K) (run_bk_is_byte) (b_bk_is_byte B)
abbrev N_law_led : List Str := ["coder", "here", "code", "level", "share", "turn"]
theorem sc_law_led : FnScope N_law_led ["coder", "here", "code"] (defScope s_law_led) := ⟨rfl, rfl, rfl, by decide +kernel, rfl, by decide +kernel, by decide +kernel⟩
theorem len_law_led : ∀ vs H Q E, sp_law_led K vs H Q E → vs.length = 3 := pf_len fun _ => rfl
theorem run_law_led : ∀ vs H Q E, sp_law_led K vs H Q E → t_law_led K { nx := fun _ H' => Q .non H', rt := Q } (start N_law_led vs) H := pf_run (N := N_law_led) fun M x h => sv_law_led h
theorem b_law_led (B : Base P w K mg base) (f : Addr) (cdv : Value) (A : Around) (outer : List Env) (s : Shared) (H : Hp) (E : XK) (hr : Room 1 (A.deeper (envOfC "_law_led" (defScope s_law_led) s.heap.objs.size f cdv))) :
    PSs (cxOf CX0 P w K mg base N_law_led "_law_led" (defScope s_law_led) f cdv A outer s H E).nox (defBody s_law_led) (t_law_led K) :=
  (pss_cons (ps_asg (pe_ix ix_tup (pe_ix ix_tup (pv 0) pe_int (fun _ _ => rfl)) (pv 2) (fun _ _ => rfl)) (pg_tup rfl (pgs_cons (pg_name (i := 4) sc_law_led.nd rfl (Or.inl rfl)) (pgs_cons (pg_name (i := 5) sc_law_led.nd rfl (Or.inl rfl)) pgs_nil)))) (pss_cons (ps_set (i := 3) sc_law_led.nd rfl (Or.inl rfl) (pe_ix ix_tup (pv 1) pe_int (fun _ _ => rfl))) (pss_cons (ps_if (pt_cmpR op_ne (pe_ix ix_tup (pv 0) pe_int (fun _ _ => rfl)) pe_int (nomark _)) (pss_one (ps_set (i := 3) sc_law_led.nd rfl (Or.inl rfl) (pe_op op_sub (pv 3) (pe_got (fn_law_parted B) (hr.mono (by decide)) rfl (pa_cons (pv 3) (pa_cons (pe_ix ix_tup (pv 0) pe_int (fun _ _ => rfl)) pa_nil)))))) pss_nil) (pss_cons (ps_set (i := 3) sc_law_led.nd rfl (Or.inl rfl) (pe_op op_add (pv 3) (pe_got (fn_law_parted B) (hr.mono (by decide)) rfl (pa_cons (pe_op op_mul (pv 4) (pe_ix ix_tup (pe_ix ix_tup (pv 0) pe_int (fun _ _ => rfl)) (pe_ix ix_tup (pv 1) pe_int (fun _ _ => rfl)) (fun _ _ => rfl))) (pa_cons pe_int pa_nil))))) (pss_one (ps_ret (pe_tup (pa_cons (pe_got (fn_law_limited B) (hr.mono (by decide)) rfl (pa_cons (pv 3) (pa_cons (pe_ix ix_tup (pv 0) pe_int (fun _ _ => rfl)) (pa_cons (pe_ix ix_tup (pv 0) pe_int (fun _ _ => rfl)) pa_nil)))) (pa_cons (pe_got (fn_law_limited B) (hr.mono (by decide)) rfl (pa_cons (pe_op op_add (pe_ix ix_tup (pv 1) pe_int (fun _ _ => rfl)) (pv 5)) (pa_cons pe_int (pa_cons (pe_op op_sub (pe_callB call_lenQ rfl B.len boot_len (pa_cons (pe_ix ix_tup (pv 0) pe_int (fun _ _ => rfl)) pa_nil)) pe_int) pa_nil)))) pa_nil)))))))))
theorem fn_law_led (B : Base P w K mg base) : Got P w K mg base 2 "_law_led" ["coder", "here", "code"] (sp_law_led K) :=
  got_of B.law_led sc_law_led len_law_led (fun _ _ _ _ _ _ us hl => match us, hl with | [_, _, _], _ => rfl) (t_law_led K) (run_law_led) (b_law_led B)
abbrev N_law_some_state : List Str := ["m", "coder"]
theorem sc_law_some_state : FnScope N_law_some_state ["m", "coder"] (defScope s_law_some_state) := ⟨rfl, rfl, rfl, by decide +kernel, rfl, by decide +kernel, by decide +kernel⟩
theorem len_law_some_state : ∀ vs H Q E, sp_law_some_state K vs H Q E → vs.length = 2 := mf_len fun _ => rfl
theorem run_law_some_state : ∀ vs H Q E, sp_law_some_state K vs H Q E → t_law_some_state K { nx := fun _ H' => Q .non H', rt := Q } (start N_law_some_state vs) H := mf_run (N := N_law_some_state) fun m T x h => sv_law_some_state h
theorem b_law_some_state (B : Base P w K mg base) (f : Addr) (cdv : Value) (A : Around) (outer : List Env) (s : Shared) (H : Hp) (E : XK) (hr : Room 1 (A.deeper (envOfC "_law_some_state" (defScope s_law_some_state) s.heap.objs.size f cdv))) :
    PSs (cxOf CX0 P w K mg base N_law_some_state "_law_some_state" (defScope s_law_some_state) f cdv A outer s H E).nox (defBody s_law_some_state) (t_law_some_state K) :=
  (pss_one (ps_ret (pe_tup (pa_cons (pe_op op_add (pe_ix ix_tup (pv 1) pe_int (fun _ _ => rfl)) (pe_got (fn_law_next B) (hr.mono (by decide)) rfl (pa_cons (pv 0) (pa_cons (pe_op op_add (pe_op op_sub (pe_ix ix_tup (pv 1) pe_int (fun _ _ => rfl)) (pe_ix ix_tup (pv 1) pe_int (fun _ _ => rfl))) pe_int) pa_nil)))) (pa_cons (pe_got (fn_law_next B) (hr.mono (by decide)) rfl (pa_cons (pv 0) (pa_cons (pe_callB call_lenQ rfl B.len boot_len (pa_cons (pe_ix ix_tup (pv 1) pe_int (fun _ _ => rfl)) pa_nil)) pa_nil))) pa_nil)))))
theorem fn_law_some_state (B : Base P w K mg base) : Got P w K mg base 2 "_law_some_state" ["m", "coder"] (sp_law_some_state K) :=
  got_of B.law_some_state sc_law_some_state len_law_some_state (fun _ _ _ _ _ _ us hl => match us, hl with | [_, _], _ => rfl) (t_law_some_state K) (run_law_some_state) (b_law_some_state B)
abbrev N_law_row : List Str := ["m", "coder", "many", "k"]
theorem sc_law_row : FnScope N_law_row ["m", "coder", "many"] (defScope s_law_row) := ⟨rfl, rfl, rfl, by decide +kernel, rfl, by decide +kernel, by decide +kernel⟩
theorem len_law_row : ∀ vs H Q E, sp_law_row K vs H Q E → vs.length = 3 := mf_len fun _ => rfl
theorem run_law_row : ∀ vs H Q E, sp_law_row K vs H Q E → t_law_row K { nx := fun _ H' => Q .non H', rt := Q } (start N_law_row vs) H := mf_run (N := N_law_row) fun m T x h => sv_law_row h.1 h.2
theorem b_law_row (B : Base P w K mg base) (f : Addr) (cdv : Value) (A : Around) (outer : List Env) (s : Shared) (H : Hp) (E : XK) (hr : Room 1 (A.deeper (envOfC "_law_row" (defScope s_law_row) s.heap.objs.size f cdv))) :
    PSs (cxOf CX0 P w K mg base N_law_row "_law_row" (defScope s_law_row) f cdv A outer s H E).nox (defBody s_law_row) (t_law_row K) :=
  (pss_one (ps_ret (pe_callTy call_tupQ rfl B.tuple boot_tuple (pa_cons (pe_lc (own := [("k", 3)]) (g := gName 3) rfl sc_law_row.nd (pi_range1 rfl B.range (pa_cons (pe_got (fn_law_next B) (hr.mono (by decide)) rfl (pa_cons (pv 0) (pa_cons (pe_op op_add (pv 2) pe_int) pa_nil))) pa_nil)) (blkOk_by (N := N_law_row) (sc := defScope s_law_row) (by decide +kernel)) (fun _ _ _ _ _ => pg_name (i := 3) sc_law_row.nd rfl (Or.inl rfl)) (fun _ _ _ _ _ => pts_nil) (fun _ _ _ _ _ => (pe_got (fn_law_next B) (hr.mono (by decide)) rfl (pa_cons (pv 0) (pa_cons (pe_callB call_lenQ rfl B.len boot_len (pa_cons (pe_ix ix_tup (pv 1) pe_int (fun _ _ => rfl)) pa_nil)) pa_nil))))) pa_nil))))
theorem fn_law_row (B : Base P w K mg base) : Got P w K mg base 2 "_law_row" ["m", "coder", "many"] (sp_law_row K) :=
  got_of B.law_row sc_law_row len_law_row (fun _ _ _ _ _ _ us hl => match us, hl with | [_, _, _], _ => rfl) (t_law_row K) (run_law_row) (b_law_row B)
abbrev N_law_great_coder : List Str := ["m", "wide", "steps", "moves", "k", "low", "high"]
theorem sc_law_great_coder : FnScope N_law_great_coder ["m"] (defScope s_law_great_coder) := ⟨rfl, rfl, rfl, by decide +kernel, rfl, by decide +kernel, by decide +kernel⟩
theorem len_law_great_coder : ∀ vs H Q E, sp_law_great_coder K vs H Q E → vs.length = 1 := mf_len fun _ => rfl
theorem run_law_great_coder : ∀ vs H Q E, sp_law_great_coder K vs H Q E → t_law_great_coder K { nx := fun _ H' => Q .non H', rt := Q } (start N_law_great_coder vs) H := mf_run (N := N_law_great_coder) fun m T x h => sv_law_great_coder
theorem b_law_great_coder (B : Base P w K mg base) (f : Addr) (cdv : Value) (A : Around) (outer : List Env) (s : Shared) (H : Hp) (E : XK) (hr : Room 1 (A.deeper (envOfC "_law_great_coder" (defScope s_law_great_coder) s.heap.objs.size f cdv))) :
    PSs (cxOf CX0 P w K mg base N_law_great_coder "_law_great_coder" (defScope s_law_great_coder) f cdv A outer s H E).nox (defBody s_law_great_coder) (t_law_great_coder K) :=
  (pss_cons (ps_set (i := 1) sc_law_great_coder.nd rfl (Or.inl rfl) (pe_ix ix_list (pe_lst (pa_cons pe_int (pa_cons pe_int (pa_cons pe_int (pa_cons pe_int pa_nil))))) (pe_got (fn_law_next B) (hr.mono (by decide)) rfl (pa_cons (pv 0) (pa_cons pe_int pa_nil))) (fun _ _ => rfl))) (pss_cons (ps_par (i := 5) (j := 6) rfl sc_law_great_coder.nd rfl rfl (by decide) rfl rfl (pa_cons (pe_op op_sub pe_int (pe_got (fn_law_next B) (hr.mono (by decide)) rfl (pa_cons (pv 0) (pa_cons (pe_op op_add (pv 1) pe_int) pa_nil)))) (pa_cons (pe_got (fn_law_next B) (hr.mono (by decide)) rfl (pa_cons (pv 0) (pa_cons (pe_op op_add (pv 1) pe_int) pa_nil))) pa_nil)) rfl) (pss_cons (ps_setLc (i := 2) (own := [("k", 4)]) (g := gName 4) rfl sc_law_great_coder.nd rfl rfl (sw_true rfl rfl rfl (by decide +kernel)) (pi_range1 rfl B.range (pa_cons (pe_ix ix_list (pe_lst (pa_cons pe_int (pa_cons pe_int (pa_cons pe_int pa_nil)))) (pe_got (fn_law_next B) (hr.mono (by decide)) rfl (pa_cons (pv 0) (pa_cons pe_int pa_nil))) (fun _ _ => rfl)) pa_nil)) (blkOk_by (N := N_law_great_coder) (sc := defScope s_law_great_coder) (by decide +kernel)) (fun _ _ _ _ _ => pg_name (i := 4) sc_law_great_coder.nd rfl (Or.inl rfl)) (fun _ _ _ _ _ => pts_nil) (fun _ _ _ _ _ => (pe_op op_add pe_int (pe_got (fn_law_next B) (hr.mono (by decide)) rfl (pa_cons (pv 0) (pa_cons pe_int pa_nil)))))) (pss_cons (ps_set (i := 3) sc_law_great_coder.nd rfl (Or.inl rfl) (pe_lst pa_nil)) (pss_cons (ps_for PassesOwn.never rfl (pi_range1 rfl B.range (pa_cons (pe_ix ix_list (pe_lst (pa_cons pe_int (pa_cons pe_int (pa_cons pe_int (pa_cons pe_int pa_nil))))) (pe_got (fn_law_next B) (hr.mono (by decide)) rfl (pa_cons (pv 0) (pa_cons pe_int pa_nil))) (fun _ _ => rfl)) pa_nil)) (pg_name (i := 4) sc_law_great_coder.nd rfl (Or.inl rfl)) (pss_one (ps_expr (pe_bm PySem.F.plainAttrs_list PySem.F.slot_list_append PySem.F.type_list_append mt_append (pv 3) (pa_cons (pe_tup (pa_cons (pe_op op_sub (pe_got (fn_law_next B) (hr.mono (by decide)) rfl (pa_cons (pv 0) (pa_cons pe_int pa_nil))) pe_int) (pa_cons (pe_op op_sub (pe_got (fn_law_next B) (hr.mono (by decide)) rfl (pa_cons (pv 0) (pa_cons pe_int pa_nil))) pe_int) pa_nil))) pa_nil))))) (pss_one (ps_ret (pe_tup (pa_cons (pv 5) (pa_cons (pv 6) (pa_cons (pe_callTy call_tupQ rfl B.tuple boot_tuple (pa_cons (pv 2) pa_nil)) (pa_cons (pe_callTy call_tupQ rfl B.tuple boot_tuple (pa_cons (pv 3) pa_nil)) (pa_cons (pe_ix ix_list (pe_lst (pa_cons pe_int (pa_cons pe_int (pa_cons pe_int pa_nil)))) (pe_got (fn_law_next B) (hr.mono (by decide)) rfl (pa_cons (pv 0) (pa_cons pe_int pa_nil))) (fun _ _ => rfl)) pa_nil)))))))))))))
theorem fn_law_great_coder (B : Base P w K mg base) : Got P w K mg base 2 "_law_great_coder" ["m"] (sp_law_great_coder K) :=
  got_of B.law_great_coder sc_law_great_coder len_law_great_coder (fun _ _ _ _ _ _ us hl => match us, hl with | [_], _ => rfl) (t_law_great_coder K) (run_law_great_coder) (b_law_great_coder B)
abbrev N_law_block_read : List Str := ["coder", "data", "at", "due", "rest", "k", "top", "low", "high", "many", "row", "here", "thing"]
theorem sc_law_block_read : FnScope N_law_block_read ["coder", "data", "at", "due"] (defScope s_law_block_read) := ⟨rfl, rfl, rfl, by decide +kernel, rfl, by decide +kernel, by decide +kernel⟩
theorem len_law_block_read : ∀ vs H Q E, sp_law_block_read K vs H Q E → vs.length = 4 := pf_len fun _ => rfl
theorem run_law_block_read : ∀ vs H Q E, sp_law_block_read K vs H Q E → t_law_block_read K { nx := fun _ H' => Q .non H', rt := Q } (start N_law_block_read vs) H := pf_run (N := N_law_block_read) fun M x h => sv_law_block_read h.1
theorem b_law_block_read (B : Base P w K mg base) (f : Addr) (cdv : Value) (A : Around) (outer : List Env) (s : Shared) (H : Hp) (E : XK) (hr : Room 1 (A.deeper (envOfC "_law_block_read" (defScope s_law_block_read) s.heap.objs.size f cdv))) :
    PSs (cxOf CX0 P w K mg base N_law_block_read "_law_block_read" (defScope s_law_block_read) f cdv A outer s H E).nox (defBody s_law_block_read) (t_law_block_read K) :=
  (pss_cons (ps_set (i := 4) sc_law_block_read.nd rfl (Or.inl rfl) (pe_op op_cat (pe_callTy call_listQ rfl B.list boot_list (pa_cons (pe_slice sl_tupA (pv 1) (po_some (pv 2)) po_none) pa_nil)) (pe_op op_rep (pe_lst (pa_cons pe_non pa_nil)) pe_int))) (pss_cons (ps_for PassesOwn.never rfl (pi_range1 rfl B.range (pa_cons pe_int pa_nil)) (pg_name (i := 5) sc_law_block_read.nd rfl (Or.inl rfl)) (pss_one (ps_if (pt_not (pt_val (pe_got (fn_law_is_whole B) (hr.mono (by decide)) rfl (pa_cons (pe_ix ix_list (pv 4) (pv 5) (fun _ _ => rfl)) (pa_cons (pe_ix ix_tup (pe_tup (pa_cons pe_int (pa_cons pe_int pa_nil))) (pv 5) (fun _ _ => rfl)) (pa_cons (pe_ix ix_tup (pe_tup (pa_cons pe_int (pa_cons pe_int pa_nil))) (pv 5) (fun _ _ => rfl)) pa_nil)))))) (pss_one (ps_ret (pe_op op_add (pv 2) (pv 5)))) pss_nil))) (pss_cons (ps_asg (pe_ifExp (pt_cmpR op_isNone (pv 3) pe_non (nomark _)) (pe_tup (pa_cons (pe_ix ix_tup (pv 0) pe_int (fun _ _ => rfl)) (pa_cons (pe_ix ix_tup (pv 0) pe_int (fun _ _ => rfl)) pa_nil))) (pe_tup (pa_cons (pe_ix ix_tup (pv 3) pe_int (fun _ _ => rfl)) (pa_cons (pe_ix ix_tup (pv 3) pe_int (fun _ _ => rfl)) pa_nil)))) (pg_tup rfl (pgs_cons (pg_name (i := 7) sc_law_block_read.nd rfl (Or.inl rfl)) (pgs_cons (pg_name (i := 8) sc_law_block_read.nd rfl (Or.inl rfl)) pgs_nil)))) (pss_cons (ps_if (pt_not (pt_val (pe_got (fn_law_is_whole B) (hr.mono (by decide)) rfl (pa_cons (pe_ix ix_list (pv 4) pe_int (fun _ _ => rfl)) (pa_cons pe_int (pa_cons pe_int pa_nil)))))) (pss_one (ps_ret (pe_op op_add (pv 2) pe_int))) pss_nil) (pss_cons (ps_set (i := 6) sc_law_block_read.nd rfl (Or.inl rfl) (pe_op op_mul pe_int (pe_op op_sub (pe_ix ix_list (pv 4) pe_int (fun _ _ => rfl)) (pe_op op_mul pe_int (pe_op op_fdivN (pe_ix ix_list (pv 4) pe_int (fun _ _ => rfl)) pe_int))))) (pss_cons (ps_if (PW.pt (pw_or (pt_cmpR op_gt (pv 6) (pv 8) (nomark _)) (pw_or1 (pt_cmpR op_lt (pe_op op_add (pv 6) pe_int) (pv 7) (nomark _))))) (pss_one (ps_ret (pe_op op_add (pv 2) pe_int))) pss_nil) (pss_cons (ps_if (PW.pt (pw_or (pt_not (pt_val (pe_got (fn_law_is_whole B) (hr.mono (by decide)) rfl (pa_cons (pe_ix ix_list (pv 4) pe_int (fun _ _ => rfl)) (pa_cons pe_int (pa_cons pe_int pa_nil)))))) (pw_or1 (pt_not (pt_chain op_le op_le (pv 7) (pe_op op_add (pv 6) (pe_ix ix_list (pv 4) pe_int (fun _ _ => rfl))) (pv 8)))))) (pss_one (ps_ret (pe_op op_add (pv 2) pe_int))) pss_nil) (pss_cons (ps_if (PW.pt (pw_or (pt_not (pt_val (pe_got (fn_law_is_whole B) (hr.mono (by decide)) rfl (pa_cons (pe_ix ix_list (pv 4) pe_int (fun _ _ => rfl)) (pa_cons pe_int (pa_cons (pe_op op_sub (pe_callB call_lenQ rfl B.len boot_len (pa_cons (pe_ix ix_tup (pv 0) pe_int (fun _ _ => rfl)) pa_nil)) pe_int) pa_nil)))))) (pw_or1 (PW.pt (pw_and (pt_cmpR op_notNone (pv 3) pe_non (nomark _)) (pw_and1 (pt_cmpR op_ne (pe_ix ix_list (pv 4) pe_int (fun _ _ => rfl)) (pe_ix ix_tup (pv 3) pe_int (fun _ _ => rfl)) (nomark _)))))))) (pss_one (ps_ret (pe_op op_add (pv 2) pe_int))) pss_nil) (pss_cons (ps_if (pt_not (pt_val (pe_got (fn_law_is_whole B) (hr.mono (by decide)) rfl (pa_cons (pe_ix ix_list (pv 4) pe_int (fun _ _ => rfl)) (pa_cons pe_int (pa_cons pe_int pa_nil)))))) (pss_one (ps_ret (pe_op op_add (pv 2) pe_int))) pss_nil) (pss_cons (ps_par3 (i := 9) (j := 10) (l := 11) rfl sc_law_block_read.nd rfl rfl rfl (by decide) (by decide) (by decide) rfl rfl rfl (pa_cons (pe_ix ix_list (pv 4) pe_int (fun _ _ => rfl)) (pa_cons (pe_lst pa_nil) (pa_cons (pe_op op_add (pv 2) pe_int) pa_nil))) rfl) (pss_cons (ps_while PassesOwn.never (pt_cmpR op_lt (pe_callB call_lenQ rfl B.len boot_len (pa_cons (pv 10) pa_nil)) (pv 9) (nomark _)) (pss_cons (ps_set (i := 12) sc_law_block_read.nd rfl (Or.inl rfl) (pe_ifExp (pt_cmpR op_lt (pv 11) (pe_callB call_lenQ rfl B.len boot_len (pa_cons (pv 1) pa_nil)) (nomark _)) (pe_ix ix_tup (pv 1) (pv 11) (fun _ _ => rfl)) pe_non)) (pss_cons (ps_if (PW.pt (pw_or (pt_not (pt_val (pe_got (fn_law_is_whole B) (hr.mono (by decide)) rfl (pa_cons (pv 12) (pa_cons pe_int (pa_cons pe_int pa_nil)))))) (pw_or1 (pt_cmpR op_ge (pe_op op_modN (pv 12) pe_int) (pe_callB call_lenQ rfl B.len boot_len (pa_cons (pe_ix ix_tup (pv 0) pe_int (fun _ _ => rfl)) pa_nil)) (nomark _))))) (pss_one (ps_ret (pv 11))) pss_nil) (pss_cons (ps_if (pt_cmpR op_ge (pe_op op_fdivN (pv 12) pe_int) (pe_ifExp (pt_cmpR op_lt (pe_op op_add (pe_callB call_lenQ rfl B.len boot_len (pa_cons (pv 10) pa_nil)) pe_int) (pv 9) (nomark _)) (pe_callB call_lenQ rfl B.len boot_len (pa_cons (pe_ix ix_tup (pv 0) pe_int (fun _ _ => rfl)) pa_nil)) pe_int) (nomark _)) (pss_one (ps_ret (pv 11))) pss_nil) (pss_one (ps_par (i := 10) (j := 11) rfl sc_law_block_read.nd rfl rfl (by decide) rfl rfl (pa_cons (pe_op op_cat (pv 10) (pe_lst (pa_cons (pe_op op_modN (pv 12) pe_int) (pa_cons (pe_op op_fdivN (pv 12) pe_int) pa_nil)))) (pa_cons (pe_op op_add (pv 11) pe_int) pa_nil)) rfl)))))) (pss_cons (ps_if (PW.pt (pw_or (pt_cmpR op_eq (pv 11) (pe_callB call_lenQ rfl B.len boot_len (pa_cons (pv 1) pa_nil)) (nomark _)) (pw_or1 (pt_not (pt_val (pe_got (fn_law_is_whole B) (hr.mono (by decide)) rfl (pa_cons (pe_ix ix_tup (pv 1) (pv 11) (fun _ _ => rfl)) (pa_cons pe_int (pa_cons pe_int pa_nil))))))))) (pss_one (ps_ret (pv 11))) pss_nil) (pss_cons (ps_if (pt_cmpR op_ne (pe_ix ix_tup (pv 1) (pv 11) (fun _ _ => rfl)) (pe_op op_modN (pe_callB (cr_sumT rfl) rfl B.sum boot_sum (pa_cons (pe_slice sl_tupA (pv 1) (po_some (pe_op op_add (pv 2) pe_int)) (po_some (pv 11))) pa_nil)) pe_int) (nomark _)) (pss_one (ps_ret (pv 11))) pss_nil) (pss_one (ps_ret (pe_tup (pa_cons (pe_op op_add (pv 11) pe_int) (pa_cons (pe_tup (pa_cons (pe_op op_add (pv 6) (pe_ix ix_list (pv 4) pe_int (fun _ _ => rfl))) (pa_cons (pe_ix ix_list (pv 4) pe_int (fun _ _ => rfl)) pa_nil))) (pa_cons (pe_callTy call_tupQ rfl B.tuple boot_tuple (pa_cons (pe_slice sl_list (pv 10) po_none (po_some (pv 9))) pa_nil)) pa_nil)))))))))))))))))))
theorem fn_law_block_read (B : Base P w K mg base) : Got P w K mg base 2 "_law_block_read" ["coder", "data", "at", "due"] (sp_law_block_read K) :=
  got_of B.law_block_read sc_law_block_read len_law_block_read (fun _ _ _ _ _ _ us hl => match us, hl with | [_, _, _, _], _ => rfl) (t_law_block_read K) (run_law_block_read) (b_law_block_read B)
abbrev N_law_bent_data : List Str := ["m", "data", "odd", "at", "way", "to"]
theorem sc_law_bent_data : FnScope N_law_bent_data ["m", "data"] (defScope s_law_bent_data) := ⟨rfl, rfl, rfl, by decide +kernel, rfl, by decide +kernel, by decide +kernel⟩
theorem len_law_bent_data : ∀ vs H Q E, sp_law_bent_data K vs H Q E → vs.length = 2 := mf_len fun _ => rfl
theorem run_law_bent_data : ∀ vs H Q E, sp_law_bent_data K vs H Q E → t_law_bent_data K { nx := fun _ H' => Q .non H', rt := Q } (start N_law_bent_data vs) H := mf_run (N := N_law_bent_data) fun m T x h => sv_law_bent_data h.1 h.2
theorem b_law_bent_data (B : Base P w K mg base) (f : Addr) (cdv : Value) (A : Around) (outer : List Env) (s : Shared) (H : Hp) (E : XK) (hr : Room 1 (A.deeper (envOfC "_law_bent_data" (defScope s_law_bent_data) s.heap.objs.size f cdv))) :
    PSs (cxOf CX0 P w K mg base N_law_bent_data "_law_bent_data" (defScope s_law_bent_data) f cdv A outer s H E).nox (defBody s_law_bent_data) (t_law_bent_data K) :=
  (pss_cons (ps_par3 (i := 3) (j := 4) (l := 5) rfl sc_law_bent_data.nd rfl rfl rfl (by decide) (by decide) (by decide) rfl rfl rfl (pa_cons (pe_got (fn_law_next B) (hr.mono (by decide)) rfl (pa_cons (pv 0) (pa_cons (pe_op op_add (pe_callB call_lenQ rfl B.len boot_len (pa_cons (pv 1) pa_nil)) pe_int) pa_nil))) (pa_cons (pe_got (fn_law_next B) (hr.mono (by decide)) rfl (pa_cons (pv 0) (pa_cons pe_int pa_nil))) (pa_cons (pe_got (fn_law_next B) (hr.mono (by decide)) rfl (pa_cons (pv 0) (pa_cons (pe_op op_add (pe_callB call_lenQ rfl B.len boot_len (pa_cons (pv 1) pa_nil)) pe_int) pa_nil))) pa_nil))) rfl) (pss_cons (ps_set (i := 2) sc_law_bent_data.nd rfl (Or.inl rfl) (pe_ix ix_list (pe_lst (pa_cons pe_non (pa_cons pe_bl (pa_cons pe_str (pa_cons (pe_un un_neg pe_int) (pa_cons pe_int (pa_cons (pe_tup (pa_cons pe_int pa_nil)) (pa_cons pe_int (pa_cons pe_int (pa_cons pe_int (pa_cons pe_int (pa_cons pe_int (pa_cons pe_int (pa_cons (pe_lst pa_nil) (pa_cons pe_dnewK (pa_cons (pe_lst (pa_cons pe_int pa_nil)) pa_nil)))))))))))))))) (pe_got (fn_law_next B) (hr.mono (by decide)) rfl (pa_cons (pv 0) (pa_cons pe_int pa_nil))) (fun _ _ => rfl))) (pss_cons (ps_if (pt_cmpR op_lt (pv 4) pe_int (nomark _)) (pss_one (ps_ret (pe_op op_catA (pe_op op_catA (pe_slice sl_tupA (pv 1) po_none (po_some (pv 3))) (pe_tup (pa_cons (pv 2) pa_nil))) (pe_slice sl_tupA (pv 1) (po_some (pe_op op_add (pv 3) pe_int)) po_none)))) pss_nil) (pss_cons (ps_if (pt_cmpR op_eq (pv 4) pe_int (nomark _)) (pss_one (ps_ret (pe_op op_catA (pe_op op_catA (pe_slice sl_tupA (pv 1) po_none (po_some (pv 3))) (pe_tup (pa_cons (pe_got (fn_law_next B) (hr.mono (by decide)) rfl (pa_cons (pv 0) (pa_cons pe_int pa_nil))) pa_nil))) (pe_slice sl_tupA (pv 1) (po_some (pe_op op_add (pv 3) pe_int)) po_none)))) pss_nil) (pss_cons (ps_if (pt_cmpR op_eq (pv 4) pe_int (nomark _)) (pss_cons (ps_if (PW.pt (pw_or (pt_cmpR op_eq (pv 3) (pe_callB call_lenQ rfl B.len boot_len (pa_cons (pv 1) pa_nil)) (nomark _)) (pw_or1 (pt_not (pt_val (pe_callB call_isi rfl B.isinstance boot_isinstance (pa_cons (pe_ix ix_tup (pv 1) (pv 3) (fun _ _ => rfl)) (pa_cons (pe_bltn rfl B.int boot_int rfl) pa_nil)))))))) (pss_one (ps_ret (pe_slice sl_tupA (pv 1) po_none (po_some (pe_un un_neg pe_int))))) pss_nil) (pss_one (ps_ret (pe_op op_catA (pe_op op_catA (pe_slice sl_tupA (pv 1) po_none (po_some (pv 3))) (pe_tup (pa_cons (pe_op op_modN (pe_op op_addB (pe_ix ix_tup (pv 1) (pv 3) (fun _ _ => rfl)) pe_int) pe_int) pa_nil))) (pe_slice sl_tupA (pv 1) (po_some (pe_op op_add (pv 3) pe_int)) po_none))))) pss_nil) (pss_cons (ps_if (pt_cmpR op_eq (pv 4) pe_int (nomark _)) (pss_one (ps_ret (pe_op op_catA (pe_slice sl_tupA (pv 1) po_none (po_some (pv 3))) (pe_slice sl_tupA (pv 1) (po_some (pe_op op_add (pv 3) pe_int)) po_none)))) pss_nil) (pss_cons (ps_if (pt_cmpR op_eq (pv 4) pe_int (nomark _)) (pss_one (ps_ret (pe_op op_catA (pe_op op_catA (pe_slice sl_tupA (pv 1) po_none (po_some (pv 3))) (pe_tup (pa_cons (pv 2) pa_nil))) (pe_slice sl_tupA (pv 1) (po_some (pv 3)) po_none)))) pss_nil) (pss_cons (ps_if (pt_cmpR op_eq (pv 4) pe_int (nomark _)) (pss_one (ps_ret (pe_slice sl_tupA (pv 1) po_none (po_some (pv 3))))) pss_nil) (pss_one (ps_ret (pe_ifExp (pt_cmpR op_eq (pv 4) pe_int (nomark _)) (pe_op op_catA (pe_slice sl_tupA (pv 1) po_none (po_some (pv 3))) (pe_slice sl_tupA (pv 1) (po_some (pv 5)) po_none)) (pe_op op_catA (pv 1) (pe_slice sl_tupA (pv 1) (po_some (pv 3)) po_none)))))))))))))
theorem fn_law_bent_data (B : Base P w K mg base) : Got P w K mg base 2 "_law_bent_data" ["m", "data"] (sp_law_bent_data K) :=
  got_of B.law_bent_data sc_law_bent_data len_law_bent_data (fun _ _ _ _ _ _ us hl => match us, hl with | [_, _], _ => rfl) (t_law_bent_data K) (run_law_bent_data) (b_law_bent_data B)
abbrev N_cd_row_fault : List Str := ["part", "row", "least", "most", "number", "thing"]
theorem sc_cd_row_fault : FnScope N_cd_row_fault ["part", "row", "least", "most"] (defScope s_cd_row_fault) := ⟨rfl, rfl, rfl, by decide +kernel, rfl, by decide +kernel, by decide +kernel⟩
theorem len_cd_row_fault : ∀ vs H Q E, sp_cd_row_fault K vs H Q E → vs.length = 4 := pf_len fun _ => rfl
theorem run_cd_row_fault : ∀ vs H Q E, sp_cd_row_fault K vs H Q E → t_cd_row_fault K { nx := fun _ H' => Q .non H', rt := Q } (start N_cd_row_fault vs) H := pf_run (N := N_cd_row_fault) fun M x h => sv_cd_row_fault h.1 h.2
theorem b_cd_row_fault (B : Base P w K mg base) (f : Addr) (cdv : Value) (A : Around) (outer : List Env) (s : Shared) (H : Hp) (E : XK) (hr : Room 2 (A.deeper (envOfC "cd_row_fault" (defScope s_cd_row_fault) s.heap.objs.size f cdv))) :
    PSs (cxOf CX0 P w K mg base N_cd_row_fault "cd_row_fault" (defScope s_cd_row_fault) f cdv A outer s H E).nox (defBody s_cd_row_fault) (t_cd_row_fault K) :=
  (pss_cons (ps_if (PW.pt (pw_or (pt_not (pt_val (pe_callB call_isi rfl B.isinstance boot_isinstance (pa_cons (pv 1) (pa_cons (pe_bltn rfl B.tuple boot_tuple rfl) pa_nil))))) (pw_or1 (pt_not (pt_chain op_le op_le (pv 2) (pe_callB call_lenQ rfl B.len boot_len (pa_cons (pv 1) pa_nil)) (pv 3)))))) (pss_one (ps_ret (pe_tup (pa_cons (pv 0) (pa_cons pe_non pa_nil))))) pss_nil) (pss_cons (ps_for PassesOwn.never rfl (pi_enumT rfl B.enumerate (pa_cons (pv 1) pa_nil)) (pg_tup rfl (pgs_cons (pg_name (i := 4) sc_cd_row_fault.nd rfl (Or.inl rfl)) (pgs_cons (pg_name (i := 5) sc_cd_row_fault.nd rfl (Or.inl rfl)) pgs_nil))) (pss_one (ps_if (pt_not (pt_ifExp (pt_cmpR op_eq (pv 0) pe_str (nomark _)) (pt_val (pe_got (fn_is_whole B) (hr.mono (by decide)) rfl (pa_cons (pv 5) (pa_cons pe_int (pa_cons pe_int pa_nil))))) (pt_val (pe_got (fn_cd_is_move B) (hr.mono (by decide)) rfl (pa_cons (pv 5) pa_nil))))) (pss_one (ps_ret (pe_tup (pa_cons (pv 0) (pa_cons (pv 4) pa_nil))))) pss_nil))) (pss_one (ps_ret pe_non))))
theorem fn_cd_row_fault (B : Base P w K mg base) : Got P w K mg base 3 "cd_row_fault" ["part", "row", "least", "most"] (sp_cd_row_fault K) :=
  got_of B.cd_row_fault sc_cd_row_fault len_cd_row_fault (fun _ _ _ _ _ _ us hl => match us, hl with | [_, _, _, _], _ => rfl) (t_cd_row_fault K) (run_cd_row_fault) (b_cd_row_fault B)
abbrev N_next_state : List Str := ["coder", "state", "code", "faded", "further", "low", "high", "steps", "moves", "fade", "level", "place"]
theorem sc_next_state : FnScope N_next_state ["coder", "state", "code"] (defScope s_next_state) := ⟨rfl, rfl, rfl, by decide +kernel, rfl, by decide +kernel, by decide +kernel⟩
theorem len_next_state : ∀ vs H Q E, sp_next_state K vs H Q E → vs.length = 3 := pf_len fun _ => rfl
theorem run_next_state : ∀ vs H Q E, sp_next_state K vs H Q E → t_next_state K { nx := fun _ H' => Q .non H', rt := Q } (start N_next_state vs) H := pf_run (N := N_next_state) fun M x h => sv_next_state h
theorem b_next_state (B : Base P w K mg base) (f : Addr) (cdv : Value) (A : Around) (outer : List Env) (s : Shared) (H : Hp) (E : XK) (hr : Room 2 (A.deeper (envOfC "next_state" (defScope s_next_state) s.heap.objs.size f cdv))) :
    PSs (cxOf CX0 P w K mg base N_next_state "next_state" (defScope s_next_state) f cdv A outer s H E).nox (defBody s_next_state) (t_next_state K) :=
  (pss_cons (ps_asg (pv 0) (pg_tup rfl (pgs_cons (pg_name (i := 5) sc_next_state.nd rfl (Or.inl rfl)) (pgs_cons (pg_name (i := 6) sc_next_state.nd rfl (Or.inl rfl)) (pgs_cons (pg_name (i := 7) sc_next_state.nd rfl (Or.inl rfl)) (pgs_cons (pg_name (i := 8) sc_next_state.nd rfl (Or.inl rfl)) (pgs_cons (pg_name (i := 9) sc_next_state.nd rfl (Or.inl rfl)) pgs_nil))))))) (pss_cons (ps_asg (pv 1) (pg_tup rfl (pgs_cons (pg_name (i := 10) sc_next_state.nd rfl (Or.inl rfl)) (pgs_cons (pg_name (i := 11) sc_next_state.nd rfl (Or.inl rfl)) pgs_nil)))) (pss_cons (ps_set (i := 3) sc_next_state.nd rfl (Or.inl rfl) (pe_ifExp (pt_cmpR op_eq (pv 9) pe_int (nomark _)) (pv 10) (pe_op op_sub (pv 10) (pe_got (fn_divided B) (hr.mono (by decide)) rfl (pa_cons (pv 10) (pa_cons (pv 9) pa_nil)))))) (pss_cons (ps_set (i := 4) sc_next_state.nd rfl (Or.inl rfl) (pe_op op_add (pv 11) (pe_ix ix_tup (pe_ix ix_tup (pv 8) (pv 2) (fun _ _ => rfl)) pe_int (fun _ _ => rfl)))) (pss_one (ps_ret (pe_tup (pa_cons (pe_callB (call_minQ rfl) rfl B.min boot_min (pa_cons (pv 6) (pa_cons (pe_callB (call_maxQ rfl) rfl B.max boot_max (pa_cons (pv 5) (pa_cons (pe_op op_add (pv 3) (pe_got (fn_moved_by B) (hr.mono (by decide)) rfl (pa_cons (pv 0) (pa_cons (pv 2) (pa_cons (pv 11) pa_nil))))) pa_nil))) pa_nil))) (pa_cons (pe_callB (call_minQ rfl) rfl B.min boot_min (pa_cons (pe_op op_sub (pe_callB call_lenQ rfl B.len boot_len (pa_cons (pv 7) pa_nil)) pe_int) (pa_cons (pe_callB (call_maxQ rfl) rfl B.max boot_max (pa_cons pe_int (pa_cons (pv 4) pa_nil))) pa_nil))) pa_nil)))))))))
theorem fn_next_state (B : Base P w K mg base) : Got P w K mg base 3 "next_state" ["coder", "state", "code"] (sp_next_state K) :=
  got_of B.next_state sc_next_state len_next_state (fun _ _ _ _ _ _ us hl => match us, hl with | [_, _, _], _ => rfl) (t_next_state K) (run_next_state) (b_next_state B)
abbrev N_bk_head_fault : List Str := ["coder", "data", "at", "state", "tops", "number", "mark", "low", "high", "least", "most", "level"]
theorem sc_bk_head_fault : FnScope N_bk_head_fault ["coder", "data", "at", "state"] (defScope s_bk_head_fault) := ⟨rfl, rfl, rfl, by decide +kernel, rfl, by decide +kernel, by decide +kernel⟩
theorem len_bk_head_fault : ∀ vs H Q E, sp_bk_head_fault K vs H Q E → vs.length = 4 := pf_len fun _ => rfl
theorem run_bk_head_fault {mk : Addr} (hk : ∀ mm W, Is K mm W (.ref mk) (.tuple [.int 165, .int 90])) : ∀ vs H Q E, sp_bk_head_fault K vs H Q E → t_bk_head_fault K mk { nx := fun _ H' => Q .non H', rt := Q } (start N_bk_head_fault vs) H := pf_run (N := N_bk_head_fault) fun M x h => sv_bk_head_fault hk h
theorem b_bk_head_fault (B : Base P w K mg base) (f : Addr) (cdv : Value) (A : Around) (outer : List Env) (s : Shared) (H : Hp) (E : XK) (hr : Room 2 (A.deeper (envOfC "bk_head_fault" (defScope s_bk_head_fault) s.heap.objs.size f cdv))) :
    PSs (cxOf CX0 P w K mg base N_bk_head_fault "bk_head_fault" (defScope s_bk_head_fault) f cdv A outer s H E).nox (defBody s_bk_head_fault) (t_bk_head_fault K (mkA K)) :=
  (pss_cons (ps_for PassesOwn.never rfl (pi_enumT rfl B.enumerate (pa_cons (pe_glob rfl B.MARK rfl) pa_nil)) (pg_tup rfl (pgs_cons (pg_name (i := 5) sc_bk_head_fault.nd rfl (Or.inl rfl)) (pgs_cons (pg_name (i := 6) sc_bk_head_fault.nd rfl (Or.inl rfl)) pgs_nil))) (pss_one (ps_if (pt_not (pt_val (pe_got (fn_bk_is_byte B) (hr.mono (by decide)) rfl (pa_cons (pv 1) (pa_cons (pe_op op_add (pv 2) (pv 5)) (pa_cons (pv 6) (pa_cons (pv 6) pa_nil))))))) (pss_one (ps_ret (pe_op op_add (pv 2) (pv 5)))) pss_nil))) (pss_cons (ps_asg (pe_ifExp (pt_cmpR op_isNone (pv 3) pe_non (nomark _)) (pe_tup (pa_cons (pe_ix ix_tup (pv 0) pe_int (fun _ _ => rfl)) (pa_cons (pe_ix ix_tup (pv 0) pe_int (fun _ _ => rfl)) pa_nil))) (pe_tup (pa_cons (pe_ix ix_tup (pv 3) pe_int (fun _ _ => rfl)) (pa_cons (pe_ix ix_tup (pv 3) pe_int (fun _ _ => rfl)) pa_nil)))) (pg_tup rfl (pgs_cons (pg_name (i := 7) sc_bk_head_fault.nd rfl (Or.inl rfl)) (pgs_cons (pg_name (i := 8) sc_bk_head_fault.nd rfl (Or.inl rfl)) pgs_nil)))) (pss_cons (ps_setLc (i := 4) (own := [("level", 11)]) (g := gName 11) rfl sc_bk_head_fault.nd rfl rfl (sw_true rfl rfl rfl (by decide +kernel)) (pi_tup (pe_tup (pa_cons (pv 7) (pa_cons (pv 8) pa_nil)))) (blkOk_by (N := N_bk_head_fault) (sc := defScope s_bk_head_fault) (by decide +kernel)) (fun _ _ _ _ _ => pg_name (i := 11) sc_bk_head_fault.nd rfl (Or.inl rfl)) (fun _ _ _ _ _ => pts_nil) (fun _ _ _ _ _ => (pe_got (fn_bk_signed B) (hr.mono (by decide)) rfl (pa_cons (pe_ix ix_tup (pe_got (fn_bk_level B) (hr.mono (by decide)) rfl (pa_cons (pv 11) pa_nil)) pe_int (fun _ _ => rfl)) pa_nil)))) (pss_cons (ps_if (PW.pt (pw_or (pt_not (pt_val (pe_got (fn_bk_is_byte B) (hr.mono (by decide)) rfl (pa_cons (pv 1) (pa_cons (pe_op op_add (pv 2) pe_int) (pa_cons pe_int (pa_cons pe_int pa_nil))))))) (pw_or1 (pt_not (pt_chain op_le op_le (pe_ix ix_list (pv 4) pe_int (fun _ _ => rfl)) (pe_got (fn_bk_signed B) (hr.mono (by decide)) rfl (pa_cons (pe_ix ix_tup (pv 1) (pe_op op_add (pv 2) pe_int) (fun _ _ => rfl)) pa_nil)) (pe_ix ix_list (pv 4) pe_int (fun _ _ => rfl))))))) (pss_one (ps_ret (pe_op op_add (pv 2) pe_int))) pss_nil) (pss_cons (ps_if (PW.pt (pw_or (pt_not (pt_val (pe_got (fn_bk_is_byte B) (hr.mono (by decide)) rfl (pa_cons (pv 1) (pa_cons (pe_op op_add (pv 2) pe_int) (pa_cons pe_int (pa_cons pe_int pa_nil))))))) (pw_or1 (pt_not (pt_chain op_le op_le (pv 7) (pe_got (fn_bk_number B) (hr.mono (by decide)) rfl (pa_cons (pe_ix ix_tup (pv 1) (pe_op op_add (pv 2) pe_int) (fun _ _ => rfl)) (pa_cons (pe_ix ix_tup (pv 1) (pe_op op_add (pv 2) pe_int) (fun _ _ => rfl)) pa_nil))) (pv 8)))))) (pss_one (ps_ret (pe_op op_add (pv 2) pe_int))) pss_nil) (pss_cons (ps_asg (pe_ifExp (pt_cmpR op_isNone (pv 3) pe_non (nomark _)) (pe_tup (pa_cons pe_int (pa_cons (pe_op op_sub (pe_callB call_lenQ rfl B.len boot_len (pa_cons (pe_ix ix_tup (pv 0) pe_int (fun _ _ => rfl)) pa_nil)) pe_int) pa_nil))) (pe_tup (pa_cons (pe_ix ix_tup (pv 3) pe_int (fun _ _ => rfl)) (pa_cons (pe_ix ix_tup (pv 3) pe_int (fun _ _ => rfl)) pa_nil)))) (pg_tup rfl (pgs_cons (pg_name (i := 9) sc_bk_head_fault.nd rfl (Or.inl rfl)) (pgs_cons (pg_name (i := 10) sc_bk_head_fault.nd rfl (Or.inl rfl)) pgs_nil)))) (pss_cons (ps_if (pt_not (pt_val (pe_got (fn_bk_is_byte B) (hr.mono (by decide)) rfl (pa_cons (pv 1) (pa_cons (pe_op op_add (pv 2) pe_int) (pa_cons (pv 9) (pa_cons (pv 10) pa_nil))))))) (pss_one (ps_ret (pe_op op_add (pv 2) pe_int))) pss_nil) (pss_one (ps_ret (pe_ifExp (pt_val (pe_got (fn_bk_is_byte B) (hr.mono (by decide)) rfl (pa_cons (pv 1) (pa_cons (pe_op op_add (pv 2) pe_int) (pa_cons pe_int (pa_cons (pe_glob rfl B.MOST_BLOCK.choose_spec ⟨_, rfl⟩) pa_nil)))))) pe_non (pe_op op_add (pv 2) pe_int)))))))))))
theorem fn_bk_head_fault (B : Base P w K mg base) : Got P w K mg base 3 "bk_head_fault" ["coder", "data", "at", "state"] (sp_bk_head_fault K) :=
  got_of B.bk_head_fault sc_bk_head_fault len_bk_head_fault (fun _ _ _ _ _ _ us hl => match us, hl with | [_, _, _, _], _ => rfl) (t_bk_head_fault K (mkA K)) (run_bk_head_fault B.mkT) (b_bk_head_fault B)
abbrev N_bk_codes : List Str := ["coder", "data", "at", "many", "codes", "number", "here", "pair"]
theorem sc_bk_codes : FnScope N_bk_codes ["coder", "data", "at", "many"] (defScope s_bk_codes) := ⟨rfl, rfl, rfl, by decide +kernel, rfl, by decide +kernel, by decide +kernel⟩
theorem len_bk_codes : ∀ vs H Q E, sp_bk_codes K vs H Q E → vs.length = 4 := pf_len fun _ => rfl
theorem run_bk_codes : ∀ vs H Q E, sp_bk_codes K vs H Q E → t_bk_codes K { nx := fun _ H' => Q .non H', rt := Q } (start N_bk_codes vs) H := pf_run (N := N_bk_codes) fun M x h => sv_bk_codes h.1 h.2.1 h.2.2
theorem b_bk_codes (B : Base P w K mg base) (f : Addr) (cdv : Value) (A : Around) (outer : List Env) (s : Shared) (H : Hp) (E : XK) (hr : Room 2 (A.deeper (envOfC "bk_codes" (defScope s_bk_codes) s.heap.objs.size f cdv))) :
    PSs (cxOf CX0 P w K mg base N_bk_codes "bk_codes" (defScope s_bk_codes) f cdv A outer s H E).nox (defBody s_bk_codes) (t_bk_codes K) :=
  (pss_cons (ps_set (i := 4) sc_bk_codes.nd rfl (Or.inl rfl) (pe_lst pa_nil)) (pss_cons (ps_for PassesOwn.never rfl (pi_range1 rfl B.range (pa_cons (pe_op op_fdivN (pe_op op_add (pv 3) pe_int) pe_int) pa_nil)) (pg_name (i := 5) sc_bk_codes.nd rfl (Or.inl rfl)) (pss_cons (ps_set (i := 6) sc_bk_codes.nd rfl (Or.inl rfl) (pe_op op_add (pv 2) (pv 5))) (pss_cons (ps_if (pt_not (pt_val (pe_got (fn_bk_is_byte B) (hr.mono (by decide)) rfl (pa_cons (pv 1) (pa_cons (pv 6) (pa_cons pe_int (pa_cons pe_int pa_nil))))))) (pss_one (ps_ret (pe_tup (pa_cons (pv 4) (pa_cons (pv 6) pa_nil))))) pss_nil) (pss_cons (ps_set (i := 7) sc_bk_codes.nd rfl (Or.inl rfl) (pe_lst (pa_cons (pe_op op_and (pe_ix ix_tup (pv 1) (pv 6) (fun _ _ => rfl)) pe_int) (pa_cons (pe_op op_shr (pe_ix ix_tup (pv 1) (pv 6) (fun _ _ => rfl)) pe_int) pa_nil)))) (pss_cons (ps_if (PW.pt (pw_or (pt_cmpR op_ge (pe_ix ix_list (pv 7) pe_int (fun _ _ => rfl)) (pe_callB call_lenQ rfl B.len boot_len (pa_cons (pe_ix ix_tup (pv 0) pe_int (fun _ _ => rfl)) pa_nil)) (nomark _)) (pw_or (pt_cmpR op_ge (pe_ix ix_list (pv 7) pe_int (fun _ _ => rfl)) (pe_callB call_lenQ rfl B.len boot_len (pa_cons (pe_ix ix_tup (pv 0) pe_int (fun _ _ => rfl)) pa_nil)) (nomark _)) (pw_or1 (PW.pt (pw_and (pt_cmpR op_eq (pe_op op_add (pe_op op_mul pe_int (pv 5)) pe_int) (pv 3) (nomark _)) (pw_and1 (pt_cmpR op_ne (pe_ix ix_list (pv 7) pe_int (fun _ _ => rfl)) pe_int (nomark _))))))))) (pss_one (ps_ret (pe_tup (pa_cons (pv 4) (pa_cons (pv 6) pa_nil))))) pss_nil) (pss_one (ps_set (i := 4) sc_bk_codes.nd rfl (Or.inl rfl) (pe_op op_cat (pv 4) (pv 7))))))))) (pss_one (ps_ret (pe_tup (pa_cons (pe_slice sl_list (pv 4) po_none (po_some (pv 3))) (pa_cons pe_non pa_nil)))))))
theorem fn_bk_codes (B : Base P w K mg base) : Got P w K mg base 3 "bk_codes" ["coder", "data", "at", "many"] (sp_bk_codes K) :=
  got_of B.bk_codes sc_bk_codes len_bk_codes (fun _ _ _ _ _ _ us hl => match us, hl with | [_, _, _, _], _ => rfl) (t_bk_codes K) (run_bk_codes) (b_bk_codes B)
abbrev N_law_walked : List Str := ["coder", "here", "row", "found", "code"]
theorem sc_law_walked : FnScope N_law_walked ["coder", "here", "row"] (defScope s_law_walked) := ⟨rfl, rfl, rfl, by decide +kernel, rfl, by decide +kernel, by decide +kernel⟩
theorem len_law_walked : ∀ vs H Q E, sp_law_walked K vs H Q E → vs.length = 3 := pf_len fun _ => rfl
theorem run_law_walked : ∀ vs H Q E, sp_law_walked K vs H Q E → t_law_walked K { nx := fun _ H' => Q .non H', rt := Q } (start N_law_walked vs) H := pf_run (N := N_law_walked) fun M x h => sv_law_walked h
theorem b_law_walked (B : Base P w K mg base) (f : Addr) (cdv : Value) (A : Around) (outer : List Env) (s : Shared) (H : Hp) (E : XK) (hr : Room 2 (A.deeper (envOfC "_law_walked" (defScope s_law_walked) s.heap.objs.size f cdv))) :
    PSs (cxOf CX0 P w K mg base N_law_walked "_law_walked" (defScope s_law_walked) f cdv A outer s H E).nox (defBody s_law_walked) (t_law_walked K) :=
  (pss_cons (ps_set (i := 3) sc_law_walked.nd rfl (Or.inl rfl) (pe_lst (pa_cons (pv 1) pa_nil))) (pss_cons (ps_for PassesOwn.never rfl (pi_tup (pv 2)) (pg_name (i := 4) sc_law_walked.nd rfl (Or.inl rfl)) (pss_one (ps_expr (pe_bm PySem.F.plainAttrs_list PySem.F.slot_list_append PySem.F.type_list_append mt_append (pv 3) (pa_cons (pe_got (fn_law_led B) (hr.mono (by decide)) rfl (pa_cons (pv 0) (pa_cons (pe_ix ix_list (pv 3) (pe_un un_neg pe_int) (fun _ _ => rfl)) (pa_cons (pv 4) pa_nil)))) pa_nil))))) (pss_one (ps_ret (pv 3)))))
theorem fn_law_walked (B : Base P w K mg base) : Got P w K mg base 3 "_law_walked" ["coder", "here", "row"] (sp_law_walked K) :=
  got_of B.law_walked sc_law_walked len_law_walked (fun _ _ _ _ _ _ us hl => match us, hl with | [_, _, _], _ => rfl) (t_law_walked K) (run_law_walked) (b_law_walked B)
abbrev N_coder_fault : List Str := ["thing", "fault", "low", "high", "steps", "moves", "fade"]
theorem sc_coder_fault : FnScope N_coder_fault ["thing"] (defScope s_coder_fault) := ⟨rfl, rfl, rfl, by decide +kernel, rfl, by decide +kernel, by decide +kernel⟩
theorem len_coder_fault : ∀ vs H Q E, sp_coder_fault K vs H Q E → vs.length = 1 := pf_len fun _ => rfl
theorem run_coder_fault : ∀ vs H Q E, sp_coder_fault K vs H Q E → t_coder_fault K { nx := fun _ H' => Q .non H', rt := Q } (start N_coder_fault vs) H := pf_run (N := N_coder_fault) fun M x h => sv_coder_fault h
theorem b_coder_fault (B : Base P w K mg base) (f : Addr) (cdv : Value) (A : Around) (outer : List Env) (s : Shared) (H : Hp) (E : XK) (hr : Room 3 (A.deeper (envOfC "coder_fault" (defScope s_coder_fault) s.heap.objs.size f cdv))) :
    PSs (cxOf CX0 P w K mg base N_coder_fault "coder_fault" (defScope s_coder_fault) f cdv A outer s H E).nox (defBody s_coder_fault) (t_coder_fault K) :=
  (pss_cons (ps_if (PW.pt (pw_or (pt_not (pt_val (pe_callB call_isi rfl B.isinstance boot_isinstance (pa_cons (pv 0) (pa_cons (pe_bltn rfl B.tuple boot_tuple rfl) pa_nil))))) (pw_or1 (pt_cmpR op_ne (pe_callB call_lenQ rfl B.len boot_len (pa_cons (pv 0) pa_nil)) pe_int (nomark _))))) (pss_one (ps_ret (pe_tup (pa_cons pe_str (pa_cons pe_non pa_nil))))) pss_nil) (pss_cons (ps_asg (pv 0) (pg_tup rfl (pgs_cons (pg_name (i := 2) sc_coder_fault.nd rfl (Or.inl rfl)) (pgs_cons (pg_name (i := 3) sc_coder_fault.nd rfl (Or.inl rfl)) (pgs_cons (pg_name (i := 4) sc_coder_fault.nd rfl (Or.inl rfl)) (pgs_cons (pg_name (i := 5) sc_coder_fault.nd rfl (Or.inl rfl)) (pgs_cons (pg_name (i := 6) sc_coder_fault.nd rfl (Or.inl rfl)) pgs_nil))))))) (pss_cons (ps_if (pt_not (pt_val (pe_got (fn_is_whole B) (hr.mono (by decide)) rfl (pa_cons (pv 2) (pa_cons (pe_un un_neg pe_int) (pa_cons pe_int pa_nil)))))) (pss_one (ps_ret (pe_tup (pa_cons pe_str (pa_cons pe_non pa_nil))))) pss_nil) (pss_cons (ps_if (pt_not (pt_val (pe_got (fn_is_whole B) (hr.mono (by decide)) rfl (pa_cons (pv 3) (pa_cons pe_int (pa_cons pe_int pa_nil)))))) (pss_one (ps_ret (pe_tup (pa_cons pe_str (pa_cons pe_non pa_nil))))) pss_nil) (pss_cons (ps_set (i := 1) sc_coder_fault.nd rfl (Or.inl rfl) (pe_got (fn_cd_row_fault B) (hr.mono (by decide)) rfl (pa_cons pe_str (pa_cons (pv 4) (pa_cons pe_int (pa_cons (pe_glob rfl B.MOST_STEPS.choose_spec ⟨_, rfl⟩) pa_nil)))))) (pss_cons (ps_if (pt_cmpR op_isNone (pv 1) pe_non (nomark _)) (pss_one (ps_set (i := 1) sc_coder_fault.nd rfl (Or.inl rfl) (pe_got (fn_cd_row_fault B) (hr.mono (by decide)) rfl (pa_cons pe_str (pa_cons (pv 5) (pa_cons pe_int (pa_cons (pe_glob rfl B.MOST_MOVES.choose_spec ⟨_, rfl⟩) pa_nil))))))) pss_nil) (pss_cons (ps_if (PW.pt (pw_and (pt_cmpR op_isNone (pv 1) pe_non (nomark _)) (pw_and (pt_not (pt_val (pe_got (fn_is_whole B) (hr.mono (by decide)) rfl (pa_cons (pv 6) (pa_cons pe_int (pa_cons pe_int pa_nil)))))) (pw_and1 (pt_not (pt_val (pe_got (fn_is_whole B) (hr.mono (by decide)) rfl (pa_cons (pv 6) (pa_cons pe_int (pa_cons pe_int pa_nil)))))))))) (pss_one (ps_set (i := 1) sc_coder_fault.nd rfl (Or.inl rfl) (pe_tup (pa_cons pe_str (pa_cons pe_non pa_nil))))) pss_nil) (pss_one (ps_ret (pv 1))))))))))
theorem fn_coder_fault (B : Base P w K mg base) : Got P w K mg base 4 "coder_fault" ["thing"] (sp_coder_fault K) :=
  got_of B.coder_fault sc_coder_fault len_coder_fault (fun _ _ _ _ _ _ us hl => match us, hl with | [_], _ => rfl) (t_coder_fault K) (run_coder_fault) (b_coder_fault B)
abbrev N_walked : List Str := ["coder", "state", "row", "code"]
theorem sc_walked : FnScope N_walked ["coder", "state", "row"] (defScope s_walked) := ⟨rfl, rfl, rfl, by decide +kernel, rfl, by decide +kernel, by decide +kernel⟩
theorem len_walked : ∀ vs H Q E, sp_walked K vs H Q E → vs.length = 3 := pf_len fun _ => rfl
theorem run_walked : ∀ vs H Q E, sp_walked K vs H Q E → t_walked K { nx := fun _ H' => Q .non H', rt := Q } (start N_walked vs) H := pf_run (N := N_walked) fun M x h => sv_walked h
theorem b_walked (B : Base P w K mg base) (f : Addr) (cdv : Value) (A : Around) (outer : List Env) (s : Shared) (H : Hp) (E : XK) (hr : Room 3 (A.deeper (envOfC "walked" (defScope s_walked) s.heap.objs.size f cdv))) :
    PSs (cxOf CX0 P w K mg base N_walked "walked" (defScope s_walked) f cdv A outer s H E).nox (defBody s_walked) (t_walked K) :=
  (pss_cons (ps_for PassesOwn.never rfl (pi_tup (pv 2)) (pg_name (i := 3) sc_walked.nd rfl (Or.inl rfl)) (pss_one (ps_set (i := 1) sc_walked.nd rfl (Or.inl rfl) (pe_got (fn_next_state B) (hr.mono (by decide)) rfl (pa_cons (pv 0) (pa_cons (pv 1) (pa_cons (pv 3) pa_nil))))))) (pss_one (ps_ret (pv 1))))
theorem fn_walked (B : Base P w K mg base) : Got P w K mg base 4 "walked" ["coder", "state", "row"] (sp_walked K) :=
  got_of B.walked sc_walked len_walked (fun _ _ _ _ _ _ us hl => match us, hl with | [_, _, _], _ => rfl) (t_walked K) (run_walked) (b_walked B)
abbrev N_bk_read : List Str := ["coder", "data", "at", "state", "fault", "many", "end", "due", "codes"]
theorem sc_bk_read : FnScope N_bk_read ["coder", "data", "at", "state"] (defScope s_bk_read) := ⟨rfl, rfl, rfl, by decide +kernel, rfl, by decide +kernel, by decide +kernel⟩
theorem len_bk_read : ∀ vs H Q E, sp_bk_read K vs H Q E → vs.length = 4 := pf_len fun _ => rfl
theorem run_bk_read : ∀ vs H Q E, sp_bk_read K vs H Q E → t_bk_read K { nx := fun _ H' => Q .non H', rt := Q } (start N_bk_read vs) H := pf_run (N := N_bk_read) fun M x h => sv_bk_read h
theorem b_bk_read (B : Base P w K mg base) (f : Addr) (cdv : Value) (A : Around) (outer : List Env) (s : Shared) (H : Hp) (E : XK) (hr : Room 3 (A.deeper (envOfC "bk_read" (defScope s_bk_read) s.heap.objs.size f cdv))) :
    PSs (cxOf CX0 P w K mg base N_bk_read "bk_read" (defScope s_bk_read) f cdv A outer s H E).nox (defBody s_bk_read) (t_bk_read K) :=
  (pss_cons (ps_set (i := 4) sc_bk_read.nd rfl (Or.inl rfl) (pe_got (fn_bk_head_fault B) (hr.mono (by decide)) rfl (pa_cons (pv 0) (pa_cons (pv 1) (pa_cons (pv 2) (pa_cons (pv 3) pa_nil)))))) (pss_cons (ps_if (pt_cmpR op_notNone (pv 4) pe_non (nomark _)) (pss_one (ps_ret (pe_tup (pa_cons (pv 4) (pa_cons pe_non (pa_cons pe_non pa_nil)))))) pss_nil) (pss_cons (ps_set (i := 5) sc_bk_read.nd rfl (Or.inl rfl) (pe_ix ix_tup (pv 1) (pe_op op_add (pv 2) pe_int) (fun _ _ => rfl))) (pss_cons (ps_asg (pe_got (fn_bk_codes B) (hr.mono (by decide)) rfl (pa_cons (pv 0) (pa_cons (pv 1) (pa_cons (pe_op op_add (pv 2) (pe_glob rfl B.HEAD.choose_spec ⟨_, rfl⟩)) (pa_cons (pv 5) pa_nil))))) (pg_tup rfl (pgs_cons (pg_name (i := 8) sc_bk_read.nd rfl (Or.inl rfl)) (pgs_cons (pg_name (i := 4) sc_bk_read.nd rfl (Or.inl rfl)) pgs_nil)))) (pss_cons (ps_if (pt_cmpR op_notNone (pv 4) pe_non (nomark _)) (pss_one (ps_ret (pe_tup (pa_cons (pv 4) (pa_cons pe_non (pa_cons pe_non pa_nil)))))) pss_nil) (pss_cons (ps_set (i := 6) sc_bk_read.nd rfl (Or.inl rfl) (pe_op op_add (pe_op op_add (pv 2) (pe_glob rfl B.HEAD.choose_spec ⟨_, rfl⟩)) (pe_op op_fdivN (pe_op op_add (pv 5) pe_int) pe_int))) (pss_cons (ps_set (i := 7) sc_bk_read.nd rfl (Or.inl rfl) (pe_op op_and (pe_callB (cr_sumT rfl) rfl B.sum boot_sum (pa_cons (pe_slice sl_tupA (pv 1) (po_some (pe_op op_add (pv 2) pe_int)) (po_some (pv 6))) pa_nil)) pe_int)) (pss_cons (ps_if (pt_not (pt_val (pe_got (fn_bk_is_byte B) (hr.mono (by decide)) rfl (pa_cons (pv 1) (pa_cons (pv 6) (pa_cons (pv 7) (pa_cons (pv 7) pa_nil))))))) (pss_one (ps_ret (pe_tup (pa_cons (pv 6) (pa_cons pe_non (pa_cons pe_non pa_nil)))))) pss_nil) (pss_one (ps_ret (pe_tup (pa_cons (pe_op op_add (pv 6) pe_int) (pa_cons (pe_tup (pa_cons (pe_got (fn_bk_number B) (hr.mono (by decide)) rfl (pa_cons (pe_ix ix_tup (pv 1) (pe_op op_add (pv 2) pe_int) (fun _ _ => rfl)) (pa_cons (pe_ix ix_tup (pv 1) (pe_op op_add (pv 2) pe_int) (fun _ _ => rfl)) pa_nil))) (pa_cons (pe_ix ix_tup (pv 1) (pe_op op_add (pv 2) pe_int) (fun _ _ => rfl)) pa_nil))) (pa_cons (pe_callTy call_tupQ rfl B.tuple boot_tuple (pa_cons (pv 8) pa_nil)) pa_nil))))))))))))))
theorem fn_bk_read (B : Base P w K mg base) : Got P w K mg base 4 "bk_read" ["coder", "data", "at", "state"] (sp_bk_read K) :=
  got_of B.bk_read sc_bk_read len_bk_read (fun _ _ _ _ _ _ us hl => match us, hl with | [_, _, _, _], _ => rfl) (t_bk_read K) (run_bk_read) (b_bk_read B)
abbrev N_law_file : List Str := ["coder", "row", "sizes", "here", "found", "at", "k", "size"]
theorem sc_law_file : FnScope N_law_file ["coder", "row", "sizes", "here"] (defScope s_law_file) := ⟨rfl, rfl, rfl, by decide +kernel, rfl, by decide +kernel, by decide +kernel⟩
theorem len_law_file : ∀ vs H Q E, sp_law_file K vs H Q E → vs.length = 4 := pf_len fun _ => rfl
theorem run_law_file : ∀ vs H Q E, sp_law_file K vs H Q E → t_law_file K { nx := fun _ H' => Q .non H', rt := Q } (start N_law_file vs) H := pf_run (N := N_law_file) fun M x h => sv_law_file h
theorem b_law_file (B : Base P w K mg base) (f : Addr) (cdv : Value) (A : Around) (outer : List Env) (s : Shared) (H : Hp) (E : XK) (hr : Room 3 (A.deeper (envOfC "_law_file" (defScope s_law_file) s.heap.objs.size f cdv))) :
    PSs (cxOf CX0 P w K mg base N_law_file "_law_file" (defScope s_law_file) f cdv A outer s H E).nox (defBody s_law_file) (t_law_file K) :=
  (pss_cons (ps_asg (pe_tup (pa_cons (pe_tup pa_nil) (pa_cons pe_int (pa_cons pe_int pa_nil)))) (pg_tup rfl (pgs_cons (pg_name (i := 4) sc_law_file.nd rfl (Or.inl rfl)) (pgs_cons (pg_name (i := 5) sc_law_file.nd rfl (Or.inl rfl)) (pgs_cons (pg_name (i := 6) sc_law_file.nd rfl (Or.inl rfl)) pgs_nil))))) (pss_cons (ps_while PassesOwn.never (pt_cmpR op_lt (pv 5) (pe_callB call_lenQ rfl B.len boot_len (pa_cons (pv 1) pa_nil)) (nomark _)) (pss_cons (ps_set (i := 7) sc_law_file.nd rfl (Or.inl rfl) (pe_ifExp (pt_cmpR op_lt (pv 6) (pe_callB call_lenQ rfl B.len boot_len (pa_cons (pv 2) pa_nil)) (nomark _)) (pe_ix ix_list (pv 2) (pv 6) (fun _ _ => rfl)) (pe_ix ix_list (pv 2) (pe_un un_neg pe_int) (fun _ _ => rfl)))) (pss_cons (ps_set (i := 4) sc_law_file.nd rfl (Or.inl rfl) (pe_op op_catA (pv 4) (pe_got (fn_law_block B) (hr.mono (by decide)) rfl (pa_cons (pv 3) (pa_cons (pe_slice sl_tupA (pv 1) (po_some (pv 5)) (po_some (pe_op op_add (pv 5) (pv 7)))) pa_nil))))) (pss_cons (ps_set (i := 3) sc_law_file.nd rfl (Or.inl rfl) (pe_ix ix_list (pe_got (fn_law_walked B) (hr.mono (by decide)) rfl (pa_cons (pv 0) (pa_cons (pv 3) (pa_cons (pe_slice sl_tupA (pv 1) (po_some (pv 5)) (po_some (pe_op op_add (pv 5) (pv 7)))) pa_nil)))) (pe_un un_neg pe_int) (fun _ _ => rfl))) (pss_one (ps_par (i := 5) (j := 6) rfl sc_law_file.nd rfl rfl (by decide) rfl rfl (pa_cons (pe_op op_add (pv 5) (pv 7)) (pa_cons (pe_op op_add (pv 6) pe_int) pa_nil)) rfl)))))) (pss_one (ps_ret (pv 4)))))
theorem fn_law_file (B : Base P w K mg base) : Got P w K mg base 4 "_law_file" ["coder", "row", "sizes", "here"] (sp_law_file K) :=
  got_of B.law_file sc_law_file len_law_file (fun _ _ _ _ _ _ us hl => match us, hl with | [_, _, _, _], _ => rfl) (t_law_file K) (run_law_file) (b_law_file B)
abbrev N_law_due : List Str := ["coder", "data", "at", "first", "due", "row", "found"]
theorem sc_law_due : FnScope N_law_due ["coder", "data"] (defScope s_law_due) := ⟨rfl, rfl, rfl, by decide +kernel, rfl, by decide +kernel, by decide +kernel⟩
theorem len_law_due : ∀ vs H Q E, sp_law_due K vs H Q E → vs.length = 2 := pf_len fun _ => rfl
theorem run_law_due : ∀ vs H Q E, sp_law_due K vs H Q E → t_law_due K { nx := fun _ H' => Q .non H', rt := Q } (start N_law_due vs) H := pf_run (N := N_law_due) fun M x h => sv_law_due h.1 h.2
theorem b_law_due (B : Base P w K mg base) (f : Addr) (cdv : Value) (A : Around) (outer : List Env) (s : Shared) (H : Hp) (E : XK) (hr : Room 3 (A.deeper (envOfC "_law_due" (defScope s_law_due) s.heap.objs.size f cdv))) :
    PSs (cxOf CX0 P w K mg base N_law_due "_law_due" (defScope s_law_due) f cdv A outer s H E).nox (defBody s_law_due) (t_law_due K) :=
  (pss_cons (ps_asg (pe_tup (pa_cons pe_int (pa_cons (pe_tup (pa_cons pe_int (pa_cons pe_int pa_nil))) (pa_cons pe_non (pa_cons (pe_tup pa_nil) pa_nil))))) (pg_tup rfl (pgs_cons (pg_name (i := 2) sc_law_due.nd rfl (Or.inl rfl)) (pgs_cons (pg_name (i := 3) sc_law_due.nd rfl (Or.inl rfl)) (pgs_cons (pg_name (i := 4) sc_law_due.nd rfl (Or.inl rfl)) (pgs_cons (pg_name (i := 5) sc_law_due.nd rfl (Or.inl rfl)) pgs_nil)))))) (pss_cons (ps_while PassesOwn.never (pt_cmpR op_lt (pv 2) (pe_callB call_lenQ rfl B.len boot_len (pa_cons (pv 1) pa_nil)) (nomark _)) (pss_cons (ps_set (i := 6) sc_law_due.nd rfl (Or.inl rfl) (pe_got (fn_law_block_read B) (hr.mono (by decide)) rfl (pa_cons (pv 0) (pa_cons (pv 1) (pa_cons (pv 2) (pa_cons (pv 4) pa_nil)))))) (pss_cons (ps_if (pt_not (pt_val (pe_callB call_isi rfl B.isinstance boot_isinstance (pa_cons (pv 6) (pa_cons (pe_bltn rfl B.tuple boot_tuple rfl) pa_nil))))) (pss_one (ps_ret (pe_tup (pa_cons pe_str (pa_cons (pv 6) pa_nil))))) pss_nil) (pss_cons (ps_set (i := 3) sc_law_due.nd rfl (Or.inl rfl) (pe_ifExp (pt_cmpR op_isNone (pv 4) pe_non (nomark _)) (pe_ix ix_tup (pv 6) pe_int (fun _ _ => rfl)) (pv 3))) (pss_cons (ps_par (i := 2) (j := 5) rfl sc_law_due.nd rfl rfl (by decide) rfl rfl (pa_cons (pe_ix ix_tup (pv 6) pe_int (fun _ _ => rfl)) (pa_cons (pe_op op_catA (pv 5) (pe_ix ix_tup (pv 6) pe_int (fun _ _ => rfl))) pa_nil)) rfl) (pss_one (ps_set (i := 4) sc_law_due.nd rfl (Or.inl rfl) (pe_ix ix_list (pe_got (fn_law_walked B) (hr.mono (by decide)) rfl (pa_cons (pv 0) (pa_cons (pe_ix ix_tup (pv 6) pe_int (fun _ _ => rfl)) (pa_cons (pe_ix ix_tup (pv 6) pe_int (fun _ _ => rfl)) pa_nil)))) (pe_un un_neg pe_int) (fun _ _ => rfl))))))))) (pss_one (ps_ret (pe_lst (pa_cons (pe_tup (pa_cons (pv 3) (pa_cons (pv 5) pa_nil))) pa_nil))))))
theorem fn_law_due (B : Base P w K mg base) : Got P w K mg base 4 "_law_due" ["coder", "data"] (sp_law_due K) :=
  got_of B.law_due sc_law_due len_law_due (fun _ _ _ _ _ _ us hl => match us, hl with | [_, _], _ => rfl) (t_law_due K) (run_law_due) (b_law_due B)
abbrev N_need_coder : List Str := ["thing", "fault"]
theorem sc_need_coder : FnScope N_need_coder ["thing"] (defScope s_need_coder) := ⟨rfl, rfl, rfl, by decide +kernel, rfl, by decide +kernel, by decide +kernel⟩
theorem len_need_coder : ∀ vs H Q E, sp_need_coder K vs H Q E → vs.length = 1 := pf_len fun _ => rfl
theorem run_need_coder : ∀ vs H Q E, sp_need_coder K vs H Q E → t_need_coder K { nx := fun _ H' => Q .non H', rt := Q } (start N_need_coder vs) H := pf_run (N := N_need_coder) fun M x h => sv_need_coder h
theorem b_need_coder (B : Base P w K mg base) (f : Addr) (cdv : Value) (A : Around) (outer : List Env) (s : Shared) (H : Hp) (E : XK) (hr : Room 4 (A.deeper (envOfC "need_coder" (defScope s_need_coder) s.heap.objs.size f cdv))) :
    PSs (cxOf CX0 P w K mg base N_need_coder "need_coder" (defScope s_need_coder) f cdv A outer s H E).nox (defBody s_need_coder) (t_need_coder K) :=
  (pss_cons (ps_set (i := 1) sc_need_coder.nd rfl (Or.inl rfl) (pe_got (fn_coder_fault B) (hr.mono (by decide)) rfl (pa_cons (pv 0) pa_nil))) (pss_cons (ps_if (pt_cmpR op_notNone (pv 1) pe_non (nomark _)) (pss_one ps_never) pss_nil) (pss_one (ps_ret (pv 0)))))
theorem fn_need_coder (B : Base P w K mg base) : Got P w K mg base 5 "need_coder" ["thing"] (sp_need_coder K) :=
  got_of B.need_coder sc_need_coder len_need_coder (fun _ _ _ _ _ _ us hl => match us, hl with | [_], _ => rfl) (t_need_coder K) (run_need_coder) (b_need_coder B)
abbrev N_law_pieces : List Str := ["m", "coder", "many", "data", "k", "sizes"]
theorem sc_law_pieces : FnScope N_law_pieces ["m", "coder", "many"] (defScope s_law_pieces) := ⟨rfl, rfl, rfl, by decide +kernel, rfl, by decide +kernel, by decide +kernel⟩
theorem len_law_pieces : ∀ vs H Q E, sp_law_pieces K vs H Q E → vs.length = 3 := mf_len fun _ => rfl
theorem run_law_pieces : ∀ vs H Q E, sp_law_pieces K vs H Q E → t_law_pieces K { nx := fun _ H' => Q .non H', rt := Q } (start N_law_pieces vs) H := mf_run (N := N_law_pieces) fun m T x h => sv_law_pieces h
theorem b_law_pieces (B : Base P w K mg base) (f : Addr) (cdv : Value) (A : Around) (outer : List Env) (s : Shared) (H : Hp) (E : XK) (hr : Room 4 (A.deeper (envOfC "_law_pieces" (defScope s_law_pieces) s.heap.objs.size f cdv))) :
    PSs (cxOf CX0 P w K mg base N_law_pieces "_law_pieces" (defScope s_law_pieces) f cdv A outer s H E).nox (defBody s_law_pieces) (t_law_pieces K) :=
  (pss_cons (ps_set (i := 3) sc_law_pieces.nd rfl (Or.inl rfl) (pe_tup pa_nil)) (pss_cons (ps_for PassesOwn.never rfl (pi_range1 rfl B.range (pa_cons (pe_op op_add pe_int (pe_got (fn_law_next B) (hr.mono (by decide)) rfl (pa_cons (pv 0) (pa_cons (pv 2) pa_nil)))) pa_nil)) (pg_name (i := 4) sc_law_pieces.nd rfl (Or.inl rfl)) (pss_cons (ps_set (i := 5) sc_law_pieces.nd rfl (Or.inl rfl) (pe_lst (pa_cons (pe_op op_add pe_int (pe_got (fn_law_next B) (hr.mono (by decide)) rfl (pa_cons (pv 0) (pa_cons (pe_ix ix_list (pe_lst (pa_cons pe_int (pa_cons pe_int (pa_cons pe_int pa_nil)))) (pe_got (fn_law_next B) (hr.mono (by decide)) rfl (pa_cons (pv 0) (pa_cons pe_int pa_nil))) (fun _ _ => rfl)) pa_nil)))) pa_nil))) (pss_one (ps_set (i := 3) sc_law_pieces.nd rfl (Or.inl rfl) (pe_op op_catA (pv 3) (pe_got (fn_law_file B) (hr.mono (by decide)) rfl (pa_cons (pv 1) (pa_cons (pe_got (fn_law_row B) (hr.mono (by decide)) rfl (pa_cons (pv 0) (pa_cons (pv 1) (pa_cons pe_int pa_nil)))) (pa_cons (pv 5) (pa_cons (pe_got (fn_law_some_state B) (hr.mono (by decide)) rfl (pa_cons (pv 0) (pa_cons (pv 1) pa_nil))) pa_nil)))))))))) (pss_one (ps_ret (pv 3)))))
theorem fn_law_pieces (B : Base P w K mg base) : Got P w K mg base 5 "_law_pieces" ["m", "coder", "many"] (sp_law_pieces K) :=
  got_of B.law_pieces sc_law_pieces len_law_pieces (fun _ _ _ _ _ _ us hl => match us, hl with | [_, _, _], _ => rfl) (t_law_pieces K) (run_law_pieces) (b_law_pieces B)
end
end Kt
set_option Elab.async false
set_option linter.all false
set_option maxRecDepth 100000
set_option maxHeartbeats 4000000
namespace Kt
open PySem PySem.Spec PyProof.Rows L2
def sp_law_begun (K : PySem.W.Frag) : Sp := fun vs H Q _ => ∃ (a : Addr) (ns : List Int), vs = [.ref a] ∧ SqL K H a (ns.map V.int) ∧ ns.length ≤ 100 ∧
  ∀ (m c l : Addr) (left : List Int) (H' : Hp), Same H H' → H m = none → H c = none → H l = none → c ≠ l → H' m = some (.dK (mk3 c l 0)) → H' c = some (.lst (ns.map V.int)) → H' l = some (.lst (left.map V.int)) → left.length ≤ ns.length → Q (.ref m) H'
def t_law_begun (K : PySem.W.Frag) : TS := (tRet (tDisp [((tC (.str "cells")), (tCB (rListQ K) (tCons (tVar 0) tNil))), ((tC (.str "left")), (tLc (iList K (tVar 0)) (gName 1) (tTest (tOp (rI0 fun i j => .bl (decide (j ≤ i))) (tVar 1) (tOp (rI CPow fun i j => .int (i ^ j.toNat)) (tC (.int 10)) (tC (.int 18))))) (tVar 1) [1])), ((tC (.str "at")), (tC (.int 0)))]))
theorem same_new {H : Hp} {p : Addr} {o : HO} (h : H p = none) : Same H (upd H p o) := fun b u e => by rw [upd_ne (ne_of_none e h)]; exact e
theorem merge3 {c l : Addr} {k : Int} : mergeK [] (mk3 c l k) = mk3 c l k := by
  unfold mergeK
  simp [putK, n1, n2, n3, n4]
theorem run_law_begun {K : PySem.W.Frag} (vs : List V) (H : Hp) (Q : VK) (E : XK) (h : sp_law_begun K vs H Q E) : t_law_begun K { nx := fun _ H' => Q .non H', rt := Q } (start ["script", "cell"] vs) H := by
  obtain ⟨a, ns, rfl, hS, hl, q⟩ := h
  intro p hp
  have s1 : Same H (upd H p (.dK [])) := same_new hp
  refine ⟨_, rfl, a, _, rfl, .inl (s1.seq hS), fun c hc => ?_⟩
  have s2 : Same (upd H p (.dK [])) (upd (upd H p (.dK [])) c (.lst (ns.map V.int))) := same_new hc
  have s12 := s1.trans s2
  have npc : p ≠ c := ne_of_none upd_same hc
  have hcp : (upd (upd H p (.dK [])) c (.lst (ns.map V.int))) p = some (.dK []) := by rw [upd_ne npc, upd_same]
  have hcc : (upd (upd H p (.dK [])) c (.lst (ns.map V.int))) c = some (.lst (ns.map V.int)) := upd_same
  have hc0 : H c = none := s1.free hc
  generalize upd (upd H p (.dK [])) c (.lst (ns.map V.int)) = H1 at s2 s12 hcp hcc
  refine ⟨_, rfl, a, rfl, ⟨_, s12.seq hS⟩, fun D hD => ?_⟩
  refine lc_list (K := K) (a := a) (xs := ns.map V.int) (fun i H2 => ∃ acc : List Int, acc.length ≤ i ∧ H2 = upd H1 D (.lst (acc.map V.int))) ⟨[], Nat.le_refl _, rfl⟩ (fun i H2 _ ⟨acc, _, e⟩ => by rw [e]; exact (s12.trans (same_new hD)).seq hS) (fun i x H2 hx ⟨acc, ha, e⟩ => ?_) fun H2 ⟨acc, ha, e⟩ => ?_
  · subst e
    obtain ⟨z, hz, rfl⟩ : ∃ z, ns[i]? = some z ∧ x = .int z := by
      rw [List.getElem?_map] at hx
      cases e : ns[i]? with
      | none => rw [e] at hx; cases hx
      | some z => rw [e] at hx; cases hx; exact ⟨z, rfl, rfl⟩
    have hi : i < ns.length := (List.getElem?_eq_some_iff.mp hz).1
    refine ⟨rfl, .int z, rfl, 10, 18, rfl, rfl, ⟨by decide, by decide, by decide⟩, z, _, rfl, rfl, _, rfl, ?_⟩
    by_cases hz2 : (10 : Int) ^ (18 : Int).toNat ≤ z
    · rw [decide_eq_true hz2]
      refine iteT ⟨.int z, rfl, acc.map V.int, upd_same, Nat.lt_of_lt_of_le (show (acc.map V.int).length < 16000000 by rw [List.length_map]; omega) (sl_of (Nat.le_refl _)), acc ++ [z], by rw [List.length_append]; show acc.length + 1 ≤ _; omega, ?_⟩
      rw [upd_upd, List.map_append]; rfl
    · rw [decide_eq_false hz2]
      exact iteF ⟨acc, by omega, rfl⟩
  · subst e
    have npD : p ≠ D := ne_of_none hcp hD
    have ncD : c ≠ D := ne_of_none hcc hD
    refine ⟨by rw [upd_ne npD]; exact hcp, mk3 c D 0, rfl, by show 3 ≤ 15; decide, ?_⟩
    rw [merge3]
    refine q p c D acc _ (fun b u e => ?_) hp hc0 (s12.free hD) ncD upd_same ?_ ?_ (by rw [List.length_map] at ha; exact ha)
    · rw [upd_ne (ne_of_none e hp), upd_ne (ne_of_none (s12 b u e) hD)]; exact s12 b u e
    · rw [upd_ne (Ne.symm npc), upd_ne ncD]; exact hcc
    · rw [upd_ne (Ne.symm npD), upd_same]
end Kt
set_option Elab.async false
set_option linter.all false
set_option maxRecDepth 100000
set_option maxHeartbeats 4000000
namespace Kt
open PySem PySem.Spec PyProof.Rows L2
/-- what the head says of BadByte -/
structure BadF (K : PySem.W.Frag) (mg : Str → Option Value) : Prop where
  o : OexC K (bb K)
  iC : PySem.W.findIn K (.ref (bb K)) "__init__" = some (some (.ref (bbI K)))
  tI : PySem.W.typeIn K (.ref (bbI K)) = some (.type "function")
  noN : PySem.W.findIn K (.ref (bb K)) "number" = some none
  xf : XfC K (bb K)
  is : IsC K (bb K)
  ex : ∀ x ∈ excNames, PySem.W.exmOne K (.ref (bb K)) (.ref (He.ga K x)) = some (decide (x = "BadByte"))
  kit : ∀ x ∈ excNames, PySem.W.kitOne K (.ref (bb K)) (.ref (He.ga K x)) = some (decide (x = "BadByte"))
  gl : mg "BadByte" = some (.ref (bb K))
  ini : ∃ fd, FunD K "__init__" "BadByte.__init__" (defArgs s_badbyte) (defBody s_badbyte) (defScope s_badbyte) [] [] (bbI K) fd
theorem oexB_ok {K : PySem.W.Frag} {C : Addr} (q : oexB K C = true) : ∃ nm q N bs bm sn sub ab col dd k0 k1 k2 k3 k5, K.lookup C = some (excClassObj nm q C N bs bm true sn sub ab col dd k0 k1 k2 k3 k5 "ValueError.__new__") ∧ PySem.HandSPX.refsVE bm = true := by
  unfold oexB at q
  split at q
  · rename_i dd cd sl ho
    split at q
    · rename_i C' bm k0 k1 k2 k3 n k5 hm hs
      simp only [Bool.and_eq_true, decide_eq_true_eq, Bool.not_eq_true'] at q
      obtain ⟨rfl, rfl, hdel, hd, ht⟩ := q
      obtain ⟨nm, bs, mro, ns, qn, hd', sn, sub, ab, col, del⟩ := cd
      dsimp only at hm hdel hd
      subst hm hdel hd
      have hsl : sl = #[k0, k1, k2, k3, some (.builtin "ValueError.__new__"), k5] := by
        obtain ⟨l⟩ := sl
        simp only at hs
        rw [hs]
      subst hsl
      exact ⟨nm, qn, ns, bs, bm, sn, sub, ab, col, dd, k0, k1, k2, k3, k5, ho, ht⟩
    · cases q
  · cases q
theorem badF_of {w : World} {K : PySem.W.Frag} {mg : Str → Option Value} {h : Heap} (X : K.In h) (G : h.Ns mainGlobals mg) (c : He.SaysX fa fn [] tf ex w h K) : BadF K mg := by
  have hx := c.more
  unfold ex exA exB exC okVal okBo at hx
  simp only [Bool.and_eq_true, decide_eq_true_eq, List.all_eq_true] at hx
  obtain ⟨⟨a1, a2, a3, a4, a5, a6, a7, a8⟩, ⟨b1, b2, b3, b4, b5, b6, b7, b8⟩, c1, _⟩ := hx
  have e2 := He.eqO_ok a2
  have e6 := He.eqO_ok a6
  have e8 := He.eqO_ok a8
  have d1 := He.eqO_ok b1
  have d2 := He.eqO_ok b2
  have d5 := He.eqO_ok b5
  have d6 := He.eqO_ok b6
  obtain ⟨fd, F⟩ := c.t.d.def_ 38 (d := d_badbyte) rfl
  exact ⟨⟨oexB_ok a1, e2, a3, a4, a5⟩, e6, a7, e8, ⟨d1, d2, a3, b3⟩, ⟨b4, d1, d2, a3, d5, d6, b7, b8⟩, fun x hx => (c1 x hx).1, fun x hx => (c1 x hx).2, (base_of (P := R.prog) (base := h) X G c).BadByte, fd, F⟩
end Kt
set_option Elab.async false
set_option linter.all false
set_option maxRecDepth 100000
set_option maxHeartbeats 4000000
namespace Kt
open PySem PySem.Spec PyProof.Rows L2
/-! ### raise BadByte(e) -/
def sp_bbI (K : PySem.W.Frag) : Sp := fun vs H Q _ => ∃ (a : Addr) (y : V), vs = [.ref a, y] ∧ H a = some (exo a (bb K) none) ∧ ∀ dx, H dx = none → dx ≠ a → Q .non (upd (upd H dx (exd dx [("number", y)])) a (exo a (bb K) (some dx)))
theorem sc_bbI : FnScope ["self", "number"] ["self", "number"] (defScope s_badbyte) := ⟨rfl, rfl, rfl, by decide +kernel, rfl, by decide +kernel, by decide +kernel⟩
theorem ok_bbI {P : Program} {w : World} {K : PySem.W.Frag} {mg : Str → Option Value} {base : Heap} (B : BadF K mg) : ∃ fd, FnOk P w K mg base CX0 1 (bbI K) fd ["self", "number"] (sp_bbI K) ∧ Binds K fd ["self", "number"] [] := by
  obtain ⟨fd, F⟩ := B.ini
  refine ⟨fd, F.ok sc_bbI (fun vs H Q E ⟨a, y, e, _⟩ => by rw [e]; rfl) (fun cdv A outer s H vs Q E hr h => ⟨_, PSs.nox (pss_one (ps_ost (pv 0) (pv 1))), ?_⟩), F.bindsN fun _ _ _ _ _ _ us hl => match us, hl with | [_, _], _ => rfl⟩
  obtain ⟨a, y, rfl, ha, q⟩ := h
  exact ⟨_, rfl, _, rfl, a, bb K, rfl, B.o, B.noN, .inl ⟨ha, q⟩⟩
def tRaise (K : PySem.W.Frag) (E : XK) (te : TE) : TS := fun _ σ H => tMkO (bb K) (sp_bbI K) [] (tCons te tNil) σ H fun cls d H' => E cls d H'
theorem ps_bad {X : Cx} {E : XK} {e : Expr} {te : TE} {p pos pos' : Pos} (B : BadF X.K X.mg) (hc : X.calm = true) (tk : Takes X (fun cls d _ H => E cls d H)) (hr : Room 2 X.A) (hg : Gl X "BadByte") (he : PE X e te)
    (hst : starEach [e] X.env = (false, eval e X.env) :: starEach [] X.env := by rfl) : PS X (.Raise (some (.Call (.Name "BadByte" p) [e] [] pos')) none pos) (tRaise X.K E te) := by
  obtain ⟨fd, F, b⟩ := ok_bbI (P := X.prog) (w := X.w) (base := X.base) B
  exact ps_raise hc tk (pmk_oex (k := 1) B.o B.iC B.tI F hr b .nil pass0 hg B.gl (pa_cons he pa_nil hst) (by decide) hst rfl)
section
variable {K : PySem.W.Frag} {c : Nat} {te : TE} {ρ : En} {d : PyData} {P : PyData → Prop} {O : Out → Prop} {mm : Option Addr} {W0 H0 : Hp} {E : XK}
theorem s_bad (h : EV K (.rel mm W0 H0) 0 te ρ P) (hE : ∀ W H v d dx, Up W0 H0 W H → P d → Is K mm W v d → H dx = none → E (.ref (bb K)) (some dx) (upd H dx (.xd [("number", v)]))) : SV K (.rel mm W0 H0) 0 (tRaise K E te) ρ O := fun X n σ W H i s l e D q nx =>
  h n σ W H i s l e _ fun v d W1 H1 g1 p iv => ⟨by show 1 ≤ 1000; decide, fun a ha => ⟨a, v, rfl, upd_same, fun dx hdx hne => ⟨rfl, dx, [("number", v)], upd_same, by rw [upd_ne hne, upd_same], by rw [upd_ne hne] at hdx; exact hdx, by
    have e1 : upd (del (upd (upd (upd H1 a (exo a (bb K) none)) dx (exd dx [("number", v)])) a (exo a (bb K) (some dx))) a) dx (.xd [("number", v)]) = upd H1 dx (.xd [("number", v)]) := by
      funext b
      by_cases h1 : b = dx
      · rw [h1, upd_same, upd_same]
      · rw [upd_ne h1, upd_ne h1]
        by_cases h2 : b = a
        · rw [h2, del_same, ha]
        · rw [del_ne h2, upd_ne h2, upd_ne h1, upd_ne h2]
    rw [e1]
    exact hE W1 H1 v d dx g1.s p iv (by rw [upd_ne hne] at hdx; exact hdx)⟩⟩⟩
end
/-! ### a def that may raise BadByte -/
structure GotX (P : Program) (w : World) (K : PySem.W.Frag) (mg : Str → Option Value) (base : Heap) (k : Nat) (x : Str) (ps : List Str) (sp : Sp) : Prop where
  ex : ∃ (f : Addr) (fd : FuncData), FnOk P w K mg base (CX P w) k f fd ps sp ∧ mg x = some (.ref f) ∧ PySem.W.keepIn K (.ref f) = true ∧ Binds K fd ps []
theorem pe_gotX {X : Cx} {k : Nat} {x : Str} {ps : List Str} {sp : Sp} {p pos : Pos} {e : Expr} {es : List Expr} {t : TA} {E : XK} {W : WX} (F : GotX X.prog X.w X.K X.mg X.base k x ps sp) (hr : Room k X.A) (hg : Gl X x) (tk : Takes X W) (hW : ∀ cls d σ H, E cls d H → W cls d σ H) (ha : PA X (e :: es) t) (hdb : (x == ("__debug__" : Str)) = false := by decide)
    (he : starEach (e :: es) X.env = (false, eval e X.env) :: starEach es X.env := by rfl) (hpl : (backTo pos (starEach es X.env)).any (·.1) = false := by rfl) : PE X (.Call (.Name x p) (e :: es) [] pos) (tCall sp [] E t) := by
  obtain ⟨f, fd, F, m, kp, b⟩ := F.ex
  exact pe_call F hr hg m kp b .nil (passes_call tk hW) ha hdb he hpl
theorem gotX_of {P : Program} {w : World} {K : PySem.W.Frag} {mg : Str → Option Value} {base : Heap} {x : Str} {st : Stmt} {N ps : List Str} {k : Nat} {sp : Sp} (S : Std K mg x st) (sc : FnScope N ps (defScope st)) (len : ∀ vs H Q E, sp vs H Q E → vs.length = ps.length)
    (hb : ∀ (kV doc pm : Value) (an : Option Addr) (cdv ct : Value) (us : List Value), us.length = ps.length → bindArgs (PySem.W.fnOf x x (defArgs st) (defBody st) (defScope st) .none kV doc pm an cdv ct) ⟨us, []⟩ = pure (ps.zip us)) (t : XK → TS)
    (hrun : ∀ vs H Q E, sp vs H Q E → t E { nx := fun _ H' => Q .non H', rt := Q } (start N vs) H)
    (hbody : ∀ (f : Addr) (cdv : Value) (A : Around) (outer : List Env) (s : Shared) (H : Hp) (E : XK), Room k (A.deeper (envOfC x (defScope st) s.heap.objs.size f cdv)) →
      PSs (cxOf (CX P w) P w K mg base N x (defScope st) f cdv A outer s H E) (defBody st) (t E)) : GotX P w K mg base (k + 1) x ps sp := by
  obtain ⟨f, fd, F, m⟩ := S
  exact ⟨f, fd, F.ok sc len fun cdv A outer s H vs Q E hr h => ⟨t E, hbody f cdv A outer s H E hr, hrun vs H Q E h⟩, m, F.kp, F.bindsN hb⟩
/-! ### what read_file does -/
def isTupD : PyData → Bool
  | .tuple _ => true
  | _ => false
theorem kit_tup : ∀ d : PyData, kitB (tyOf d) "tuple" = some (isTupD d)
  | .none => by show kitB "NoneType" "tuple" = some false; decide +kernel
  | .bool _ => by show kitB "bool" "tuple" = some false; decide +kernel
  | .int _ => by show kitB "int" "tuple" = some false; decide +kernel
  | .str _ => by show kitB "str" "tuple" = some false; decide +kernel
  | .list _ => by show kitB "list" "tuple" = some false; decide +kernel
  | .tuple _ => by show kitB "tuple" "tuple" = some true; decide +kernel
  | .dict _ => by show kitB "dict" "tuple" = some false; decide +kernel
def rfo (c : Cd) : PyData → Option Nat ⊕ (St2 × List Int)
  | .tuple ds => match file c ds with
    | .inl i => .inl (some i)
    | .inr r => .inr r
  | _ => .inl none
def nV : Option Nat → V
  | none => .non
  | some i => .int (i : Int)
def sp_bk_need (K : PySem.W.Frag) : Sp := fun vs H Q E => ∃ (mm : Option Addr) (W : Hp) (c : Cd) (d : PyData), Same W H ∧ IsAll K mm W vs [c.d, d] ∧ c.Ok ∧ d ≠ markD ∧ (isTupD d = true → ∀ W' H', Up W H W' H' → Q .non H') ∧
  (isTupD d = false → ∀ W' H' dx, Up W H W' H' → H' dx = none → E (.ref (bb K)) (some dx) (upd H' dx (.xd [("number", .non)])))
def sp_read_file (K : PySem.W.Frag) : Sp := fun vs H Q E => ∃ (mm : Option Addr) (W : Hp) (c : Cd) (d : PyData), Same W H ∧ IsAll K mm W vs [c.d, d] ∧ c.Ok ∧ d ≠ markD ∧ (∀ ds, d = .tuple ds → DOk ds ∧ ∀ f r, file c ds = .inr (f, r) → r.length ≤ 2000) ∧
  (∀ f r, rfo c d = .inr (f, r) → ∀ v W' H', Up W H W' H' → Is K mm W' v (.tuple [sd f, .tuple (zz r)]) → Q v H') ∧
  (∀ o, rfo c d = .inl o → ∀ W' H' dx, Up W H W' H' → H' dx = none → E (.ref (bb K)) (some dx) (upd H' dx (.xd [("number", nV o)])))
end Kt
set_option Elab.async false
set_option linter.all false
set_option maxRecDepth 100000
set_option maxHeartbeats 4000000
namespace Kt
open PySem PySem.Spec PyProof.Rows L2
def t_bk_need (K : PySem.W.Frag) (E : XK) : TS := (tSeq (tDrop (tCall (sp_need_coder K) [] E0 (tCons (tVar 0) tNil))) (tIfS (tNot (tB (tCB (rIsi K) (tCons (tVar 1) (tCons (tC (.ty "tuple")) tNil))))) (tRaise K E (tC .non)) tNext))
def t_read_file (K : PySem.W.Frag) (E : XK) : TS := (tSeq (tDrop (tCall (sp_bk_need K) [] E (tCons (tVar 0) (tCons (tVar 1) tNil)))) (tSeq (tAsg (tTup (tCons (tC (.int 0)) (tCons (tTup (tCons (tC (.int 0)) (tCons (tC (.int 0)) tNil))) (tCons (tC .non) (tCons (tTup tNil) tNil))))) (gTup K 4 (gCons (gName 2) (gCons (gName 3) (gCons (gName 4) (gCons (gName 5) gNil)))))) (tSeq (tWhile (tTest (tOp (rI0 fun i j => .bl (decide (i < j))) (tVar 2) (tCB (rLenQ K) (tCons (tVar 1) tNil)))) (tSeq (tAsg (tCall (sp_bk_read K) [] E0 (tCons (tVar 0) (tCons (tVar 1) (tCons (tVar 2) (tCons (tVar 4) tNil))))) (gTup K 3 (gCons (gName 2) (gCons (gName 6) (gCons (gName 7) gNil))))) (tSeq (tIfS (tTest (tOp rIsN (tVar 7) (tC .non))) (tRaise K E (tVar 2)) tNext) (tSeq (tIfS (tTest (tOp rIsN (tVar 4) (tC .non))) (tAsg (tVar 6) (gName 3)) tNext) (tSeq (tAsg (tOp (rCatA K) (tVar 5) (tVar 7)) (gName 5)) (tAsg (tCall (sp_walked K) [] E0 (tCons (tVar 0) (tCons (tVar 6) (tCons (tVar 7) tNil)))) (gName 4))))))) (tSeq (tIfS (tTest (tOp (rI0 fun i j => .bl (decide (j < i))) (tCB (rLenQ K) (tCons (tVar 5) tNil)) (tC (.int 2000)))) tNever tNext) (tRet (tTup (tCons (tVar 3) (tCons (tVar 5) tNil))))))))
section
variable {K : PySem.W.Frag} {c : Cd} {ds : List PyData} {d : PyData} {mm : Option Addr} {W0 H0 : Hp} {E : XK} {ρ : En} {O : Out → Prop} {u : TS} {ts : TA}
theorem run_bk_need : ∀ vs H Q E, sp_bk_need K vs H Q E → t_bk_need K E { nx := fun _ H' => Q .non H', rt := Q } (start ["coder", "data"] vs) H := fun vs H Q E ⟨mm, W, c, d, i, iv, hc, hn, h1, h2⟩ => by
  have sv : SV K (.rel mm W H) 0 (t_bk_need K E) [some c.d, some d] (fun o => isTupD d = true ∧ ∃ ρ, o = .nx ρ) := by
    refine SV.mono (s_then (c1 := 0) (c2 := 0) (s_drop (P := (· = c.d)) (e_call_pf c hc (a_cons (e_var rfl) a_nil)) fun d' _ => ⟨_, rfl, ?_⟩)) (by omega) fun _ p => p
    refine s_if (t_not (t_val (e_isi (e_var rfl) hn (kit_tup d)))) (fun z => ?_) fun z => s_next ⟨nb2 z, _, rfl⟩
    refine s_bad e_non fun W' H' v d' dx up e iv hx => ?_
    subst e
    cases iv
    refine h2 ?_ W' H' dx up hx
    cases e : isTupD d with
    | false => rfl
    | true => rw [e] at z; cases z
  refine sv (fun _ _ _ => True) 0 _ W H i (Up.refl i) (by unfold lim; omega) (EnvOk.start (N := ["coder", "data"]) iv) _ (fun o W' H' g ⟨ht, ρ, e⟩ => ?_) fun d ⟨_, _, z⟩ => nomatch z
  subst e
  exact fun σ _ => h1 ht W' H' g.toUpR
/-- bk_need(..), then the rest -/
theorem s_need (ha : A K (.rel mm W0 H0) ts ρ [c.d, d]) (hc : c.Ok) (hn : d ≠ markD) (hE : isTupD d = false → ∀ W' H' dx, Up W0 H0 W' H' → H' dx = none → E (.ref (bb K)) (some dx) (upd H' dx (.xd [("number", .non)])))
    (r : isTupD d = true → SV K (.rel mm W0 H0) 0 u ρ O) : SV K (.rel mm W0 H0) 0 (tSeq (tDrop (tCall (sp_bk_need K) [] E ts)) u) ρ O := fun X n σ W H i s l e D q nx =>
  ha n σ W H i s l e _ fun vs ds' W1 H1 g1 e1 iv => by
    subst e1
    rw [List.append_nil]
    exact ⟨mm, W1, c, d, g1.i, iv, hc, hn, fun ht W' H' up => r ht X n σ W' H' up.i (Up.trans g1.s up) l (e.up (g1.w.trans up.w)) D (fun o W2 H2 g2 p2 => q o W2 H2 ((g1.trans (Go.up up g1.s)).trans g2) p2) nx,
      fun hf W' H' dx up hx => hE hf W' H' dx (Up.trans g1.s up) hx⟩
theorem sv_read_file {ES : XK} (hc : c.Ok) (hd : DOk ds) (hb : ∀ f r, file c ds = .inr (f, r) → r.length ≤ 2000) (hE : ∀ i, file c ds = .inl i → ∀ W' H' dx, Up W0 H0 W' H' → H' dx = none → ES (.ref (bb K)) (some dx) (upd H' dx (.xd [("number", .int (i : Int))]))) :
    SV K (.rel mm W0 H0) 0 (t_read_file K ES) [some c.d, some (.tuple ds), none, none, none, none, none, none] (fun o => ∃ f r, file c ds = .inr (f, r) ∧ o = .rt (.tuple [sd f, .tuple (zz r)])) := by
  have dl := hd.len
  refine s_need (a_cons (e_var rfl) (a_cons (e_var rfl) a_nil)) hc tup_ne (fun z => nomatch z) fun _ => ?_
  refine s_setG (e_tup (a_cons e_int (a_cons (e_tup (a_cons e_int (a_cons e_int a_nil)) len2) (a_cons e_non (a_cons (e_tup a_nil (Nat.zero_le _)) a_nil)))) (by show 4 ≤ 16000000; decide)) (gv_tup (gvs_cons gv_name (gvs_cons gv_name (gvs_cons gv_name (gvs_cons gv_name gvs_nil)))) rfl) ?_
  refine SV.mono (s_thenR (c1 := 0) (c2 := 0) (s_while (fun m ρ => ∃ (a f : Nat) (due : Option St2) (first : St2) (r : List Int) (x y : Option PyData), m = ds.length - a ∧ ds.length + 1 ≤ f + a ∧ OOk c due ∧ r.length ≤ 255 * a ∧ a ≤ ds.length ∧ fgo c ds f a due first r = file c ds ∧
    ρ = [some c.d, some (.tuple ds), some (.int (a : Int)), some (sd first), some (oD due), some (.tuple (zz r)), x, y]) ds.length
    ⟨0, ds.length + 1, none, (0, 0), [], none, none, rfl, by omega, trivial, Nat.le_refl _, Nat.zero_le _, rfl, rfl⟩ (fun m ρ1 ⟨a, f, due, first, r, x, y, hm, hf, ho, hr, ha, hfi, hρ⟩ => ?_))) (by omega) fun _ p => p
  subst hρ
  refine ⟨decide ((a : Int) < ds.length), t_cI (e_var rfl) (e_len (e_var rfl)), fun z => ?_, fun z => ?_⟩
  · have z : a < ds.length := by have z := of_decide_eq_true z; omega
    obtain ⟨f, rfl⟩ : ∃ g, f = g + 1 := ⟨f - 1, by omega⟩
    rw [fgo_succ z] at hfi
    have hcall : E K (.rel mm W0 H0) (tCall (sp_bk_read K) [] E0 (tCons (tVar 0) (tCons (tVar 1) (tCons (tVar 2) (tCons (tVar 4) tNil))))) [some c.d, some (.tuple ds), some (.int (a : Int)), some (sd first), some (oD due), some (.tuple (zz r)), x, y] (brD (blk c ds a due)) :=
      e_call_pf (c, ds, a, due) ⟨hc, hd, ho⟩ (a_cons (e_var rfl) (a_cons (e_var rfl) (a_cons (e_var rfl) (a_cons (e_var rfl) a_nil))))
    cases eb : blk c ds a due with
    | inl q =>
      rw [eb] at hfi hcall
      refine s_setG hcall (gv_tup (gvs_cons gv_name (gvs_cons gv_name (gvs_cons gv_name gvs_nil))) rfl) ?_
      refine s_take (t_isN (e_var rfl)) rfl ?_
      refine s_bad (e_var rfl) fun W' H' v d' dx up e iv hx => ?_
      subst e
      cases iv
      exact hE q hfi.symm W' H' dx up hx
    | inr q =>
      obtain ⟨e, s', r'⟩ := q
      rw [eb] at hfi hcall
      have br := blk_inr hc ho eb
      have bm := br.m2
      have be := br.ee
      have bl := br.le
      refine s_setG hcall (gv_tup (gvs_cons gv_name (gvs_cons gv_name (gvs_cons gv_name gvs_nil))) rfl) ?_
      refine s_skip (t_isN (e_var rfl)) rfl ?_
      refine s_ifset (d := sd (firstO due s' first)) (t_isN (e_var rfl)) (fun q => ?_) (fun q => ?_) ?_
      · cases due with
        | none => exact e_var rfl
        | some s0 => cases q
      · cases due with
        | none => cases q
        | some s0 => rfl
      refine s_set ((e_op (e_var rfl) (e_var rfl) (rd_catT ?_)).eq (d' := .tuple (zz (r ++ r'))) (by unfold zz; rw [List.map_append])) ?_
      · rw [List.length_map, List.length_map]; omega
      refine s_set1 (e_call_pf (c, s', r') ⟨hc, br.so, br.ro, show r'.length ≤ 1000 by omega⟩ (a_cons (e_var rfl) (a_cons (e_var rfl) (a_cons (e_var rfl) a_nil)))) ?_
      exact ⟨ds.length - e, by omega, e, f, some (walk c s' r'), _, r ++ r', _, _, rfl, by omega, walk_ok hc br.so, by rw [List.length_append]; omega, bl, hfi, rfl⟩
  · have z : ¬ a < ds.length := by have z := of_decide_eq_false z; omega
    rw [fgo_end z] at hfi
    have hbb := hb _ _ hfi.symm
    refine .inl ⟨_, rfl, ?_⟩
    refine s_skip (t_cI (e_len (e_var rfl)) e_int) (by rw [List.length_map]; exact decide_eq_false (by omega)) ?_
    exact s_retD (e_tup (a_cons (e_var rfl) (a_cons (e_var rfl) a_nil)) len2) ⟨_, _, hfi.symm, rfl⟩
theorem run_read_file : ∀ vs H Q E, sp_read_file K vs H Q E → t_read_file K E { nx := fun _ H' => Q .non H', rt := Q } (start ["coder", "data", "at", "first", "due", "row", "begin", "codes"] vs) H := fun vs H Q E ⟨mm, W, c, d, i, iv, hc, hn, hb, h1, h2⟩ => by
  have es := EnvOk.start (N := ["coder", "data", "at", "first", "due", "row", "begin", "codes"]) iv
  cases ht : isTupD d with
  | false =>
    have sv : SV K (.rel mm W H) 0 (t_read_file K E) [some c.d, some d, none, none, none, none, none, none] (fun _ => False) := s_need (a_cons (e_var rfl) (a_cons (e_var rfl) a_nil)) hc hn (fun _ W' H' dx up hx => h2 none (by
      cases d <;> first | rfl | cases ht) W' H' dx up hx) fun z => by rw [ht] at z; cases z
    exact sv (fun _ _ _ => True) 0 _ W H i (Up.refl i) (by unfold lim; omega) es _ (fun o W' H' g z => z.elim) fun d z => z
  | true =>
    obtain ⟨ds, rfl⟩ : ∃ ds, d = .tuple ds := by cases d <;> first | exact ⟨_, rfl⟩ | cases ht
    obtain ⟨hd, hb⟩ := hb ds rfl
    have sv := sv_read_file (K := K) (mm := mm) (W0 := W) (H0 := H) (ES := E) hc hd hb fun q e W' H' dx up hx => h2 (some q) (by show (match file c ds with | .inl i => _ | .inr r => _) = _; rw [e]) W' H' dx up hx
    refine sv (fun _ _ _ => True) 0 _ W H i (Up.refl i) (by unfold lim; omega) es _ (fun o W' H' g ⟨f, r, e, eo⟩ => ?_) fun d ⟨_, _, _, z⟩ => nomatch z
    subst eo
    exact fun v iv => h1 f r (by show (match file c ds with | .inl i => _ | .inr r => _) = _; rw [e]) v W' H' g.toUpR iv
end
end Kt
set_option Elab.async false
set_option linter.all false
set_option maxRecDepth 100000
set_option maxHeartbeats 4000000
namespace Kt
open PySem PySem.Spec PyProof.Rows L2
section
variable {P : Program} {w : World} {K : PySem.W.Frag} {mg : Str → Option Value} {base : Heap}
abbrev N_bk_need : List Str := ["coder", "data"]
theorem sc_bk_need : FnScope N_bk_need ["coder", "data"] (defScope s_bk_need) := ⟨rfl, rfl, rfl, by decide +kernel, rfl, by decide +kernel, by decide +kernel⟩
theorem len_bk_need : ∀ vs H Q E, sp_bk_need K vs H Q E → vs.length = 2 := fun vs H Q E ⟨_, _, _, _, _, iv, _⟩ => iv.length
theorem b_bk_need (B : Base P w K mg base) (BF : BadF K mg) (f : Addr) (cdv : Value) (A : Around) (outer : List Env) (s : Shared) (H : Hp) (E : XK) (hr : Room 5 (A.deeper (envOfC "bk_need" (defScope s_bk_need) s.heap.objs.size f cdv))) :
    PSs (cxOf (CX P w) P w K mg base N_bk_need "bk_need" (defScope s_bk_need) f cdv A outer s H E) (defBody s_bk_need) (t_bk_need K E) :=
  (pss_cons (ps_expr (pe_got (fn_need_coder B) (hr.mono (by decide)) rfl (pa_cons (pv 0) pa_nil))) (pss_one (ps_if (pt_not (pt_val (pe_callB call_isi rfl B.isinstance boot_isinstance (pa_cons (pv 1) (pa_cons (pe_bltn rfl B.tuple boot_tuple rfl) pa_nil))))) (pss_one (ps_bad BF rfl (takes_of rfl rfl rfl rfl) (hr.mono (by decide)) rfl pe_non)) pss_nil)))
theorem fn_bk_need (B : Base P w K mg base) (BF : BadF K mg) : GotX P w K mg base 6 "bk_need" ["coder", "data"] (sp_bk_need K) :=
  gotX_of B.bk_need sc_bk_need len_bk_need (fun _ _ _ _ _ _ us hl => match us, hl with | [_, _], _ => rfl) (t_bk_need K) run_bk_need (b_bk_need B BF)
abbrev N_read_file : List Str := ["coder", "data", "at", "first", "due", "row", "begin", "codes"]
theorem sc_read_file : FnScope N_read_file ["coder", "data"] (defScope s_read_file) := ⟨rfl, rfl, rfl, by decide +kernel, rfl, by decide +kernel, by decide +kernel⟩
theorem len_read_file : ∀ vs H Q E, sp_read_file K vs H Q E → vs.length = 2 := fun vs H Q E ⟨_, _, _, _, _, iv, _⟩ => iv.length
theorem b_read_file (B : Base P w K mg base) (BF : BadF K mg) (f : Addr) (cdv : Value) (A : Around) (outer : List Env) (s : Shared) (H : Hp) (E : XK) (hr : Room 6 (A.deeper (envOfC "read_file" (defScope s_read_file) s.heap.objs.size f cdv))) :
    PSs (cxOf (CX P w) P w K mg base N_read_file "read_file" (defScope s_read_file) f cdv A outer s H E) (defBody s_read_file) (t_read_file K E) :=
  (pss_cons (ps_expr (pe_gotX (fn_bk_need B BF) (hr.mono (by decide)) rfl (takes_of rfl rfl rfl rfl) (fun _ _ _ _ h => h) (pa_cons (pv 0) (pa_cons (pv 1) pa_nil)))) (pss_cons (ps_asg (pe_tup (pa_cons pe_int (pa_cons (pe_tup (pa_cons pe_int (pa_cons pe_int pa_nil))) (pa_cons pe_non (pa_cons (pe_tup pa_nil) pa_nil))))) (pg_tup rfl (pgs_cons (pg_name (i := 2) sc_read_file.nd rfl (Or.inl rfl)) (pgs_cons (pg_name (i := 3) sc_read_file.nd rfl (Or.inl rfl)) (pgs_cons (pg_name (i := 4) sc_read_file.nd rfl (Or.inl rfl)) (pgs_cons (pg_name (i := 5) sc_read_file.nd rfl (Or.inl rfl)) pgs_nil)))))) (pss_cons (ps_while (passes_of rfl) (pt_cmpR op_lt (pv 2) (pe_callB call_lenQ rfl B.len boot_len (pa_cons (pv 1) pa_nil)) (nomark _)) (pss_cons (ps_asg (pe_got (fn_bk_read B) (hr.mono (by decide)) rfl (pa_cons (pv 0) (pa_cons (pv 1) (pa_cons (pv 2) (pa_cons (pv 4) pa_nil))))) (pg_tup rfl (pgs_cons (pg_name (i := 2) sc_read_file.nd rfl (Or.inl rfl)) (pgs_cons (pg_name (i := 6) sc_read_file.nd rfl (Or.inl rfl)) (pgs_cons (pg_name (i := 7) sc_read_file.nd rfl (Or.inl rfl)) pgs_nil))))) (pss_cons (ps_if (pt_cmpR op_isNone (pv 7) pe_non (nomark _)) (pss_one (ps_bad BF rfl (takes_of rfl rfl rfl rfl) (hr.mono (by decide)) rfl (pv 2))) pss_nil) (pss_cons (ps_if (pt_cmpR op_isNone (pv 4) pe_non (nomark _)) (pss_one (ps_set (i := 3) sc_read_file.nd rfl (Or.inl rfl) (pv 6))) pss_nil) (pss_cons (ps_set (i := 5) sc_read_file.nd rfl (Or.inl rfl) (pe_op op_catA (pv 5) (pv 7))) (pss_one (ps_set (i := 4) sc_read_file.nd rfl (Or.inl rfl) (pe_got (fn_walked B) (hr.mono (by decide)) rfl (pa_cons (pv 0) (pa_cons (pv 6) (pa_cons (pv 7) pa_nil))))))))))) (pss_cons (ps_if (pt_cmpR op_gt (pe_callB call_lenQ rfl B.len boot_len (pa_cons (pv 5) pa_nil)) (pe_glob rfl B.MOST_CODES.choose_spec ⟨_, rfl⟩) (nomark _)) (pss_one ps_never) pss_nil) (pss_one (ps_ret (pe_tup (pa_cons (pv 3) (pa_cons (pv 5) pa_nil)))))))))
theorem fn_read_file (B : Base P w K mg base) (BF : BadF K mg) : GotX P w K mg base 7 "read_file" ["coder", "data"] (sp_read_file K) :=
  gotX_of B.read_file sc_read_file len_read_file (fun _ _ _ _ _ _ us hl => match us, hl with | [_, _], _ => rfl) (t_read_file K) run_read_file (b_read_file B BF)
abbrev N_law_begun : List Str := ["script", "cell"]
theorem sc_law_begun : FnScope N_law_begun ["script"] (defScope s_law_begun) := ⟨rfl, rfl, rfl, by decide +kernel, rfl, by decide +kernel, by decide +kernel⟩
theorem len_law_begun : ∀ vs H Q E, sp_law_begun K vs H Q E → vs.length = 1 := fun vs H Q E ⟨_, _, e, _⟩ => by rw [e]; rfl
theorem b_law_begun (B : Base P w K mg base) (f : Addr) (cdv : Value) (A : Around) (outer : List Env) (s : Shared) (H : Hp) (E : XK) (hr : Room 0 (A.deeper (envOfC "_law_begun" (defScope s_law_begun) s.heap.objs.size f cdv))) :
    PSs (cxOf CX0 P w K mg base N_law_begun "_law_begun" (defScope s_law_begun) f cdv A outer s H E).nox (defBody s_law_begun) (t_law_begun K) :=
  (pss_one (ps_ret (pe_disp (pps_cons pe_str (pe_callTy call_listQ rfl B.list boot_list (pa_cons (pv 0) pa_nil)) (pps_cons pe_str (pe_lc (own := [("cell", 1)]) (g := gName 1) rfl sc_law_begun.nd (pi_list (pv 0)) (blkOk_by (N := N_law_begun) (sc := defScope s_law_begun) (by decide +kernel)) (fun _ _ _ _ _ => pg_name (i := 1) sc_law_begun.nd rfl (Or.inl rfl)) (fun _ _ _ _ _ => (pts_one (pt_cmpR op_ge (pv 1) (pe_op op_pow pe_int pe_int) (nomark _)))) (fun _ _ _ _ _ => (pv 1))) (pps_cons pe_str pe_int pps_nil))) rfl rfl (fun z => nomatch z) (by decide))))
theorem fn_law_begun (B : Base P w K mg base) : Got P w K mg base 1 "_law_begun" ["script"] (sp_law_begun K) :=
  got_of B.law_begun sc_law_begun len_law_begun (fun _ _ _ _ _ _ us hl => match us, hl with | [_], _ => rfl) (t_law_begun K) run_law_begun (b_law_begun B)
end
end Kt
set_option Elab.async false
set_option linter.all false
set_option maxRecDepth 100000
set_option maxHeartbeats 4000000
namespace Kt
open PySem PySem.Spec PyProof.Rows L2
/-! ### _law_fault of a kept BadByte -/
def sp_law_fault (K : PySem.W.Frag) : Sp := fun vs H Q _ => ∃ (a d : Addr) (v : V), vs = [.ref a] ∧ H a = some (KeptX (.ref (bb K)) (some d) a) ∧ H d = some (.xd [("number", v)]) ∧ ∀ p H', Same H H' → H p = none → H' p = some (.tup [.str "byte", v]) → Q (.ref p) H'
def tKB (K : PySem.W.Frag) (te : TE) : TE := fun σ H Q => te σ H fun x H1 => ∃ (a d : Addr) (fs : List (Str × V)) (v : V), x = .ref a ∧ H1 a = some (KeptX (.ref (bb K)) (some d) a) ∧ H1 d = some (.xd fs) ∧ fs.lookup ("number" : Str) = some v ∧ Q v H1
def tIsT (K : PySem.W.Frag) (x : Str) : TT := tB (tCB (rIsK K (bb K)) (tCons (tVar 0) (tCons (tC (.ref (He.ga K x))) tNil)))
def t_law_fault (K : PySem.W.Frag) : TS := tSeq (tAsg (tLst tNil) (gName 1)) (tSeq (tIfS (tIsT K "BadCoder") tNever tNext) (tSeq (tIfS (tIsT K "BadRow") tNever tNext) (tSeq (tIfS (tIsT K "BadPaper") tNever tNext)
  (tSeq (tIfS (tIsT K "BadByte") (tDrop (tBM K "list" rAppend (tVar 1) (tCons (tTup (tCons (tC (.str "byte")) (tCons (tKB K (tVar 0)) tNil))) tNil))) tNext)
  (tSeq (tIfS (tIsT K "TooGreat") tNever tNext) (tSeq (tIfS (tIsT K "OutOfPlace") tNever tNext) (tSeq (tIfS (tIsT K "NoSeam") tNever tNext) (tSeq (tIfS (tIsT K "Nothing") tNever tNext)
  (tRet (tIf (tTest (tOp rEq (tCB (rLenQ K) (tCons (tVar 1) tNil)) (tC (.int 1)))) (tOp (rIxL K) (tVar 1) (tC (.int 0))) (tTup (tCons (tC (.str "other")) (tCons (tC .non) tNil)))))))))))))
section
variable {P : Program} {w : World} {K : PySem.W.Frag} {mg : Str → Option Value} {base : Heap}
abbrev N_law_fault : List Str := ["e", "told"]
theorem sc_law_fault : FnScope N_law_fault ["e"] (defScope s_law_fault) := ⟨rfl, rfl, rfl, by decide +kernel, rfl, by decide +kernel, by decide +kernel⟩
theorem is_step {x : Str} {b : Bool} {σ : L2.St} {H : Hp} {a d : Addr} {v : V} {Q : Bool → Hp → Prop} (hσ : σ[0]? = some (some (.ref a))) (ha : H a = some (KeptX (.ref (bb K)) (some d) a)) (hd : H d = some (.xd [("number", v)]))
    (hk : PySem.W.kitOne K (.ref (bb K)) (.ref (He.ga K x)) = some b) (q : Q b H) : tIsT K x σ H Q := ⟨_, hσ, a, d, _, _, b, rfl, ha, hd, hk, b, rfl, q⟩
theorem run_law_fault (BF : BadF K mg) : ∀ vs H Q E, sp_law_fault K vs H Q E → t_law_fault K { nx := fun _ H' => Q .non H', rt := Q } (start N_law_fault vs) H := by
  rintro vs H Q E ⟨a, d, v, rfl, ha, hd, q⟩
  refine ⟨Nat.zero_le _, fun p1 h1 => ?_⟩
  have s1 : Same H (upd H p1 (.lst [])) := same_new h1
  have k := BF.kit
  have a1 := s1 _ _ ha
  have d1 := s1 _ _ hd
  have e1 : (upd H p1 (.lst [])) p1 = some (.lst []) := upd_same
  refine is_step rfl a1 d1 (k "BadCoder" (by decide +kernel)) (iteF ?_)
  refine is_step rfl a1 d1 (k "BadRow" (by decide +kernel)) (iteF ?_)
  refine is_step rfl a1 d1 (k "BadPaper" (by decide +kernel)) (iteF ?_)
  refine is_step rfl a1 d1 (k "BadByte" (by decide +kernel)) (iteT ?_)
  refine ⟨_, rfl, .inl ⟨rfl, _, .inl (.inl e1)⟩, ?_⟩
  refine ⟨_, rfl, a, d, _, v, rfl, a1, d1, rfl, ?_⟩
  refine ⟨by show 2 ≤ sizeLine; exact sl_of (by decide), fun p2 h2 => ?_⟩
  have n21 : p1 ≠ p2 := ne_of_none e1 h2
  have e2 : upd (upd H p1 (.lst [])) p2 (.tup [.str "byte", v]) p1 = some (.lst []) := by rw [upd_ne n21]; exact e1
  refine ⟨p1, [], .ref p2, rfl, rfl, e2, sl_of (show 1 ≤ 16000000 by decide), ?_⟩
  have s2 : Same (upd H p1 (.lst [])) (upd (upd H p1 (.lst [])) p2 (.tup [.str "byte", v])) := same_new h2
  have sF : Same H (upd (upd (upd H p1 (.lst [])) p2 (.tup [.str "byte", v])) p1 (.lst ([] ++ [.ref p2]))) := fun b u e => by
    have hb : b ≠ p1 := ne_of_none e h1
    rw [upd_ne hb]
    exact s2 _ _ (s1 _ _ e)
  have a3 := sF _ _ ha
  have d3 := sF _ _ hd
  have t3 : (upd (upd (upd H p1 (.lst [])) p2 (.tup [.str "byte", v])) p1 (.lst ([] ++ [.ref p2]))) p2 = some (.tup [.str "byte", v]) := by rw [upd_ne (Ne.symm n21), upd_same]
  have l3 : (upd (upd (upd H p1 (.lst [])) p2 (.tup [.str "byte", v])) p1 (.lst ([] ++ [.ref p2]))) p1 = some (.lst [.ref p2]) := upd_same
  have hp2 : H p2 = none := s1.free h2
  refine is_step rfl a3 d3 (k "TooGreat" (by decide +kernel)) (iteF ?_)
  refine is_step rfl a3 d3 (k "OutOfPlace" (by decide +kernel)) (iteF ?_)
  refine is_step rfl a3 d3 (k "NoSeam" (by decide +kernel)) (iteF ?_)
  refine is_step rfl a3 d3 (k "Nothing" (by decide +kernel)) (iteF ?_)
  refine ⟨_, rfl, p1, _, rfl, .inl (.inl (.inl l3)), rfl, _, rfl, iteT ?_⟩
  exact ⟨_, rfl, p1, _, 0, .ref p2, rfl, rfl, .inl (.inl l3), at_of (j := 0) rfl rfl, q p2 _ sF hp2 t3⟩
theorem b_law_fault (B : Base P w K mg base) (BF : BadF K mg) (f : Addr) (cdv : Value) (A : Around) (outer : List Env) (s : Shared) (H : Hp) (E : XK) (hr : Room 0 (A.deeper (envOfC "_law_fault" (defScope s_law_fault) s.heap.objs.size f cdv))) :
    PSs (cxOf CX0 P w K mg base N_law_fault "_law_fault" (defScope s_law_fault) f cdv A outer s H E).nox (defBody s_law_fault) (t_law_fault K) :=
  pss_cons (ps_set (i := 1) sc_law_fault.nd rfl (Or.inl rfl) (pe_lst pa_nil)) (pss_cons (ps_if (pt_val (pe_callB (call_isK BF.is) rfl B.isinstance boot_isinstance (pa_cons (pv 0) (pa_cons (pe_glob rfl B.BadCoder rfl) pa_nil)))) pss_never pss_nil)
    (pss_cons (ps_if (pt_val (pe_callB (call_isK BF.is) rfl B.isinstance boot_isinstance (pa_cons (pv 0) (pa_cons (pe_glob rfl B.BadRow rfl) pa_nil)))) pss_never pss_nil)
    (pss_cons (ps_if (pt_val (pe_callB (call_isK BF.is) rfl B.isinstance boot_isinstance (pa_cons (pv 0) (pa_cons (pe_glob rfl B.BadPaper rfl) pa_nil)))) pss_never pss_nil)
    (pss_cons (ps_if (pt_val (pe_callB (call_isK BF.is) rfl B.isinstance boot_isinstance (pa_cons (pv 0) (pa_cons (pe_glob rfl B.BadByte rfl) pa_nil)))) (pss_one (ps_expr (pe_bm PySem.F.plainAttrs_list PySem.F.slot_list_append PySem.F.type_list_append mt_append (pv 1) (pa_cons (pe_tup (pa_cons pe_str (pa_cons (pe_kf BF.xf BF.noN (pv 0)) pa_nil))) pa_nil)))) pss_nil)
    (pss_cons (ps_if (pt_val (pe_callB (call_isK BF.is) rfl B.isinstance boot_isinstance (pa_cons (pv 0) (pa_cons (pe_glob rfl B.TooGreat rfl) pa_nil)))) pss_never pss_nil)
    (pss_cons (ps_if (pt_val (pe_callB (call_isK BF.is) rfl B.isinstance boot_isinstance (pa_cons (pv 0) (pa_cons (pe_glob rfl B.OutOfPlace rfl) pa_nil)))) pss_never pss_nil)
    (pss_cons (ps_if (pt_val (pe_callB (call_isK BF.is) rfl B.isinstance boot_isinstance (pa_cons (pv 0) (pa_cons (pe_glob rfl B.NoSeam rfl) pa_nil)))) pss_never pss_nil)
    (pss_cons (ps_if (pt_val (pe_callB (call_isK BF.is) rfl B.isinstance boot_isinstance (pa_cons (pv 0) (pa_cons (pe_glob rfl B.Nothing rfl) pa_nil)))) pss_never pss_nil)
    (pss_one (ps_ret (pe_ifExp (pt_cmpR op_eq (pe_callB call_lenQ rfl B.len boot_len (pa_cons (pv 1) pa_nil)) pe_int (nomark _)) (pe_ix ix_list (pv 1) pe_int (fun _ _ => rfl)) (pe_tup (pa_cons pe_str (pa_cons pe_non pa_nil))))))))))))))
theorem fn_law_fault (B : Base P w K mg base) (BF : BadF K mg) : Got P w K mg base 1 "_law_fault" ["e"] (sp_law_fault K) :=
  got_of B.law_fault sc_law_fault (fun vs H Q E ⟨_, _, _, e, _⟩ => by rw [e]; rfl) (fun _ _ _ _ _ _ us hl => match us, hl with | [_], _ => rfl) (t_law_fault K) (run_law_fault BF) (b_law_fault B BF)
end
end Kt
set_option Elab.async false
set_option linter.all false
set_option maxRecDepth 100000
set_option maxHeartbeats 4000000
namespace Kt
open PySem PySem.Spec PyProof.Rows L2
/-! ### _law_outcome of what is handed in -/
def Ech (K : PySem.W.Frag) (Q : VK) : XK := fun cls d H2 => cls = .ref (bb K) ∧ ∃ (dx : Addr) (v : V), d = some dx ∧ H2 dx = some (.xd [("number", v)]) ∧ ∀ p H', Same H2 H' → H2 p = none → H' p = some (.tup [.str "byte", v]) → Q (.ref p) H'
def TTo (K : PySem.W.Frag) : (XK → Hp → VK → Prop) → Hp → VK → Prop := fun tl H Q => ∀ H1, Same H H1 → ∀ Q' : VK, (∀ v H2, (∀ p, H2 p = none → Q (.ref p) (upd H2 p (.lst [v]))) → Q' v H2) → tl (Ech K Q) H1 Q'
abbrev N_law_outcome : List Str := ["deed", "caught", "found", "e"]
theorem sc_law_outcome : FnScope N_law_outcome ["deed"] (defScope s_law_outcome) := ⟨rfl, rfl, rfl, by decide +kernel, rfl, by decide +kernel, by decide +kernel⟩
theorem takes_len {Z : Cx} {W : WX} (tk : Takes Z W) : Takes Z (fun cls d σ H => σ.length = Z.N.length → W cls d σ H) := fun u s' ⟨a, B, sI, pins, σ, H, cls, d, e, I, nb, up, sky, na, os, ag, w⟩ =>
  tk u s' ⟨a, B, sI, pins, σ, H, cls, d, e, I, nb, up, sky, na, os, ag, w I.len⟩
def eightC (K : PySem.W.Frag) : List V := [.ref (He.ga K "BadCoder"), .ref (He.ga K "BadRow"), .ref (He.ga K "BadPaper"), .ref (He.ga K "BadByte"), .ref (He.ga K "TooGreat"), .ref (He.ga K "OutOfPlace"), .ref (He.ga K "NoSeam"), .ref (He.ga K "Nothing")]
theorem eight_ref (K : PySem.W.Frag) (j : Nat) (c : V) (h : (eightC K)[j]? = some c) : ∃ C : Addr, c = V.ref C := by
  match j, h with
  | 0, h => cases h; exact ⟨_, rfl⟩
  | 1, h => cases h; exact ⟨_, rfl⟩
  | 2, h => cases h; exact ⟨_, rfl⟩
  | 3, h => cases h; exact ⟨_, rfl⟩
  | 4, h => cases h; exact ⟨_, rfl⟩
  | 5, h => cases h; exact ⟨_, rfl⟩
  | 6, h => cases h; exact ⟨_, rfl⟩
  | 7, h => cases h; exact ⟨_, rfl⟩
  | j + 8, h => cases h
theorem eight_exm {K : PySem.W.Frag} {mg : Str → Option Value} (BF : BadF K mg) (j : Nat) (C : Addr) (h : (eightC K)[j]? = some (V.ref C)) : PySem.W.exmOne K (.ref (bb K)) (.ref C) = some (decide (j = 3)) := by
  have key : ∀ x : Str, x ∈ excNames → decide (x = "BadByte") = decide (j = 3) → (V.ref (He.ga K x) = V.ref C) → PySem.W.exmOne K (.ref (bb K)) (.ref C) = some (decide (j = 3)) := fun x hx e1 e2 => by
    cases e2
    rw [BF.ex x hx, e1]
  match j, h with
  | 0, h => exact key "BadCoder" (by decide +kernel) (by decide +kernel) (Option.some.inj h)
  | 1, h => exact key "BadRow" (by decide +kernel) (by decide +kernel) (Option.some.inj h)
  | 2, h => exact key "BadPaper" (by decide +kernel) (by decide +kernel) (Option.some.inj h)
  | 3, h => exact key "BadByte" (by decide +kernel) (by decide +kernel) (Option.some.inj h)
  | 4, h => exact key "TooGreat" (by decide +kernel) (by decide +kernel) (Option.some.inj h)
  | 5, h => exact key "OutOfPlace" (by decide +kernel) (by decide +kernel) (Option.some.inj h)
  | 6, h => exact key "NoSeam" (by decide +kernel) (by decide +kernel) (Option.some.inj h)
  | 7, h => exact key "Nothing" (by decide +kernel) (by decide +kernel) (Option.some.inj h)
  | j + 8, h => cases h
theorem outcome_gives {X : Cx} (B : Base X.prog X.w X.K X.mg X.base) (BF : BadF X.K X.mg) (hrX : Room 2 X.A) {g : Addr} {cdg : Value} {q : Str} :
    LamX.GivesTo X N_law_outcome "_law_outcome" (defScope s_law_outcome) g cdg (defBody s_law_outcome) "deed" q (TTo X.K) := by
  intro f c' s H Q tl act hc h
  have hr := hrX.deeper (envOfC "_law_outcome" (defScope s_law_outcome) s.heap.objs.size g cdg)
  refine ⟨_, pss_cons (ps_asg (pe_tup (pa_cons pe_non (pa_cons pe_non pa_nil))) (pg_tup rfl (pgs_cons (pg_name (i := 1) sc_law_outcome.nd rfl (Or.inl rfl)) (pgs_cons (pg_name (i := 2) sc_law_outcome.nd rfl (Or.inl rfl)) pgs_nil))))
    (pss_cons (ps_try_eight (X := (cxOf C8.CX0 X.prog X.w X.K X.mg X.base N_law_outcome "_law_outcome" (defScope s_law_outcome) g cdg X.A X.stack s H C8.E0).nox) (i := 3) (cs := eightC X.K) (us := [.ref (He.ga X.K "BadCoder"), .ref (He.ga X.K "BadRow"), .ref (He.ga X.K "BadPaper"), .ref (He.ga X.K "BadByte"), .ref (He.ga X.K "TooGreat"), .ref (He.ga X.K "OutOfPlace"), .ref (He.ga X.K "NoSeam"), .ref (He.ga X.K "Nothing")])
      (tb := fun W D σ H => ∃ Eh : XK, (∀ cls d σ' H', Eh cls d H' → (σ'.length = 4 → W cls d σ' H')) ∧ σ[0]? = some (some (.ref f)) ∧ H c' = some (LamX.CodeO c' q) ∧ tl Eh H (fun v H1 => D.nx (σ.set 2 (some v)) H1))
      (ts := fun a cls d => tAsg (tVar 3) (gName 1)) rfl rfl rfl sc_law_outcome.nd rfl rfl
      (.cons ⟨rfl, by decide +kernel, .inl B.BadCoder⟩ (.cons ⟨rfl, by decide +kernel, .inl B.BadRow⟩ (.cons ⟨rfl, by decide +kernel, .inl B.BadPaper⟩ (.cons ⟨rfl, by decide +kernel, .inl B.BadByte⟩ (.cons ⟨rfl, by decide +kernel, .inl B.TooGreat⟩ (.cons ⟨rfl, by decide +kernel, .inl B.OutOfPlace⟩ (.cons ⟨rfl, by decide +kernel, .inl B.NoSeam⟩ (.cons ⟨rfl, by decide +kernel, .inl B.Nothing⟩ .nil))))))))
      (.cons rfl (.cons rfl (.cons rfl (.cons rfl (.cons rfl (.cons rfl (.cons rfl (.cons rfl .nil)))))))) (eight_ref X.K) (fun W pn xe tk _ => ?_) (fun a oe cls d pn _ _ => pss_one (ps_set (i := 1) sc_law_outcome.nd rfl (Or.inl rfl) (pv 3))))
    (pss_one (ps_ret (pe_ifExp (pt_cmpR op_isNone (pv 1) pe_non (nomark _)) (pe_lst (pa_cons (pv 2) pa_nil)) (pe_got (fn_law_fault B BF) (hr.mono (by decide)) rfl (pa_cons (pv 1) pa_nil)))))), ?_⟩
  · refine ⟨fun pins s' σ H' D I ⟨Eh, hW, h1, h2, h3⟩ => ?_⟩
    exact PSs.run (pss_one (ps_set (i := 2) sc_law_outcome.nd rfl (Or.inl rfl) (act (fun cls d σ' H' => σ'.length = 4 → W cls d σ' H') pn xe Eh _ _ (takes_len tk) hW))) pins s' σ H' D I ⟨h1, h2, h3⟩
  · refine ⟨by show 2 ≤ sizeLine; exact sl_of (by decide), fun p hp => ⟨p, [.non, .non], rfl, SqT.of upd_same, rfl, _, _, rfl, _, _, rfl, rfl, ?_⟩⟩
    have s1 : Same H (upd H p (.tup [.non, .non])) := same_new hp
    refine ⟨Ech X.K Q, fun cls d σ' H' ⟨e1, dx, v, e2, hd, hq⟩ h4 => ?_, rfl, s1 _ _ hc, ?_⟩
    · subst e1 e2
      refine ⟨rfl, eight_exm BF, fun a ha => ?_⟩
      obtain ⟨x0, x1, x2, x3, rfl⟩ : ∃ x0 x1 x2 x3, σ' = [x0, x1, x2, x3] := by
        match σ', h4 with
        | [x0, x1, x2, x3], _ => exact ⟨_, _, _, _, rfl⟩
      refine ⟨_, rfl, fun hna => ?_⟩
      refine ⟨_, rfl, rfl, _, rfl, iteF ?_⟩
      refine ⟨_, rfl, a, dx, v, rfl, upd_same, by rw [upd_ne (ne_of_none hd ha)]; exact hd, fun p' H2 sm hp' ht => hq p' H2 ((same_new ha).trans sm) ((same_new ha).free hp') ht⟩
    · refine (show TTo X.K tl H Q from h) _ s1 _ fun v H2 hv => ?_
      exact ⟨_, rfl, rfl, _, rfl, iteT ⟨_, rfl, by show 1 ≤ sizeLine; exact sl_of (by decide), hv⟩⟩
end Kt
set_option Elab.async false
set_option linter.all false
set_option maxRecDepth 100000
set_option maxHeartbeats 4000000
namespace Kt
open PySem PySem.Spec PyProof.Rows L2
/-! ### what repr is asked of -/
mutual
theorem Is.dp {K : PySem.W.Frag} {mm : Option Addr} {H : Hp} : ∀ (d : PyData) (v : V), d.hasDict = false → Is K mm H v d → Dp K H v d
  | .none, _, _, h => by cases h; exact .non
  | .bool b, _, _, h => by cases h; exact .bl b
  | .int i, _, _, h => by cases h; exact .int i
  | .str x, _, _, h => by cases h; exact .str x
  | .list ds, _, f, h => by
    cases h with
    | lst h r => exact .lst (SqL.of h) (IsAll.dp ds _ (by simpa only [PyData.hasDict] using f) r)
  | .tuple ds, _, f, h => by
    cases h with
    | tup h r => exact .tup h (IsAll.dp ds _ (by simpa only [PyData.hasDict] using f) r)
  | .dict _, _, f, _ => by simp only [PyData.hasDict] at f; cases f
theorem IsAll.dp {K : PySem.W.Frag} {mm : Option Addr} {H : Hp} : ∀ (ds : List PyData) (vs : List V), PyData.hasDictAll ds = false → IsAll K mm H vs ds → DpAll K H vs ds
  | [], _, _, h => by cases h; exact .nil
  | d :: ds, _, f, h => by
    have f' : d.hasDict = false ∧ PyData.hasDictAll ds = false := by simpa only [PyData.hasDictAll, Bool.or_eq_false_iff] using f
    cases h with
    | cons h r => exact .cons (Is.dp d _ f'.1 h) (IsAll.dp ds _ f'.2 r)
end
/-- what repr is asked of is small -/
structure Sm (d : PyData) (k n : Nat) : Prop where
  sh : d.showable = true
  dp : d.depth ≤ k
  lv : d.leavesShort 13 = true
  wt : d.weight ≤ n
structure SmA (ds : List PyData) (k n : Nat) : Prop where
  sh : PyData.showableAll ds = true
  dp : PyData.depthAll ds ≤ k
  lv : PyData.leavesShortAll 13 ds = true
  wt : PyData.weightAll ds ≤ n
theorem log2_le {i : Int} {k : Nat} (h : i.natAbs < 2 ^ k) : (if i == 0 then 0 else i.natAbs.log2 + 1) ≤ k := by
  split
  · omega
  · rename_i hz
    have : i.natAbs ≠ 0 := by intro e; apply hz; simp; omega
    exact (Nat.log2_lt this).mpr h
theorem sm_int {i : Int} (h : i.natAbs < 2 ^ 17) : Sm (.int i) 0 17 := by
  refine ⟨?_, by simp only [PyData.depth]; omega, ?_, ?_⟩
  · simp only [PyData.showable, decide_eq_true_eq]
    by_cases hz : i.natAbs = 0
    · rw [hz]; decide
    · exact Nat.lt_trans ((Nat.log2_lt hz).mpr h) (by decide)
  · simp only [PyData.leavesShort, decide_eq_true_eq]
    exact PyData.shown_int_le (Nat.lt_trans h (by decide))
  · simp only [PyData.weight]
    exact log2_le h
theorem Sm.mono {d : PyData} {k n k' n' : Nat} (h : Sm d k n) (hk : k ≤ k') (hn : n ≤ n') : Sm d k' n' := ⟨h.sh, Nat.le_trans h.dp hk, h.lv, Nat.le_trans h.wt hn⟩
theorem smA_nil {k n : Nat} : SmA [] k n := ⟨rfl, by simp only [PyData.depthAll]; omega, rfl, by simp only [PyData.weightAll]; omega⟩
theorem smA_cons {d : PyData} {ds : List PyData} {k n m : Nat} (h : Sm d k n) (r : SmA ds k m) : SmA (d :: ds) k (n + 1 + m) := by
  refine ⟨by simp only [PyData.showableAll, h.sh, r.sh, Bool.and_self], ?_, by simp only [PyData.leavesShortAll, h.lv, r.lv, Bool.and_self], ?_⟩
  · simp only [PyData.depthAll]
    have := h.dp; have := r.dp; omega
  · simp only [PyData.weightAll]
    have := h.wt; have := r.wt; omega
theorem smA_of {k n : Nat} : ∀ {ds : List PyData}, (∀ d ∈ ds, Sm d k n) → SmA ds k ((n + 1) * ds.length)
  | [], _ => smA_nil
  | d :: ds, h => by
    have z := smA_cons (h d List.mem_cons_self) (smA_of (ds := ds) fun x hx => h x (List.mem_cons_of_mem _ hx))
    rw [show n + 1 + (n + 1) * ds.length = (n + 1) * (d :: ds).length by rw [List.length_cons, Nat.mul_succ]; omega] at z
    exact z
theorem SmA.mono {ds : List PyData} {k n k' n' : Nat} (h : SmA ds k n) (hk : k ≤ k') (hn : n ≤ n') : SmA ds k' n' := ⟨h.sh, Nat.le_trans h.dp hk, h.lv, Nat.le_trans h.wt hn⟩
theorem sm_tup {ds : List PyData} {k n : Nat} (h : SmA ds k n) : Sm (.tuple ds) (k + 1) n := ⟨by simp only [PyData.showable]; exact h.sh, by simp only [PyData.depth]; have := h.dp; omega, by simp only [PyData.leavesShort]; exact h.lv, by simp only [PyData.weight]; exact h.wt⟩
theorem sm_list {ds : List PyData} {k n : Nat} (h : SmA ds k n) : Sm (.list ds) (k + 1) n := ⟨by simp only [PyData.showable]; exact h.sh, by simp only [PyData.depth]; have := h.dp; omega, by simp only [PyData.leavesShort]; exact h.lv, by simp only [PyData.weight]; exact h.wt⟩
theorem sm_none : Sm .none 0 17 := ⟨rfl, Nat.zero_le _, rfl, Nat.zero_le _⟩
theorem sm_bool {b : Bool} : Sm (.bool b) 0 17 := ⟨rfl, Nat.zero_le _, rfl, Nat.zero_le _⟩
theorem sm_byte : Sm (.str "byte") 0 17 := ⟨rfl, Nat.zero_le _, by decide +kernel, by decide +kernel⟩
theorem sm_zero : Sm (.str "0") 0 17 := ⟨rfl, Nat.zero_le _, by decide +kernel, by decide +kernel⟩
theorem sm_dict : Sm (.dict []) 1 20 := ⟨by decide +kernel, by decide +kernel, by decide +kernel, by decide +kernel⟩
theorem item_cases {d : PyData} (h : itemB d = true) : d = .none ∨ (∃ b, d = .bool b) ∨ (∃ i : Int, d = .int i ∧ -1 ≤ i ∧ i ≤ 256) ∨ d = .str "0" ∨ d = .tuple [.int 0] ∨ d = .list [] ∨ d = .dict [] ∨ d = .list [.int 165] := by
  unfold itemB at h
  split at h
  · exact .inl rfl
  · exact .inr (.inl ⟨_, rfl⟩)
  · rw [Bool.and_eq_true, decide_eq_true_eq, decide_eq_true_eq] at h
    exact .inr (.inr (.inl ⟨_, rfl, h⟩))
  · exact .inr (.inr (.inr (.inl (by rw [of_decide_eq_true h]))))
  · exact .inr (.inr (.inr (.inr (.inl rfl))))
  · exact .inr (.inr (.inr (.inr (.inr (.inl rfl)))))
  · exact .inr (.inr (.inr (.inr (.inr (.inr (.inl rfl))))))
  · exact .inr (.inr (.inr (.inr (.inr (.inr (.inr rfl))))))
  · cases h
theorem item_sm {d : PyData} (h : itemB d = true) : Sm d 1 20 := by
  rcases item_cases h with rfl | ⟨b, rfl⟩ | ⟨i, rfl, h1, h2⟩ | rfl | rfl | rfl | rfl | rfl
  · exact sm_none.mono (by decide) (by decide)
  · exact sm_bool.mono (by decide) (by decide)
  · exact (sm_int (by have : i.natAbs ≤ 256 := by omega
                      exact Nat.lt_of_le_of_lt this (by decide))).mono (by decide) (by decide)
  · exact sm_zero.mono (by decide) (by decide)
  · exact (sm_tup (smA_cons (sm_int (by decide)) smA_nil (m := 0))).mono (by decide) (by decide)
  · exact (sm_list (smA_nil (k := 0) (n := 0))).mono (by decide) (by decide)
  · exact sm_dict
  · exact (sm_list (smA_cons (sm_int (by decide)) smA_nil (m := 0))).mono (by decide) (by decide)
theorem sm_fits {d : PyData} {k n : Nat} (h : Sm d k n) (hn : n ≤ 1000000) : d.shown.length ≤ sizeLine := PyData.shown_fits (B := 13) (by decide) (by decide) h.lv (Nat.le_trans h.wt (by omega))
theorem item_it {K : PySem.W.Frag} {mm : Option Addr} {H : Hp} {d : PyData} {v : V} (h : itemB d = true) (i : Is K mm H v d) : It1 K H v d := by
  rcases item_cases h with rfl | ⟨b, rfl⟩ | ⟨z, rfl, h1, h2⟩ | rfl | rfl | rfl | rfl | rfl
  · exact .inl (i.dp _ _ rfl)
  · exact .inl (i.dp _ _ rfl)
  · exact .inl (i.dp _ _ rfl)
  · exact .inl (i.dp _ _ rfl)
  · exact .inl (i.dp _ _ rfl)
  · exact .inl (i.dp _ _ rfl)
  · cases i with
    | dct ha => exact .inr ⟨rfl, _, rfl, ha⟩
  · exact .inl (i.dp _ _ rfl)
theorem items_it {K : PySem.W.Frag} {mm : Option Addr} {H : Hp} : ∀ {ds : List PyData} {vs : List V}, ItOk ds → IsAll K mm H vs ds → ItAll K H vs ds
  | [], _, _, h => by cases h; exact .nil
  | d :: ds, _, f, h => by
    cases h with
    | cons h r => exact .cons (item_it (f d List.mem_cons_self) h) (items_it (fun x hx => f x (List.mem_cons_of_mem _ hx)) r)
section
variable {K : PySem.W.Frag} {M : Mode} {ρ : En} {te : TE} {ds : List PyData} {d : PyData}
/-- repr of the data -/
theorem e_reprI (h : E K M te ρ (.tuple ds)) (hi : ItOk ds) (hl : ds.length ≤ 10000) : E K M (tCB (rRepr K) (tCons te tNil)) ρ (.str (PyData.tuple ds).shown) := e_callB (a_cons h a_nil) fun W H vs e iv Q q => by
  cases iv with
  | cons h r =>
    cases r
    cases h with
    | @tup a xs _ hs r =>
      have sm := sm_tup ((smA_of (k := 1) (n := 20) (fun d hd => item_sm (hi d hd))).mono (Nat.le_refl _) (show (20 + 1) * ds.length ≤ 300000 by omega))
      exact ⟨a, rfl, .inl ⟨xs, ds, sqT_same e hs, items_it hi (r.up e), sm.sh, Nat.le_trans sm.dp (by decide), sm_fits sm (by decide), q _ _ W H (Up.refl e) rfl (.str _)⟩⟩
/-- repr of a list or a tuple without dicts -/
theorem e_reprD (h : E K M te ρ d) (hd : d.hasDict = false) (ht : (∃ l, d = .list l) ∨ ∃ l, d = .tuple l) {k n : Nat} (sm : Sm d k n) (hk : k ≤ 100) (hn : n ≤ 1000000) : E K M (tCB (rRepr K) (tCons te tNil)) ρ (.str d.shown) := e_callB (a_cons h a_nil) fun W H vs e iv Q q => by
  cases iv with
  | @cons v _ _ _ h r =>
    cases r
    have hdp := (h.up e).dp _ _ hd
    have z : ∃ a, v = V.ref a := by
      rcases ht with ⟨l, rfl⟩ | ⟨l, rfl⟩
      · cases h with
        | @lst a xs _ hs r => exact ⟨a, rfl⟩
      · cases h with
        | @tup a xs _ hs r => exact ⟨a, rfl⟩
    obtain ⟨a, rfl⟩ := z
    exact ⟨a, rfl, .inr ⟨d, hdp, sm.sh, Nat.le_trans sm.dp hk, sm_fits sm hn, q _ _ W H (Up.refl e) rfl (.str _)⟩⟩
end
/-- what _law_outcome and _law_due tell -/
def outD (c : Cd) (d : PyData) : PyData := match rfo c d with
  | .inl none => .tuple [.str "byte", .none]
  | .inl (some i) => .tuple [.str "byte", .int (i : Int)]
  | .inr (f, r) => .list [.tuple [sd f, .tuple (zz r)]]
theorem rfo_tup {c : Cd} {ds : List PyData} : rfo c (.tuple ds) = (match file c ds with | .inl i => .inl (some i) | .inr r => .inr r) := rfl
theorem outD_file {c : Cd} {ds : List PyData} : outD c (.tuple ds) = fiD (file c ds) := by
  unfold outD
  rw [rfo_tup]
  cases file c ds with
  | inl i => rfl
  | inr r => rfl
theorem noDict_zz : ∀ l : List Int, PyData.hasDictAll (zz l) = false
  | [] => rfl
  | i :: r => noDict_zz r
end Kt
set_option Elab.async false
set_option linter.all false
set_option maxRecDepth 100000
set_option maxHeartbeats 4000000
namespace Kt
open PySem PySem.Spec PyProof.Rows L2
/-- what read_file is handed: a tuple of moderate length, its row not too long if it is a file; or something else -/
structure RdOk (c : Cd) (d : PyData) : Prop where
  ck : c.Ok
  nm : d ≠ markD
  tp : ∀ ds, d = .tuple ds → DOk ds ∧ ∀ f r, file c ds = .inr (f, r) → r.length ≤ 2000
theorem mst_up {m p : Addr} {T : List (Addr × Str)} {n : Nat} {W H H2 : Hp} {o : HO} (s : MSt m T n W H) (i : Same W H) (h : Same H H2) (hp : H p = none) (ho : H2 p = some o) (hn : ∀ ps, o ≠ .tbl ps) : Go (.em m T) 0 n W H (upd W p o) H2 := by
  have wp : W p = none := i.free hp
  have u : Up W H (upd W p o) H2 := ⟨same_new wp, h, fun b u e => by
    by_cases hb : b = p
    · rw [hb, upd_same] at e; rw [hb, ← e]; exact ho
    · rw [upd_ne hb] at e; exact h _ _ (i _ _ e), fun b hb => upd_ne (fun z => hb (by rw [z]; exact hp)), fun b ps e => by
    by_cases hb : b = p
    · rw [hb, upd_same] at e; exact absurd (Option.some.inj e) (hn ps)
    · rw [upd_ne hb] at e; exact e⟩
  exact Go.up (M := .em m T) u s
theorem ev_outcome {K : PySem.W.Frag} {m : Addr} {T : List (Addr × Str)} {ρ : En} {c : Cd} {d : PyData} {i j : Nat} (hi : ρ[i]? = some (some c.d)) (hj : ρ[j]? = some (some d)) (ok : RdOk c d) :
    E K (.em m T) (LamX.tLam T (TTo K) (fun Ex => tCall (sp_read_file K) [] Ex (tCons (tVar i) (tCons (tVar j) tNil)))) ρ (outD c d) := fun n σ W H is s l e Q q => by
  have s : MSt m T n W H := s
  refine ⟨s.tb, fun H1 eN T1 H1' s1' Q' hQ' => ?_⟩
  obtain ⟨v1, g1, i1⟩ := e.2 i _ hi
  obtain ⟨v2, g2, i2⟩ := e.2 j _ hj
  have sm1 : Same W H1 := fun b o eb => eN b o (is b o eb) fun ps z => s.wt b ps (by rw [eb, z])
  have keep : ∀ {b : Addr} {o : HO}, H b = some o → (∀ ps, o ≠ .tbl ps) → H1' b = some o := fun {b o} eb hn => s1' _ _ (eN b o eb hn)
  obtain ⟨ca, la, cs, lf, k, h1, h2, h3, h4, h5, h6, h7, h8, h9, h10⟩ := s.ex
  have st1 : MSt m T n W H1' := ⟨⟨ca, la, cs, lf, k, keep h1 (fun _ z => nomatch z), keep h2 (fun _ z => nomatch z), keep h3 (fun _ z => nomatch z), h4, h5, h6, h7, h8, h9, h10⟩, T1.ext s1', s.wt⟩
  have sm : Same W H1' := sm1.trans s1'
  refine ⟨v1, g1, v2, g2, some m, W, c, d, sm, .cons i1 (.cons i2 .nil), ok.ck, ok.nm, ok.tp, fun f r er v W' H' up iv => ?_, fun o er W' H' dx up hx => ?_⟩
  · refine hQ' v H' fun p hp => ?_
    have st2 : MSt m T n W' H' := st1.up up
    have g := mst_up st2 up.i (same_new hp) hp upd_same (o := .lst [v]) (fun _ z => nomatch z)
    refine q (.ref p) (outD c d) (upd W' p (.lst [v])) _ ⟨up.w.trans g.w, g.i, trivial, g.s⟩ rfl ?_
    unfold outD
    rw [er]
    exact .lst upd_same (.cons (iv.up g.w) .nil)
  · refine ⟨rfl, dx, nV o, rfl, upd_same, fun p H2 sm2 hp hv => ?_⟩
    have np : p ≠ dx := fun z => by rw [z, upd_same] at hp; cases hp
    rw [upd_ne np] at hp
    have st2 : MSt m T n W' H' := st1.up up
    have g := mst_up st2 up.i ((same_new hx).trans sm2) hp hv (fun _ z => nomatch z)
    refine q (.ref p) (outD c d) (upd W' p (.tup [.str "byte", nV o])) _ ⟨up.w.trans g.w, g.i, trivial, g.s⟩ rfl ?_
    unfold outD
    rw [er]
    cases o with
    | none => exact .tup (SqT.of upd_same) (.cons (.str _) (.cons .non .nil))
    | some i => exact .tup (SqT.of upd_same) (.cons (.str _) (.cons (.int _) .nil))
/-! ### _law_right -/
structure RtOk (c : Cd) (ds : List PyData) : Prop where
  rd : RdOk c (.tuple ds)
  it : ItOk ds
  len : ds.length ≤ 5000
def sp_law_right (K : PySem.W.Frag) : Sp := MF K 0 (fun x : Cd × List PyData => [x.1.d, .tuple x.2]) (fun x => RtOk x.1 x.2) (fun _ d => d = .bool true)
def t_law_right (K : PySem.W.Frag) (T : List (Addr × Str)) : TS := tSeq (tAsg (tCB (rRepr K) (tCons (tVar 1) tNil)) (gName 2))
  (tRet (tAndV (tOp rEq (tCB (rRepr K) (tCons (LamX.tLam T (TTo K) (fun Ex => tCall (sp_read_file K) [] Ex (tCons (tVar 0) (tCons (tVar 1) tNil)))) tNil)) (tCB (rRepr K) (tCons (tCall (sp_law_due K) [] E0 (tCons (tVar 0) (tCons (tVar 1) tNil))) tNil)))
    (tOp rEq (tCB (rRepr K) (tCons (tVar 1) tNil)) (tVar 2))))
theorem fgo_in {c : Cd} {ds : List PyData} (hc : c.Ok) : ∀ (k a : Nat) (due : Option St2) (first : St2) (r : List Int), OOk c due → ROk c r → (due = none → first = (0, 0)) → (∀ s, due = some s → SOk c first) → match fgo c ds k a due first r with
    | .inl i => True
    | .inr (f, r') => ROk c r' ∧ (f = (0, 0) ∨ SOk c f)
  | 0, a, due, first, r, ho, hr, h1, h2 => by
    show ROk c r ∧ _
    cases due with
    | none => exact ⟨hr, .inl (h1 rfl)⟩
    | some s => exact ⟨hr, .inr (h2 s rfl)⟩
  | k + 1, a, due, first, r, ho, hr, h1, h2 => by
    by_cases z : a < ds.length
    · rw [fgo_succ z]
      cases eb : blk c ds a due with
      | inl i => trivial
      | inr q =>
        obtain ⟨e, s, r'⟩ := q
        have br := blk_inr hc ho eb
        refine fgo_in hc k e (some (walk c s r')) (firstO due s first) (r ++ r') (walk_ok hc br.so) (fun x hx => ?_) (fun z => nomatch z) fun s0 _ => ?_
        · rcases List.mem_append.mp hx with q | q
          · exact hr x q
          · exact br.ro x q
        · cases due with
          | none => exact br.so
          | some s1 => exact h2 s1 rfl
    · rw [fgo_end z]
      cases due with
      | none => exact ⟨hr, .inl (h1 rfl)⟩
      | some s => exact ⟨hr, .inr (h2 s rfl)⟩
theorem hd_in {c : Cd} {ds : List PyData} {a i : Nat} {st : Option St2} (h : hd c ds a st = some i) : i ≤ a + 5 := by
  unfold hd at h
  split at h
  · split at h
    · split at h
      · split at h
        · split at h
          · split at h
            · cases h
            · cases h; omega
          · cases h; omega
        · cases h; omega
      · cases h; omega
    · cases h; omega
  · cases h; omega
theorem body_in {c : Cd} {ds : List PyData} {a many : Nat} : ∀ {k j : Nat} {row r : List Int} {i : Nat}, body c ds a many k j row = (some i, r) → i ≤ a + j + k
  | 0, j, row, r, i, h => by cases h
  | k + 1, j, row, r, i, h => by
    rw [body_succ] at h
    split at h
    · have := body_in h; omega
    · cases h; omega
theorem blk_inl {c : Cd} {ds : List PyData} {a i : Nat} {st : Option St2} (h : blk c ds a st = .inl i) : i ≤ a + 300 := by
  cases hh : hd c ds a st with
  | some q =>
    rw [blk_some hh] at h
    cases h
    have := hd_in hh; omega
  | none =>
    rw [blk_none hh] at h
    obtain ⟨m1, m2, m3⟩ := many_at hh
    generalize (intAt ds (a + 5)).toNat = many at h m1 m2 m3
    cases eb : body c ds (a + 6) many ((many + 1) / 2) 0 [] with
    | mk f r0 =>
      rw [eb] at h
      cases f with
      | some q =>
        cases h
        have := body_in eb; omega
      | none =>
        have h : tail0 ds a (a + 6 + (many + 1) / 2) many r0 = .inl i := h
        unfold tail0 at h
        split at h
        · cases h
        · cases h; omega
theorem fgo_inl {c : Cd} {ds : List PyData} : ∀ (k a : Nat) (due : Option St2) (first : St2) (r : List Int) (i : Nat), fgo c ds k a due first r = .inl i → i ≤ ds.length + 300
  | 0, a, due, first, r, i, h => by cases h
  | k + 1, a, due, first, r, i, h => by
    by_cases z : a < ds.length
    · rw [fgo_succ z] at h
      cases eb : blk c ds a due with
      | inl q =>
        rw [eb] at h
        cases h
        have := blk_inl eb; omega
      | inr q =>
        obtain ⟨e, s, r'⟩ := q
        rw [eb] at h
        exact fgo_inl k _ _ _ _ i h
    · rw [fgo_end z] at h; cases h
theorem sm_out {c : Cd} {ds : List PyData} (ok : RdOk c (.tuple ds)) : ∃ n, Sm (outD c (.tuple ds)) 3 n ∧ n ≤ 100000 ∧ (outD c (.tuple ds)).hasDict = false ∧ ((∃ l, outD c (.tuple ds) = .list l) ∨ ∃ l, outD c (.tuple ds) = .tuple l) := by
  obtain ⟨hd, hb⟩ := ok.tp ds rfl
  have dl := hd.len
  rw [outD_file]
  cases e : file c ds with
  | inl i =>
    have hi := fgo_inl _ _ _ _ _ _ e
    refine ⟨_, (sm_tup (smA_cons sm_byte (smA_cons (sm_int (i := (i : Int)) ?_) (smA_nil (n := 0))))).mono (by decide) (Nat.le_refl _), by decide, rfl, .inr ⟨_, rfl⟩⟩
    have : (i : Int).natAbs = i := by omega
    rw [this]
    exact Nat.lt_of_le_of_lt (show i ≤ 10300 by omega) (by decide)
  | inr q =>
    obtain ⟨f, r⟩ := q
    have hr := hb f r e
    have hin := fgo_in ok.ck (ds := ds) (ds.length + 1) 0 none (0, 0) [] trivial (fun x hx => by cases hx) (fun _ => rfl) (fun s z => nomatch z)
    rw [show fgo c ds (ds.length + 1) 0 none (0, 0) [] = .inr (f, r) from e] at hin
    obtain ⟨hro, hf⟩ := hin
    have f1 : f.1.natAbs < 2 ^ 17 := by
      rcases hf with e | hf
      · rw [e]; decide
      · have := sok_in ok.ck hf
        exact Nat.lt_of_le_of_lt (show f.1.natAbs ≤ 32768 by omega) (by decide)
    have f2 : f.2.natAbs < 2 ^ 17 := by
      rcases hf with e | hf
      · rw [e]; decide
      · have := hf.p
        have := ok.ck.sl
        exact Nat.lt_of_le_of_lt (show f.2.natAbs ≤ 16 by omega) (by decide)
    have sr : SmA (zz r) 0 36000 := (smA_of (k := 0) (n := 17) (fun d hd => by
      obtain ⟨z, hz, rfl⟩ := List.mem_map.mp hd
      have h1 := hro z hz
      have h2 := ok.ck.ml
      have h3 := h1.1
      have h4 := h1.2
      exact sm_int (Nat.lt_of_le_of_lt (show z.natAbs ≤ 16 by omega) (by decide)))).mono (Nat.le_refl _) (by rw [List.length_map]; omega)
    have s1 : Sm (sd f) 1 36 := (sm_tup (smA_cons (sm_int f1) (smA_cons (sm_int f2) (smA_nil (n := 0))))).mono (Nat.le_refl _) (by decide)
    have s2 : Sm (.tuple [sd f, .tuple (zz r)]) 2 36100 := (sm_tup (smA_cons (s1.mono (k' := 1) (Nat.le_refl _) (Nat.le_refl _)) (smA_cons (sm_tup sr) (smA_nil (n := 0))))).mono (Nat.le_refl _) (by decide)
    refine ⟨_, (sm_list (smA_cons s2 (smA_nil (n := 0)))).mono (Nat.le_refl _) (Nat.le_refl _), by decide, ?_, .inl ⟨_, rfl⟩⟩
    show PyData.hasDictAll [.tuple [sd f, .tuple (zz r)]] = false
    simp only [PyData.hasDictAll, PyData.hasDict, noDict_zz, Bool.or_self]
theorem sv_law_right {K : PySem.W.Frag} {m : Addr} {T : List (Addr × Str)} {c : Cd} {ds : List PyData} (ok : RtOk c ds) : SV K (.em m T) 0 (t_law_right K T) [some c.d, some (.tuple ds), none] (fun o => ∃ d, o = .rt d ∧ d = .bool true) := by
  obtain ⟨hd, hb⟩ := ok.rd.tp ds rfl
  obtain ⟨n, sm, hn, nd, ht⟩ := sm_out ok.rd
  have hl := ok.len
  refine s_set (e_reprI (e_var rfl) ok.it (by omega)) ?_
  refine s_retD (d := .bool true) (E.eq (e_andV (e_op (e_reprD (ev_outcome rfl rfl ok.rd) nd ht sm (by decide) (by omega)) (e_reprD (d := outD c (.tuple ds)) ((e_call_pf (c, ds) ⟨ok.rd.ck, hd⟩ (a_cons (e_var rfl) (a_cons (e_var rfl) a_nil))).eq (outD_file (c := c) (ds := ds)).symm) nd ht sm (by decide) (by omega)) rd_eqS)
    (fun _ => e_op (e_reprI (e_var rfl) ok.it (by omega)) (e_var rfl) rd_eqS)) ?_) ⟨_, rfl, rfl⟩
  rw [decide_eq_true rfl, decide_eq_true rfl]; rfl
end Kt
set_option Elab.async false
set_option linter.all false
set_option maxRecDepth 100000
set_option maxHeartbeats 4000000
namespace Kt
open PySem PySem.Spec PyProof.Rows L2
/-! ### a def that asks repr: what is around it has no guards -/
structure GA (A : Around) : Prop where
  g : A.guards = some []
structure FnOkG (P : Program) (w : World) (K : PySem.W.Frag) (mg : Str → Option Value) (base : Heap) (k : Nat) (f : Addr) (fd : FuncData) (ps : List Str) (sp : Sp) : Prop where
  len : ∀ vs H Q E, sp vs H Q E → vs.length = ps.length
  run : ∀ (A : Around) (outer : List Env) (s : Shared) (H : Hp) (args : Args) (us : List Value) (vs : List V) (Q : VK) (E : XK), Room k A → GA A → Env0 P w K mg base A outer s H → BindsTo s fd args (ps.zip us) → Vals vs us → sp vs H Q E →
    codeAny (model P w) A (.call (.ref f) args) (CR CX0 outer P w H s Q E) s
structure GotG (P : Program) (w : World) (K : PySem.W.Frag) (mg : Str → Option Value) (base : Heap) (k : Nat) (x : Str) (ps : List Str) (sp : Sp) : Prop where
  ex : ∃ (f : Addr) (fd : FuncData), FnOkG P w K mg base k f fd ps sp ∧ mg x = some (.ref f) ∧ PySem.W.keepIn K (.ref f) = true ∧ Binds K fd ps []
theorem pe_gotG {X : Cx} {k : Nat} {x : Str} {ps : List Str} {sp : Sp} {p pos : Pos} {e : Expr} {es : List Expr} {t : TA} (F : GotG X.prog X.w X.K X.mg X.base k x ps sp) (hr : Room k X.A) (hG : GA X.A) (hg : Gl X x) (ha : PA X (e :: es) t) (hdb : (x == ("__debug__" : Str)) = false := by decide)
    (he : starEach (e :: es) X.env = (false, eval e X.env) :: starEach es X.env := by rfl) (hpl : (backTo pos (starEach es X.env)).any (·.1) = false := by rfl) : PE X (.Call (.Name x p) (e :: es) [] pos) (tCall sp [] E0 t) := by
  obtain ⟨f, fd, F, hm, kp, hb⟩ := F.ex
  refine ⟨fun pins s σ H Q I h => ?_⟩
  refine wpAny_Call_Name_kw (ld_glob I hg hm ?_ hdb)
  refine PySem.W.callWith_K (h₀ := X.base) I.ok.mod.kin kp (thn (ha.run pos pins s σ H _ I h) fun us s1 ⟨vs, H1, I1, r, q⟩ => ⟨I1.kIn, ?_⟩) he hpl
  have q : sp (vs ++ []) H1 Q E0 := q
  rw [List.append_nil] at q
  have hl : us.length = ps.length := by rw [← r.length]; exact F.len _ _ _ _ q
  have hbb := hb s1 us I1.kIn (by rw [List.append_nil]; exact hl)
  rw [List.append_nil] at hbb
  refine wpAny_call (codeAny_mono (F.run X.A X.stack s1 H1 ⟨us, []⟩ us vs Q E0 hr hG I1.env0 hbb r q) fun r s' hq => ?_)
  cases r with
  | error e => exact (show False from hq).elim
  | ok fl =>
    cases fl with
    | ret u => exact I1.after hq
    | next => exact False.elim hq
    | brk => exact False.elim hq
    | cont => exact False.elim hq
theorem okG_of {P : Program} {w : World} {K : PySem.W.Frag} {mg : Str → Option Value} {base : Heap} {x : Str} {st : Stmt} {N ps : List Str} {k : Nat} {sp : Sp} {f : Addr} {fd : FuncData} (F : FnD K x st f fd) (sc : FnScope N ps (defScope st)) (len : ∀ vs H Q E, sp vs H Q E → vs.length = ps.length) (t : TS)
    (hrun : ∀ vs H Q E, sp vs H Q E → t { nx := fun _ H' => Q .non H', rt := Q } (start N vs) H)
    (hbody : ∀ (cdv : Value) (A : Around) (outer : List Env) (s : Shared) (H : Hp) (E : XK), cdv = fd.code → Room k (A.deeper (envOfC x (defScope st) s.heap.objs.size f cdv)) → GA A →
      PSs (cxOf CX0 P w K mg base N x (defScope st) f cdv A outer s H E).nox (defBody st) t) : FnOkG P w K mg base (k + 1) f fd ps sp := by
  obtain ⟨oc, od, dV, kV, doc, pm, an, cdv, ct, osl, rfl, lk, hcd, _, _⟩ := F.ex
  exact ⟨len, fun A outer s H args us vs Q E hr hG e0 hb r h => LamX.run_ofS lk hcd sc hr e0 hb r (len _ _ _ _ h) fun hr' => ⟨t, (hbody cdv A outer s H E rfl hr' hG).nox, hrun vs H Q E h⟩⟩
/-! ### the two lambdas' tables -/
def pR : He.Defn := ("_law_right", none)
def pL : He.Defn := ("law", none)
def qR : Str := (("_law_right" : Str) ++ ".<locals>.") ++ "<lambda>"
def qL : Str := (("law" : Str) ++ ".<locals>.") ++ "<lambda>"
def tabs (K : PySem.W.Frag) : List (Addr × Str) := [((He.cT K pR).2, qR), ((He.cT K pL).2, qL)]
section
variable {X : Cx}
/-- _law_outcome(lambda: ..) -/
theorem pe_out (B : Base X.prog X.w X.K X.mg X.base) (BF : BadF X.K X.mg) {T : List (Addr × Str)} {c P : Addr} {k : Nat} {params : Arguments} {body : Expr} {scope : Scope} {t : XK → TE} {p lpos pos : Pos} (hg : Gl X "_law_outcome") (TB : LamX.TabB X.base X.mg c P) (hcode : X.env.code = .ref c) (hmT : (P, X.env.qual ++ "<lambda>") ∈ T)
    (hu : ∀ p ∈ T, p.1 = P → p.2 = X.env.qual ++ "<lambda>") (hr : Room (k + 2) X.A) (L : LamX.LamS X.env.scope scope) (hdef : defaultsOf params X.env = ([], []))
    (hbind : ∀ (q : Str) (cl : List (Str × Addr)) (pm cv ctv : Value), bindArgs (PySem.W.kla_fn "<lambda>" q params body scope cl pm cv ctv) ⟨[], []⟩ = pure [])
    (hbody : ∀ (A : Around) (outer : List Env) (s : Shared) (H : Hp) (E : XK) (f c' : Addr), Room k (A.deeper (LamX.lamEnv X scope s.heap.objs.size f c')) → PE (LamX.lamCx X A outer s H E scope f c') body (t E)) :
    PE X (.Call (.Name "_law_outcome" p) [.Lambda params body scope lpos] [] pos) (LamX.tLam T (TTo X.K) t) := by
  obtain ⟨g, fd, F, hm⟩ := B.law_outcome
  have hb : Binds X.K fd ["deed"] [] := F.bindsN fun _ _ _ _ _ _ us hl => match us, hl with | [_], _ => rfl
  have kp := F.kp
  obtain ⟨oc, od, dV, kV, doc, pm, an, cdv, ct, osl, rfl, lk, hcd, _, _⟩ := F.ex
  exact LamX.pe_lamcall (Ng := N_law_outcome) (a := "deed") hg hm kp lk hcd hb sc_law_outcome rfl (.inl rfl) (outcome_gives B BF (hr.mono (by omega))) TB hcode hmT hu hr L hdef hbind hbody
end
end Kt
set_option Elab.async false
set_option linter.all false
set_option maxRecDepth 100000
set_option maxHeartbeats 4000000
namespace Kt
open PySem PySem.Spec PyProof.Rows L2
/-- as MF, the tables known -/
def MFT (K : PySem.W.Frag) (T : List (Addr × Str)) (c : Nat) {α : Type} (args : α → List PyData) (pre : α → Prop) (res : α → PyData → Prop) : Sp := fun vs H Q _ =>
  ∃ (m : Addr) (n : Nat) (W : Hp) (x : α), Same W H ∧ MSt m T n W H ∧ n + c ≤ lim ∧ IsAll K (some m) W vs (args x) ∧ pre x ∧
    ∀ v d W' H', Go (.em m T) c n W H W' H' → res x d → Is K (some m) W' v d → Q v H'
theorem sd_MFT {K : PySem.W.Frag} {m : Addr} {T : List (Addr × Str)} {c : Nat} {α : Type} {args : α → List PyData} {pre : α → Prop} {res : α → PyData → Prop} (x : α) (hp : pre x) : SD K (.em m T) c (MFT K T c args pre res) (args x) (res x) :=
  fun n W H vs i s l iv Q E q => ⟨m, n, W, x, i, s, l, iv, hp, fun v d W' H' g p iw => q v d W' H' g p iw⟩
theorem mft_len {K : PySem.W.Frag} {T : List (Addr × Str)} {c : Nat} {α : Type} {args : α → List PyData} {pre : α → Prop} {res : α → PyData → Prop} {n : Nat} (h : ∀ x, (args x).length = n) : ∀ vs H Q E, MFT K T c args pre res vs H Q E → vs.length = n :=
  fun vs H Q E ⟨m, k, W, x, _, _, _, iv, _⟩ => iv.length.trans (h x)
theorem mft_run {K : PySem.W.Frag} {T : List (Addr × Str)} {t : TS} {N : List Str} {c : Nat} {α : Type} {args : α → List PyData} {pre : α → Prop} {res : α → PyData → Prop}
    (h : ∀ (m : Addr) (x : α), pre x → SV K (.em m T) c t (ini N.length (args x)) (fun o => ∃ d, o = .rt d ∧ res x d)) (vs : List V) (H : Hp) (Q : VK) (E : XK) (hs : MFT K T c args pre res vs H Q E) : t { nx := fun _ H' => Q .non H', rt := Q } (start N vs) H := by
  obtain ⟨m, n, W, x, i, s, l, iv, hp, q⟩ := hs
  refine h m x hp (fun _ _ _ => True) n _ W H i s l (EnvOk.start iv) _ (fun o W' H' g e => ?_) fun d z => by obtain ⟨_, z, _⟩ := z; cases z
  obtain ⟨d, e, r⟩ := e
  cases e
  exact fun v iv => q v d W' H' g r iv
def sp_right (K : PySem.W.Frag) : Sp := MFT K (tabs K) 0 (fun x : Cd × List PyData => [x.1.d, .tuple x.2]) (fun x => RtOk x.1 x.2) (fun _ d => d = .bool true)
section
variable {P : Program} {w : World} {K : PySem.W.Frag} {mg : Str → Option Value} {base : Heap}
abbrev N_law_right : List Str := ["coder", "data", "kept"]
theorem sc_law_right : FnScope N_law_right ["coder", "data"] (defScope s_law_right) := ⟨rfl, rfl, rfl, by decide +kernel, rfl, by decide +kernel, by decide +kernel⟩
theorem b_law_right (B : Base P w K mg base) (BF : BadF K mg) (TB : LamX.TabB base mg (He.cT K pR).1 (He.cT K pR).2) (hne : (He.cT K pR).2 ≠ (He.cT K pL).2) (f : Addr) (cdv : Value) (A : Around) (outer : List Env) (s : Shared) (H : Hp) (E : XK)
    (hcd : cdv = .ref (He.cT K pR).1) (hr : Room 9 (A.deeper (envOfC "_law_right" (defScope s_law_right) s.heap.objs.size f cdv))) (hG : GA A) :
    PSs (cxOf CX0 P w K mg base N_law_right "_law_right" (defScope s_law_right) f cdv A outer s H E).nox (defBody s_law_right) (t_law_right K (tabs K)) := by
  have hg : (A.deeper (envOfC "_law_right" (defScope s_law_right) s.heap.objs.size f cdv)).guards = some [] := hG.g
  have hu : (A.deeper (envOfC "_law_right" (defScope s_law_right) s.heap.objs.size f cdv)).units + 150 < cLine := by have := hr.un; omega
  exact pss_cons (ps_set (i := 2) sc_law_right.nd rfl (Or.inl rfl) (pe_callB (call_repr hg hu) rfl B.repr boot_repr (pa_cons (pv 1) pa_nil)))
    (pss_one (ps_ret (pe_and (pe_cmpR op_eq (pe_callB (call_repr hg hu) rfl B.repr boot_repr (pa_cons (pe_out (T := tabs K) (k := 7) B BF rfl TB hcd List.mem_cons_self (fun p hp e => by
        rcases List.mem_cons.mp hp with q | q
        · rw [q]; rfl
        · rcases List.mem_cons.mp q with q | q
          · rw [q] at e; exact absurd e.symm hne
          · cases q) hr (LamX.lamS_by (sc := defScope s_law_right) (by decide +kernel)) rfl (fun _ _ _ _ _ => rfl) (fun A outer s H E f c' hr => pe_gotX (fn_read_file B BF) hr rfl (takes_of rfl rfl rfl rfl) (fun _ _ _ _ h => h) (pa_cons (pv 0) (pa_cons (pv 1) pa_nil)))) pa_nil))
      (pe_callB (call_repr hg hu) rfl B.repr boot_repr (pa_cons (pe_got (fn_law_due B) (hr.mono (by decide)) rfl (pa_cons (pv 0) (pa_cons (pv 1) pa_nil))) pa_nil)) (nomark _))
      (pe_one (pe_cmpR op_eq (pe_callB (call_repr hg hu) rfl B.repr boot_repr (pa_cons (pv 1) pa_nil)) (pv 2) (nomark _))))))
end
end Kt
set_option Elab.async false
set_option linter.all false
set_option maxRecDepth 100000
set_option maxHeartbeats 4000000
namespace Kt
open PySem PySem.Spec PyProof.Rows L2
/-! ### how long a right file's row can be -/
section
variable {c : Cd} {ds Y : List PyData} {D : List Int} {n : Nat}
theorem len_bytes (hc : c.Ok) : ∀ (k a : Nat) (due : Option St2) (first : St2) (row : List Int) (f : St2) (r : List Int), OOk c due → a ≤ ds.length → fgo c ds k a due first row = .inr (f, r) → 134 * r.length ≤ 134 * row.length + 254 * (ds.length - a)
  | 0, a, due, first, row, f, r, ho, ha, h => by
    have e : row = r := by injection h with h; injection h
    rw [e]; omega
  | k + 1, a, due, first, row, f, r, ho, ha, h => by
    by_cases z : a < ds.length
    · rw [fgo_succ z] at h
      cases eb : blk c ds a due with
      | inl i => rw [eb] at h; cases h
      | inr q =>
        obtain ⟨e, s, r'⟩ := q
        rw [eb] at h
        have br := blk_inr hc ho eb
        have ih := len_bytes hc k e _ _ _ f r (show OOk c (some (walk c s r')) from walk_ok hc br.so) br.le h
        have h1 := br.ee
        have h2 := br.m2
        have h3 := br.le
        rw [List.length_append] at ih
        omega
    · rw [fgo_end z] at h
      have e : row = r := by injection h with h; injection h
      rw [e]; omega
theorem block_five {s : St2} {r D : List Int} : (zz (blockB s r ++ D))[5]? = some (.int (r.length : Int)) := by
  rw [List.getElem?_map]
  rfl
theorem len_prefix (hc : c.Ok) (hB : Blocks D n) : ∀ (L k a : Nat) (due : Option St2) (first : St2) (row : List Int) (f : St2) (r : List Int), OOk c due → a ≤ Y.length → L ≤ a + D.length → (∀ i, a + i < L → Y[a + i]? = (zz D)[i]?) →
    fgo c Y k a due first row = .inr (f, r) → 134 * r.length ≤ 134 * (row.length + n) + 254 * (Y.length - (L - 5)) := by
  induction hB with
  | nil =>
    intro L k a due first row f r ho ha hL hY h
    have z := len_bytes hc k a due first row f r ho ha h
    have hL : L ≤ a + 0 := hL
    omega
  | @cons s r0 D0 n0 h0 h1 t ih =>
    intro L k a due first row f r ho ha hL hY h
    by_cases hp : a + 5 < L
    · cases k with
      | zero =>
        have e : row = r := by injection h with h; injection h
        rw [e]; omega
      | succ k =>
        by_cases z : a < Y.length
        · rw [fgo_succ z] at h
          cases eb : blk c Y a due with
          | inl i => rw [eb] at h; cases h
          | inr q =>
            obtain ⟨e, s1, r1⟩ := q
            rw [eb] at h
            have br := blk_inr hc ho eb
            have y5 : Y[a + 5]? = some (.int (r0.length : Int)) := by rw [hY 5 hp]; exact block_five
            have hm : (intAt Y (a + 5)).toNat = r0.length := by
              unfold intAt
              rw [y5]
              exact Int.toNat_natCast _
            have hr : r1.length = r0.length := by rw [← br.m, hm]
            have he : e = a + (blockB s r0).length := by rw [br.ee, hr, blockB_len]; omega
            have z2 := ih L k e _ _ _ f r (show OOk c (some (walk c s1 r1)) from walk_ok hc br.so) br.le (by rw [List.length_append] at hL; omega) (fun i hi => by
              have q := hY ((blockB s r0).length + i) (by omega)
              rw [show a + ((blockB s r0).length + i) = e + i by omega] at q
              rw [q]
              unfold zz
              rw [List.map_append, List.getElem?_append_right (by rw [List.length_map]; omega), List.length_map, Nat.add_sub_cancel_left]) h
            rw [List.length_append, hr] at z2
            omega
        · rw [fgo_end z] at h
          have e : row = r := by injection h with h; injection h
          rw [e]; omega
    · have z := len_bytes hc k a due first row f r ho ha h
      omega
theorem row_short (hc : c.Ok) (hl : ds.length ≤ 1055) {f : St2} {r : List Int} (h : file c ds = .inr (f, r)) : r.length ≤ 2000 := by
  have z := len_bytes hc (ds.length + 1) 0 none (0, 0) [] f r trivial (Nat.zero_le _) h
  have e : ([] : List Int).length = 0 := rfl
  omega
theorem row_prefix (hc : c.Ok) (hB : Blocks D n) (hn : n ≤ 42) {a : Nat} {Z : List PyData} (ha : a ≤ D.length) (hY : Y = (zz D).take a ++ Z) (hl : Y.length ≤ 2 * a + 678) {f : St2} {r : List Int} (h : file c Y = .inr (f, r)) : r.length ≤ 2000 := by
  have lD := blocks_len hB
  have lt : ((zz D).take a).length = a := by rw [List.length_take, List.length_map]; omega
  have z := len_prefix hc hB a (Y.length + 1) 0 none (0, 0) [] f r trivial (Nat.zero_le _) (by omega) (fun i hi => by
    rw [hY, Nat.zero_add, List.getElem?_append_left (by omega), List.getElem?_take_of_lt (by omega)]) h
  have e : ([] : List Int).length = 0 := rfl
  omega
/-- what the law hands in, of data that are blocks -/
theorem row_bent2 (hc : c.Ok) (hB : Blocks D n) (hn : n ≤ 42) {X Y' : List PyData} (h1 : Bent (zz D) X) (h2 : Bent X Y') {f : St2} {r : List Int} (h : file c (Y' ++ (zz D).take 6) = .inr (f, r)) : r.length ≤ 2000 := by
  have lD := blocks_len hB
  have lz : (zz D).length = D.length := List.length_map ..
  have l6 : ((zz D).take 6).length ≤ 6 := by rw [List.length_take]; omega
  rcases h1 with h1 | ⟨a, b, h1⟩
  · rcases h2 with h2 | ⟨a', b', h2⟩
    · exact row_short hc (by rw [List.length_append]; omega) h
    · exact row_short hc (by
        have : Y'.length ≤ X.length + X.length := by rw [h2, List.length_append, List.length_take, List.length_drop]; omega
        rw [List.length_append]; omega) h
  · have lX : X.length = min a D.length + (D.length - b) := by rw [h1, List.length_append, List.length_take, List.length_drop, lz]
    rcases h2 with h2 | ⟨a', b', h2⟩
    · exact row_short hc (by rw [List.length_append]; omega) h
    · have lY : Y'.length = min a' X.length + (X.length - b') := by rw [h2, List.length_append, List.length_take, List.length_drop]
      by_cases hq : a' < min a D.length
      · exact row_short hc (by rw [List.length_append]; omega) h
      · refine row_prefix hc hB hn (a := min a D.length) (Z := (X.take a').drop (min a D.length) ++ X.drop b' ++ (zz D).take 6) (Nat.min_le_right _ _) ?_ (by rw [List.length_append]; omega) h
        have e1 : (zz D).take (min a D.length) = (X.take a').take (min a D.length) := by
          rw [List.take_take, Nat.min_eq_left (show min a D.length ≤ a' by omega), h1, List.take_append_of_le_length (by rw [List.length_take, lz]; omega), List.take_take, Nat.min_eq_left (Nat.min_le_left a D.length)]
        rw [e1, ← List.append_assoc, ← List.append_assoc, List.take_append_drop, h2]
theorem row_bent1 (hc : c.Ok) (hB : Blocks D n) (hn : n ≤ 42) {X : List PyData} (h1 : Bent (zz D) X) {f : St2} {r : List Int} (h : file c X = .inr (f, r)) : r.length ≤ 2000 := by
  have lD := blocks_len hB
  have lz : (zz D).length = D.length := List.length_map ..
  refine row_short hc ?_ h
  rcases h1 with h1 | ⟨a, b, h1⟩
  · omega
  · rw [h1, List.length_append, List.length_take, List.length_drop]; omega
theorem bent_len {X Y : List PyData} {k : Nat} (h : Bent X Y) (hk : X.length ≤ k) : Y.length ≤ 2 * k + 1 := by
  rcases h with h | ⟨a, b, h⟩
  · omega
  · rw [h, List.length_append, List.length_take, List.length_drop]; omega
theorem items_nm (h : ItOk ds) : Nm ds := fun d hd => item_ne (h d hd)
theorem items_bytes (h : Bytes D) : ItOk (zz D) := fun d hd => by
  obtain ⟨b, hb, rfl⟩ := List.mem_map.mp hd
  have := h b hb
  exact item_int (by omega)
theorem rt_of (hc : c.Ok) (hi : ItOk ds) (hl : ds.length ≤ 5000) (hb : ∀ f r, file c ds = .inr (f, r) → r.length ≤ 2000) : RtOk c ds := ⟨⟨hc, tup_ne, fun ds' e => by cases e; exact ⟨⟨items_nm hi, by omega⟩, hb⟩⟩, hi, hl⟩
theorem rt_blocks (hc : c.Ok) (hB : Blocks D n) (hn : n ≤ 42) (hy : Bytes D) : RtOk c (zz D) := by
  have lD := blocks_len hB
  have lz : (zz D).length = D.length := List.length_map ..
  exact rt_of hc (items_bytes hy) (by omega) fun f r h => row_short hc (by omega) h
theorem rt_bent1 (hc : c.Ok) (hB : Blocks D n) (hn : n ≤ 42) {X : List PyData} (h1 : Bent (zz D) X) (hi : ItOk X) : RtOk c X := by
  have lD := blocks_len hB
  have lz : (zz D).length = D.length := List.length_map ..
  have lX := bent_len h1 (k := 336) (by omega)
  exact rt_of hc hi (by omega) fun f r h => row_bent1 hc hB hn h1 h
theorem rt_bent2 (hc : c.Ok) (hB : Blocks D n) (hn : n ≤ 42) (hy : Bytes D) {X Y' : List PyData} (h1 : Bent (zz D) X) (h2 : Bent X Y') (hi : ItOk Y') : RtOk c (Y' ++ (zz D).take 6) := by
  have lD := blocks_len hB
  have lz : (zz D).length = D.length := List.length_map ..
  have lX := bent_len h1 (k := 336) (by omega)
  have lY := bent_len h2 (k := 673) (by omega)
  have l6 : ((zz D).take 6).length ≤ 6 := by rw [List.length_take]; omega
  exact rt_of hc (itOk_app hi (itOk_take (items_bytes hy) 6)) (by rw [List.length_append]; omega) fun f r h => row_bent2 hc hB hn h1 h2 h
end
end Kt
set_option Elab.async false
set_option linter.all false
set_option maxRecDepth 100000
set_option maxHeartbeats 4000000
namespace Kt
open PySem PySem.Spec PyProof.Rows L2
def t_law_turn (K : PySem.W.Frag) : TS := (tSeq (tAsg (tCall (sp_law_great_coder K) [] E0 (tCons (tVar 1) tNil)) (gName 3)) (tSeq (tPar 8 9 (tCons (tCall (sp_law_row K) [] E0 (tCons (tVar 1) (tCons (tVar 3) (tCons (tC (.int 40)) tNil)))) (tCons (tCall (sp_law_some_state K) [] E0 (tCons (tVar 1) (tCons (tVar 3) tNil))) tNil))) (tSeq (tAsg (tCall (sp_law_file K) [] E0 (tCons (tVar 3) (tCons (tVar 8) (tCons (tLst (tCons (tOp (rI0 fun i j => .int (i + j)) (tC (.int 1)) (tCall (sp_law_next K) [] E0 (tCons (tVar 1) (tCons (tC (.int 12)) tNil)))) (tCons (tOp (rI0 fun i j => .int (i + j)) (tC (.int 1)) (tCall (sp_law_next K) [] E0 (tCons (tVar 1) (tCons (tC (.int 40)) tNil)))) tNil))) (tCons (tVar 9) tNil))))) (gName 4)) (tSeq (tAsg (tCall (sp_law_pieces K) [] E0 (tCons (tVar 1) (tCons (tVar 3) (tCons (tC (.int 3)) tNil)))) (gName 5)) (tSeq (tFor (iTup K (tTup (tCons (tVar 4) (tCons (tVar 5) tNil)))) (gName 6) (tSeq (tIfS (tNot (tB (tCall (sp_right K) [] E0 (tCons (tVar 3) (tCons (tVar 6) tNil))))) (tRet (tC (.bl false))) tNext) (tFor (iRng1 (tCons (tC (.int 4)) tNil)) (gName 10) (tSeq (tAsg (tCall (sp_law_bent_data K) [] E0 (tCons (tVar 1) (tCons (tVar 6) tNil))) (gName 11)) (tIfS (tOr (tNot (tB (tCall (sp_right K) [] E0 (tCons (tVar 3) (tCons (tVar 11) tNil))))) (tNot (tB (tCall (sp_right K) [] E0 (tCons (tVar 3) (tCons (tOp (rCatA K) (tCall (sp_law_bent_data K) [] E0 (tCons (tVar 1) (tCons (tVar 11) tNil))) (tSl (rSlA K) (tVar 6) tNoPart (tPart (tC (.int 6))))) tNil)))))) (tRet (tC (.bl false))) tNext))))) (tSeq (tAsg (tOp (rIxL K) (tLst (tCons (tC .non) (tCons (tCB (rListQ K) (tCons (tVar 4) tNil)) (tCons (tC (.str "")) (tCons (tC (.int 0)) (tCons tDNewK (tCons (tLst (tCons (tC (.int 165)) (tCons (tC (.int 90)) tNil))) tNil))))))) (tCall (sp_law_next K) [] E0 (tCons (tVar 1) (tCons (tC (.int 6)) tNil)))) (gName 7)) (tIfS (tTest (tOp (rNeD K) (LamX.tLam (tabs K) (TTo K) (fun Ex => tCall (sp_read_file K) [] Ex (tCons (tVar 3) (tCons (tVar 7) tNil)))) (tTup (tCons (tC (.str "byte")) (tCons (tC .non) tNil))))) (tRet (tC (.bl false))) tNext)))))))
def t_law (K : PySem.W.Frag) : TS := (tSeq (tAsg (tCall (sp_law_begun K) [] E0 (tCons (tVar 0) tNil)) (gName 1)) (tSeq (tFor (iRng1 (tCons (tOp (rI0 fun i j => .int (i + j)) (tC (.int 2)) (tCB rMinQ (tCons (tCB (rLenQ K) (tCons (tVar 0) tNil)) (tCons (tC (.int 4)) tNil)))) tNil)) (gName 2) (tSeq (tAsg (tCall (sp_law_great_coder K) [] E0 (tCons (tVar 1) tNil)) (gName 3)) (tSeq (tPar 8 9 (tCons (tCall (sp_law_row K) [] E0 (tCons (tVar 1) (tCons (tVar 3) (tCons (tC (.int 40)) tNil)))) (tCons (tCall (sp_law_some_state K) [] E0 (tCons (tVar 1) (tCons (tVar 3) tNil))) tNil))) (tSeq (tAsg (tCall (sp_law_file K) [] E0 (tCons (tVar 3) (tCons (tVar 8) (tCons (tLst (tCons (tOp (rI0 fun i j => .int (i + j)) (tC (.int 1)) (tCall (sp_law_next K) [] E0 (tCons (tVar 1) (tCons (tC (.int 12)) tNil)))) (tCons (tOp (rI0 fun i j => .int (i + j)) (tC (.int 1)) (tCall (sp_law_next K) [] E0 (tCons (tVar 1) (tCons (tC (.int 40)) tNil)))) tNil))) (tCons (tVar 9) tNil))))) (gName 4)) (tSeq (tAsg (tCall (sp_law_pieces K) [] E0 (tCons (tVar 1) (tCons (tVar 3) (tCons (tC (.int 3)) tNil)))) (gName 5)) (tSeq (tFor (iTup K (tTup (tCons (tVar 4) (tCons (tVar 5) tNil)))) (gName 6) (tSeq (tIfS (tNot (tB (tCall (sp_right K) [] E0 (tCons (tVar 3) (tCons (tVar 6) tNil))))) (tRet (tC (.bl false))) tNext) (tFor (iRng1 (tCons (tC (.int 4)) tNil)) (gName 10) (tSeq (tAsg (tCall (sp_law_bent_data K) [] E0 (tCons (tVar 1) (tCons (tVar 6) tNil))) (gName 11)) (tIfS (tOr (tNot (tB (tCall (sp_right K) [] E0 (tCons (tVar 3) (tCons (tVar 11) tNil))))) (tNot (tB (tCall (sp_right K) [] E0 (tCons (tVar 3) (tCons (tOp (rCatA K) (tCall (sp_law_bent_data K) [] E0 (tCons (tVar 1) (tCons (tVar 11) tNil))) (tSl (rSlA K) (tVar 6) tNoPart (tPart (tC (.int 6))))) tNil)))))) (tRet (tC (.bl false))) tNext))))) (tSeq (tAsg (tOp (rIxL K) (tLst (tCons (tC .non) (tCons (tCB (rListQ K) (tCons (tVar 4) tNil)) (tCons (tC (.str "")) (tCons (tC (.int 0)) (tCons tDNewK (tCons (tLst (tCons (tC (.int 165)) (tCons (tC (.int 90)) tNil))) tNil))))))) (tCall (sp_law_next K) [] E0 (tCons (tVar 1) (tCons (tC (.int 6)) tNil)))) (gName 7)) (tIfS (tTest (tOp (rNeD K) (LamX.tLam (tabs K) (TTo K) (fun Ex => tCall (sp_read_file K) [] Ex (tCons (tVar 3) (tCons (tVar 7) tNil)))) (tTup (tCons (tC (.str "byte")) (tCons (tC .non) tNil))))) (tRet (tC (.bl false))) tNext)))))))) (tRet (tC (.bl true)))))
section
variable {K : PySem.W.Frag} {M : Mode} {m : Addr} {T : List (Addr × Str)} {ρ : En} {O : Out → Prop} {c : Cd} {ds : List PyData} {tt : TT} {t u : TS} {b : Bool} {cc : Nat}
theorem s_skipC (h : TV K M 0 tt ρ (· = b)) (hb : b = false) (r : SV K M cc u ρ O) : SV K M cc (tSeq (tIfS tt t tNext) u) ρ O := s_ifr h (fun z => by rw [hb] at z; cases z) fun _ => r
def iK (N : Nat) : TI := fun _ H R => R (Itr 0 N) H
theorem w_iK {N : Nat} : WV K M 0 (iK N) ρ (· = ixs N) := fun n σ W H i s l e R q => q _ _ W H (Go.refl i s) rfl src_range
theorem ev_right {ts : TA} {X : XK} {PA : List PyData → Prop} (ha : AV K (.em m (tabs K)) cc ts ρ PA) (hp : ∀ l, PA l → ∃ c ds, l = [Cd.d c, .tuple ds] ∧ RtOk c ds) : EV K (.em m (tabs K)) cc (tCall (sp_right K) [] X ts) ρ (fun d => ∃ b, d = .bool b ∧ b = true) :=
  EV.mono (ev_call (c2 := 0) ha fun l pl => by
    obtain ⟨c, ds, e, ok⟩ := hp l pl
    subst e
    exact fun n W H vs is s hl iv Q E q => sd_MFT (K := K) (T := tabs K) (c, ds) ok n W H vs is s hl iv Q E fun u d W' H' g e iu => q u d W' H' g ⟨true, e, rfl⟩ iu) (by omega) fun _ p => p
theorem t_right {ts : TA} {X : XK} (ha : A K (.em m (tabs K)) ts ρ [c.d, .tuple ds]) (ok : RtOk c ds) : TV K (.em m (tabs K)) 0 (tNot (tB (tCall (sp_right K) [] X ts))) ρ (· = false) :=
  TV.mono (tv_not (PB := fun b => b = true) (tv_val (ev_right ha fun l e => ⟨c, ds, e, ok⟩))) (Nat.le_refl _) fun b h => by cases b <;> first | rfl | cases h
theorem out_odd {d : PyData} (h : isTupD d = false) : outD c d = .tuple [.str "byte", .none] := by
  cases d <;> first | rfl | cases h
theorem rd_odd {d : PyData} (hc : c.Ok) (h : isTupD d = false) (hn : d ≠ markD) : RdOk c d := ⟨hc, hn, fun ds e => by rw [e] at h; cases h⟩
theorem ev_ne {te tu : TE} {x y : PyData} (h1 : E K M te ρ x) (h2 : E K M tu ρ y) (dx : x.hasDict = false) (dy : y.hasDict = false) (sx : SeqAt.shaped x = true) (sy : SeqAt.shaped y = true) : E K M (tOp (rNeD K) te tu) ρ (.bool (!PyData.eqv x y)) :=
  e_op h1 h2 fun W H v w e iv iw Q q => ⟨x, y, (iv.up e).dp _ _ dx, (iw.up e).dp _ _ dy, sx, sy, q _ _ W H (Up.refl e) rfl (.bl _)⟩
abbrev Tn (o : Out) : Prop := ∃ x2 x3 x4 x5 x6 x7 x8 x9 x10 x11, o = .nx [none, some markD, x2, x3, x4, x5, x6, x7, x8, x9, x10, x11]
structure Dt (D : List Int) : Prop where
  ex : ∃ n, Blocks D n ∧ n ≤ 42
  by_ : Bytes D
theorem sv_turn {x2 x3 x4 x5 x6 x7 x8 x9 x10 x11 : Option PyData} : SV K (.em m (tabs K)) 3000 (t_law_turn K) [none, some markD, x2, x3, x4, x5, x6, x7, x8, x9, x10, x11] Tn := by
  refine SV.mono (c := 100 + 2800) (s_setP (ec_call (c := 100) (P := fun d => ∃ c : Cd, c.Ok ∧ d = c.d) (a_cons (e_var rfl) a_nil) (sd_MF () trivial)) fun d ⟨c, hc, e⟩ => ?_) (by omega) fun _ p => p
  subst e
  refine SV.mono (c := 102 + 2600) (s_par (av_cons (ec_call (c := 100) (P := fun d => ∃ r, ROk c r ∧ r.length ≤ 40 ∧ d = .tuple (zz r)) (a_cons (e_var rfl) (a_cons (e_var rfl) (a_cons e_int a_nil))) (sd_MF (c, 40) ⟨hc, Nat.le_refl _⟩)) (av_cons (ec_call (c := 2) (P := fun d => ∃ s, SOk c s ∧ d = sd s) (a_cons (e_var rfl) (a_cons (e_var rfl) a_nil)) (sd_MF c hc)) av_nil))
    fun l ⟨d, l2, e, ⟨r, hr1, hr2, e1⟩, d2, l3, e2, ⟨s, hs, e3⟩, e4⟩ => ⟨.tuple (zz r), sd s, by rw [e, e1, e2, e3, e4], ?_⟩) (by omega) fun _ p => p
  refine SV.mono (c := 2 + 2500) (s_setP (P := fun d => ∃ D, Dt D ∧ d = .tuple (zz D)) (EV.mono (ev_call (c1 := 2) (c2 := 0) (AV.mono (c' := 2) (av_cons (e_var rfl) (av_cons (e_var rfl) (av_cons (P1 := fun d => ∃ z1 z2 : Int, d = .list (zz [z1, z2]) ∧ (1 ≤ z1 ∧ z1 ≤ 255) ∧ (1 ≤ z2 ∧ z2 ≤ 255)) (ev_lst (c := 2) (AV.mono (c' := 2) (av_cons (ei_add (P := fun v => 1 ≤ v ∧ v ≤ 255) (ei_of (P := fun i => i = 1) e_int rfl) (ei_drawD (X := E0) (e_var rfl) e_int (by decide) (by decide)) (fun i j e p => by omega))
    (av_cons (ei_add (P := fun v => 1 ≤ v ∧ v ≤ 255) (ei_of (P := fun i => i = 1) e_int rfl) (ei_drawD (X := E0) (e_var rfl) e_int (by decide) (by decide)) (fun i j e p => by omega)) av_nil)) (by omega) fun _ p => p) (fun l ⟨d, l2, e, _, d2, l3, e2, _, e4⟩ => by rw [e, e2, e4]; exact len2) fun l ⟨d, l2, e, ⟨z1, e1, p1⟩, d2, l3, e2, ⟨z2, e3, p2⟩, e4⟩ => ⟨z1, z2, by rw [e, e1, e2, e3, e4]; rfl, p1, p2⟩) (av_cons (e_var rfl) av_nil)))) (by omega) fun _ p => p)
    (fun l ⟨d1, l1, e1, f1, d2, l2, e2, f2, d3, l3, e3, ⟨z1, z2, f3, p1, p2⟩, d4, l4, e4, f4, e5⟩ => ?_)) (by omega) fun _ p => p) fun d ⟨D, hD, e⟩ => ?_) (by omega) fun _ p => p
  · subst e1 e2 e3 e4 e5 f1 f2 f3 f4
    have hzz : ∀ y ∈ [z1, z2], 1 ≤ y ∧ y ≤ 255 := fun y hy => by
      rcases List.mem_cons.mp hy with q | q
      · rw [q]; exact p1
      · rcases List.mem_cons.mp q with q | q
        · rw [q]; exact p2
        · cases q
    have fo : FOk c r [z1, z2] s := ⟨hc, hr1, hr2, (fun q => nomatch q), hzz, by show 2 ≤ 10; decide, hs⟩
    have fb := fileB_blocks fo (r.length + 1) 0 0 s (by omega)
    have fy := fileB_bytes fo (r.length + 1) 0 0 s hs
    have hr2 : r.length ≤ 40 := hr2
    exact fun n W H vs is s1 hl iv Q E q => sd_PF (K := K) (M := .em m (tabs K)) (c, r, [z1, z2], s) fo n W H vs is s1 hl iv Q E fun u d W' H' g e iu => q u d W' H' g ⟨_, ⟨⟨_, fb, by omega⟩, fy⟩, e⟩ iu
  subst e
  refine SV.mono (c := 1000 + 1400) (s_setP (P := fun d => ∃ D, Dt D ∧ d = .tuple (zz D)) (EV.mono (ec_call (c := 1000) (P := fun d => ∃ D n, Blocks D n ∧ n ≤ 42 ∧ Bytes D ∧ d = .tuple (zz D)) (a_cons (e_var rfl) (a_cons (e_var rfl) (a_cons e_int a_nil))) (sd_MF c hc)) (Nat.le_refl _) fun d ⟨D, n, h1, h2, h3, e⟩ => ⟨D, ⟨⟨n, h1, h2⟩, h3⟩, e⟩) fun d ⟨D2, hD2, e⟩ => ?_) (by omega) fun _ p => p
  subst e
  refine SV.mono (c := (0 + 2 * 400) + 500) (s_then (s_for (c1 := 0) (c2 := 400) (L := 2) (w_tup (e_tup (a_cons (e_var rfl) (a_cons (e_var rfl) a_nil)) len2)) (fun items e => by rw [e]; exact Nat.le_refl 2)
    (fun _ _ ρ => ∃ y6 y10 y11, ρ = [none, some markD, x2, some c.d, some (.tuple (zz D)), some (.tuple (zz D2)), y6, x7, some (.tuple (zz r)), some (sd s), y10, y11]) (fun _ _ => ⟨_, _, _, rfl⟩) (fun items i d ρ1 e hi ⟨y6, y10, y11, hρ⟩ => ?_) fun items ρ1 e ⟨y6, y10, y11, hρ⟩ => ⟨_, rfl, ?_⟩)) (by omega) fun _ p => p
  · subst e hρ
    obtain ⟨D0, hD0, rfl⟩ : ∃ D0, Dt D0 ∧ d = .tuple (zz D0) := by
      match i, hi with
      | 0, hi => cases hi; exact ⟨D, hD, rfl⟩
      | 1, hi => cases hi; exact ⟨D2, hD2, rfl⟩
      | i + 2, hi => cases hi
    obtain ⟨⟨n0, hB, hn⟩, hy⟩ := hD0
    refine ⟨_, gv_name, ?_⟩
    refine s_skipC (t_right (a_cons (e_var rfl) (a_cons (e_var rfl) a_nil)) (rt_blocks hc hB hn hy)) rfl ?_
    refine SV.mono (c := 0 + 4 * 60) (s_for (c1 := 0) (c2 := 60) (L := 4) (w_rangeD (n := 4) e_int (by decide)) (fun items e => by rw [e]; exact Nat.le_refl 4)
      (fun _ _ ρ => ∃ y10 y11, ρ = [none, some markD, x2, some c.d, some (.tuple (zz D)), some (.tuple (zz D2)), some (.tuple (zz D0)), x7, some (.tuple (zz r)), some (sd s), y10, y11]) (fun _ _ => ⟨_, _, rfl⟩) (fun items i d ρ1 e hi ⟨y10, y11, hρ⟩ => ?_) fun items ρ1 e ⟨y10, y11, hρ⟩ => ?_) (by omega) fun _ p => p
    · subst e hρ
      refine ⟨_, gv_name, ?_⟩
      have lD := blocks_len hB
      have lz : (zz D0).length = D0.length := List.length_map ..
      refine SV.mono (c := 20 + 20) (s_setP (ec_call (c := 20) (P := fun d => ∃ Y, Bent (zz D0) Y ∧ ItOk Y ∧ d = .tuple Y) (a_cons (e_var rfl) (a_cons (e_var rfl) a_nil)) (sd_MF (zz D0) ⟨items_bytes hy, by omega⟩)) fun d ⟨Y, hb, hi, e⟩ => ?_) (by omega) fun _ p => p
      subst e
      have lX := bent_len hb (k := 336) (by omega)
      refine SV.mono (c := (0 + 20) + 0) (s_ifV (PB := fun b => b = false) (tv_or (c1 := 0) (c2 := 20) (TV.mono (t_right (a_cons (e_var rfl) (a_cons (e_var rfl) a_nil)) (rt_bent1 hc hB hn hb hi)) (Nat.le_refl _) fun b h z => by rw [h] at z; cases z)
        (TV.mono (tv_not (PB := fun b => b = true) (tv_val (ev_right (cc := 20) (PA := fun l => ∃ Y', Bent Y Y' ∧ ItOk Y' ∧ l = [c.d, .tuple (Y' ++ (zz D0).take 6)]) (AV.mono (av_cons (e_var rfl) (av_cons (P1 := fun d => ∃ Y', Bent Y Y' ∧ ItOk Y' ∧ d = .tuple (Y' ++ (zz D0).take 6)) (ev_op (c1 := 20) (c2 := 0) (ec_call (c := 20) (P := fun d => ∃ Y', Bent Y Y' ∧ ItOk Y' ∧ d = .tuple Y') (X := E0) (a_cons (e_var rfl) (a_cons (e_var rfl) a_nil)) (sd_MF Y ⟨hi, by omega⟩)) (e_to (a := 6) (e_var rfl) e_int) (fun x y ⟨Y', h1, h2, e1⟩ e2 => ?_)) av_nil)) (by omega) fun l ⟨d1, l1, e1, f1, d2, l2, e2, ⟨Y', g1, g2, g3⟩, e3⟩ => ⟨Y', g1, g2, by rw [e1, f1, e2, g3, e3]⟩)
          fun l ⟨Y', h1, h2, e⟩ => ⟨c, _, e, rt_bent2 hc hB hn hy hb h1 h2⟩))) (Nat.le_refl _) fun b h => by cases b <;> first | rfl | cases h)) (fun z => by cases z) fun _ => s_next ⟨_, _, rfl⟩) (by omega) fun _ p => p
      subst e1 e2
      have lY := bent_len h1 (k := 673) (by omega)
      have z := rd_catT (K := K) (M := .em m (tabs K)) (ds := Y') (es := (zz D0).take 6) (by rw [List.length_take]; omega)
      exact fun W H v w e iv iw Q q => z W H v w e iv iw Q fun u d W' H' up e' iu => q u d W' H' up ⟨Y', h1, h2, e'⟩ iu
    · subst e hρ
      exact ⟨_, _, _, rfl⟩
  · subst e hρ
    refine SV.mono (c := 1 + 0) (s_setP (P := fun d => isTupD d = false ∧ d ≠ markD) (ev_pick (e_lst (a_cons e_non (a_cons (e_listT (e_var rfl)) (a_cons e_str (a_cons e_int (a_cons e_dnew (a_cons (e_lst (a_cons e_int (a_cons e_int a_nil)) len2) a_nil)))))) (by show 6 ≤ 16000000; decide)) (ei_drawD (X := E0) (e_var rfl) e_int (by show (1 : Int) ≤ 6; decide) (by show (6 : Int) ≤ 1000000; decide)) (fun d hd => ?_)) fun odd ⟨h1, h2⟩ => ?_) (by omega) fun _ p => p
    · rcases List.mem_cons.mp hd with e | hd
      · rw [e]; exact ⟨rfl, fun z => nomatch z⟩
      rcases List.mem_cons.mp hd with e | hd
      · rw [e]; exact ⟨rfl, fun z => nomatch z⟩
      rcases List.mem_cons.mp hd with e | hd
      · rw [e]; exact ⟨rfl, fun z => nomatch z⟩
      rcases List.mem_cons.mp hd with e | hd
      · rw [e]; exact ⟨rfl, fun z => nomatch z⟩
      rcases List.mem_cons.mp hd with e | hd
      · rw [e]; exact ⟨rfl, fun z => nomatch z⟩
      rcases List.mem_cons.mp hd with e | hd
      · rw [e]; exact ⟨rfl, fun z => nomatch z⟩
      · cases hd
    · refine s_if (b := false) (T.eq (t_test (ev_ne (x := .tuple [.str "byte", .none]) (y := .tuple [.str "byte", .none]) ((ev_outcome rfl rfl (rd_odd hc h1 h2)).eq (out_odd h1)) (e_tup (a_cons e_str (a_cons e_non a_nil)) len2) (by decide +kernel) (by decide +kernel) (by decide +kernel) (by decide +kernel))) (by rw [SeqAt.eqv_refl _ (by decide +kernel)]; rfl)) (fun z => nomatch z) fun _ => s_next ⟨_, _, _, _, _, _, _, _, _, _, rfl⟩
end
end Kt
set_option Elab.async false
set_option linter.all false
set_option maxRecDepth 100000
set_option maxHeartbeats 4000000
namespace Kt
open PySem PySem.Spec PyProof.Rows L2
def sp_law (K : PySem.W.Frag) : Sp := fun vs H Q _ => ∃ (a : Addr) (ns : List Int), vs = [.ref a] ∧ SqL K H a (ns.map V.int) ∧ ns.length ≤ 100 ∧ (∀ p ∈ tabs K, H p.1 = some (.tbl #[])) ∧ ∀ H', Q (.bl true) H'
abbrev N_law : List Str := ["script", "m", "turn", "coder", "data", "far", "some", "odd", "row", "here", "again", "bent"]
theorem sv_law {K : PySem.W.Frag} {m : Addr} {N : Nat} (hN : N ≤ 6) : SV K (.em m (tabs K)) 20000 (tSeq (tFor (iK N) (gName 2) (t_law_turn K)) (tRet (tC (.bl true)))) [none, some markD, none, none, none, none, none, none, none, none, none, none] (fun o => o = .rt (.bool true)) := by
  refine SV.mono (c := (0 + 6 * 3000) + 0) (s_then (O := (· = .rt (.bool true))) (s_for (c1 := 0) (c2 := 3000) (L := 6) w_iK (fun items e => by rw [e, ixs_len]; exact hN) (fun _ _ ρ => ∃ x2 x3 x4 x5 x6 x7 x8 x9 x10 x11, ρ = [none, some markD, x2, x3, x4, x5, x6, x7, x8, x9, x10, x11]) (fun _ _ => ⟨_, _, _, _, _, _, _, _, _, _, rfl⟩)
    (fun items i d ρ1 e hi ⟨x2, x3, x4, x5, x6, x7, x8, x9, x10, x11, hρ⟩ => ⟨_, gv_name, ?_⟩) fun items ρ1 e ⟨x2, x3, x4, x5, x6, x7, x8, x9, x10, x11, hρ⟩ => ⟨_, rfl, s_retD e_bl rfl⟩)) (by omega) fun _ p => p
  subst hρ
  refine SV.mono sv_turn (Nat.le_refl _) fun o ⟨y2, y3, y4, y5, y6, y7, y8, y9, y10, y11, e⟩ => ?_
  subst e
  exact ⟨_, _, _, _, _, _, _, _, _, _, rfl⟩
theorem run_law {K : PySem.W.Frag} : ∀ vs H Q E, sp_law K vs H Q E → t_law K { nx := fun _ H' => Q .non H', rt := Q } (start N_law vs) H := by
  rintro vs H Q E ⟨a, ns, rfl, hS, hl, hT, q⟩
  refine ⟨_, rfl, a, ns, rfl, hS, hl, fun m c l left H' sm hm hc hll ne em ec el ll => ?_⟩
  have hS' := sm.seq hS
  refine ⟨_, rfl, a, _, rfl, .inl hS', _, _, rfl, 2, _, rfl, rfl, _, rfl, ?_⟩
  generalize hz : ((2 : Int) + if (4 : Int) < ((ns.map V.int).length : Int) then 4 else ((ns.map V.int).length : Int)) = z
  have z1 : 2 ≤ z ∧ z ≤ 6 := by rw [← hz]; split <;> omega
  refine ⟨by omega, by omega, ?_⟩
  have st : MSt m (tabs K) 0 (fun _ => none) H' := ⟨⟨c, l, ns, left, 0, em, ec, el, ne, rfl, rfl, rfl, hl, by omega, Nat.le_refl _⟩, fun p hp => LamX.TabS.nil (sm _ _ (hT p hp)), fun _ _ e => nomatch e⟩
  have env : EnvOk K (some m) (fun _ => none) ((start N_law [.ref a]).set 1 (some (.ref m))) [none, some markD, none, none, none, none, none, none, none, none, none, none] := ⟨rfl, fun i d e => by
    match i, e with
    | 0, e => cases e
    | 1, e => cases e; exact ⟨_, rfl, .em rfl⟩
    | 2, e => cases e
    | 3, e => cases e
    | 4, e => cases e
    | 5, e => cases e
    | 6, e => cases e
    | 7, e => cases e
    | 8, e => cases e
    | 9, e => cases e
    | 10, e => cases e
    | 11, e => cases e
    | i + 12, e => cases e⟩
  refine sv_law (K := K) (m := m) (N := z.toNat) (by omega) (fun _ _ _ => True) 0 _ (fun _ => none) H' (fun b u e => nomatch e) st (by unfold lim; omega) env _ (fun o W' H2 g e => ?_) fun d z => nomatch z
  subst e
  intro v iv
  cases iv
  exact q H2
section
variable {P : Program} {w : World} {K : PySem.W.Frag} {mg : Str → Option Value} {base : Heap}
theorem sc_law : FnScope N_law ["script"] (defScope s_law) := ⟨rfl, rfl, rfl, by decide +kernel, rfl, by decide +kernel, by decide +kernel⟩
theorem b_law (B : Base P w K mg base) (BF : BadF K mg) (GR : GotG P w K mg base 10 "_law_right" ["coder", "data"] (sp_right K)) (TBL : LamX.TabB base mg (He.cT K pL).1 (He.cT K pL).2) (hne : (He.cT K pR).2 ≠ (He.cT K pL).2) (f : Addr) (cdv : Value) (A : Around) (outer : List Env) (s : Shared) (H : Hp) (E : XK)
    (hcd : cdv = .ref (He.cT K pL).1) (hr : Room 10 (A.deeper (envOfC "law" (defScope s_law) s.heap.objs.size f cdv))) (hA : GA A) :
    PSs (cxOf CX0 P w K mg base N_law "law" (defScope s_law) f cdv A outer s H E).nox (defBody s_law) (t_law K) := by
  have hG : GA (A.deeper (envOfC "law" (defScope s_law) s.heap.objs.size f cdv)) := ⟨hA.g⟩
  have hu2 : ∀ p ∈ tabs K, p.1 = (He.cT K pL).2 → p.2 = (("law" : Str) ++ ".<locals>.") ++ "<lambda>" := fun p hp e => by
    rcases List.mem_cons.mp hp with q | q
    · rw [q] at e; exact absurd e hne
    · rcases List.mem_cons.mp q with q | q
      · rw [q]; rfl
      · cases q
  exact
(pss_cons (ps_set (i := 1) sc_law.nd rfl (Or.inl rfl) (pe_got (fn_law_begun B) (hr.mono (by decide)) rfl (pa_cons (pv 0) pa_nil))) (pss_cons (ps_for PassesOwn.never rfl (pi_range1 rfl B.range (pa_cons (pe_op op_add pe_int (pe_callB (call_minQ rfl) rfl B.min boot_min (pa_cons (pe_callB call_lenQ rfl B.len boot_len (pa_cons (pv 0) pa_nil)) (pa_cons pe_int pa_nil)))) pa_nil)) (pg_name (i := 2) sc_law.nd rfl (Or.inl rfl)) (pss_cons (ps_set (i := 3) sc_law.nd rfl (Or.inr rfl) (pe_got (fn_law_great_coder B) (hr.mono (by decide)) rfl (pa_cons (pv 1) pa_nil))) (pss_cons (ps_par (i := 8) (j := 9) rfl sc_law.nd rfl rfl (by decide) rfl rfl (pa_cons (pe_got (fn_law_row B) (hr.mono (by decide)) rfl (pa_cons (pv 1) (pa_cons (pv 3) (pa_cons pe_int pa_nil)))) (pa_cons (pe_got (fn_law_some_state B) (hr.mono (by decide)) rfl (pa_cons (pv 1) (pa_cons (pv 3) pa_nil))) pa_nil)) rfl) (pss_cons (ps_set (i := 4) sc_law.nd rfl (Or.inl rfl) (pe_got (fn_law_file B) (hr.mono (by decide)) rfl (pa_cons (pv 3) (pa_cons (pv 8) (pa_cons (pe_lst (pa_cons (pe_op op_add pe_int (pe_got (fn_law_next B) (hr.mono (by decide)) rfl (pa_cons (pv 1) (pa_cons pe_int pa_nil)))) (pa_cons (pe_op op_add pe_int (pe_got (fn_law_next B) (hr.mono (by decide)) rfl (pa_cons (pv 1) (pa_cons pe_int pa_nil)))) pa_nil))) (pa_cons (pv 9) pa_nil)))))) (pss_cons (ps_set (i := 5) sc_law.nd rfl (Or.inl rfl) (pe_got (fn_law_pieces B) (hr.mono (by decide)) rfl (pa_cons (pv 1) (pa_cons (pv 3) (pa_cons pe_int pa_nil))))) (pss_cons (ps_for PassesOwn.never rfl (pi_tup (pe_tup (pa_cons (pv 4) (pa_cons (pv 5) pa_nil)))) (pg_name (i := 6) sc_law.nd rfl (Or.inl rfl)) (pss_cons (ps_if (pt_not (pt_val (pe_gotG GR (hr.mono (by decide)) hG rfl (pa_cons (pv 3) (pa_cons (pv 6) pa_nil))))) (pss_one (ps_ret pe_bl)) pss_nil) (pss_one (ps_for PassesOwn.never rfl (pi_range1 rfl B.range (pa_cons pe_int pa_nil)) (pg_name (i := 10) sc_law.nd rfl (Or.inl rfl)) (pss_cons (ps_set (i := 11) sc_law.nd rfl (Or.inl rfl) (pe_got (fn_law_bent_data B) (hr.mono (by decide)) rfl (pa_cons (pv 1) (pa_cons (pv 6) pa_nil)))) (pss_one (ps_if (PW.pt (pw_or (pt_not (pt_val (pe_gotG GR (hr.mono (by decide)) hG rfl (pa_cons (pv 3) (pa_cons (pv 11) pa_nil))))) (pw_or1 (pt_not (pt_val (pe_gotG GR (hr.mono (by decide)) hG rfl (pa_cons (pv 3) (pa_cons (pe_op op_catA (pe_got (fn_law_bent_data B) (hr.mono (by decide)) rfl (pa_cons (pv 1) (pa_cons (pv 11) pa_nil))) (pe_slice sl_tupA (pv 6) po_none (po_some pe_int))) pa_nil)))))))) (pss_one (ps_ret pe_bl)) pss_nil))))))) (pss_cons (ps_set (i := 7) sc_law.nd rfl (Or.inr rfl) (pe_ix ix_list (pe_lst (pa_cons pe_non (pa_cons (pe_callTy call_listQ rfl B.list boot_list (pa_cons (pv 4) pa_nil)) (pa_cons pe_str (pa_cons pe_int (pa_cons pe_dnewK (pa_cons (pe_lst (pa_cons pe_int (pa_cons pe_int pa_nil))) pa_nil))))))) (pe_got (fn_law_next B) (hr.mono (by decide)) rfl (pa_cons (pv 1) (pa_cons pe_int pa_nil))) (fun _ _ => rfl))) (pss_one (ps_if (pt_cmpR (op_neD hr.units) (pe_out (T := tabs K) (k := 7) B BF rfl TBL hcd (List.mem_cons_of_mem _ List.mem_cons_self) hu2 (hr.mono (by decide)) (LamX.lamS_by (sc := defScope s_law) (by decide +kernel)) rfl (fun _ _ _ _ _ => rfl) (fun A outer s H E f c' hr => pe_gotX (fn_read_file B BF) hr rfl (takes_of rfl rfl rfl rfl) (fun _ _ _ _ h => h) (pa_cons (pv 3) (pa_cons (pv 7) pa_nil)))) (pe_tup (pa_cons pe_str (pa_cons pe_non pa_nil))) (nomark _)) (pss_one (ps_ret pe_bl)) pss_nil))))))))) (pss_one (ps_ret pe_bl))))
end
end Kt
set_option Elab.async false
set_option linter.all false
set_option maxRecDepth 100000
set_option maxHeartbeats 4000000
namespace Kt
open PySem PySem.Spec PyProof.Rows L2
/-! ### the two defs that make lambdas -/
section
variable {P : Program} {w : World} {K : PySem.W.Frag} {mg : Str → Option Value} {base : Heap}
theorem code_at {x : Str} {st : Stmt} {p : He.Defn} {f : Addr} {fd : FuncData} (F : FnD K x st f fd) (hf : f = He.fAd K p) : fd.code = .ref (He.cT K p).1 := by
  obtain ⟨oc, od, dV, kV, doc, pm, an, cdv, ct, osl, rfl, lk, hcd, _, _⟩ := F.ex
  obtain ⟨c, rfl⟩ := He.codeIn_ref hcd
  rw [hf] at lk
  show Value.ref c = .ref (He.codeOf K p)
  rw [He.codeOf_eq lk rfl]
theorem got_right (B : Base P w K mg base) (BF : BadF K mg) (hR : mg "_law_right" = some (.ref (He.fAd K pR))) (TB : LamX.TabB base mg (He.cT K pR).1 (He.cT K pR).2) (hne : (He.cT K pR).2 ≠ (He.cT K pL).2) : GotG P w K mg base 10 "_law_right" ["coder", "data"] (sp_right K) := by
  obtain ⟨f, fd, F, hm⟩ := B.law_right
  have hf : f = He.fAd K pR := by rw [hm] at hR; injection hR with hR; injection hR
  exact ⟨f, fd, okG_of F sc_law_right (mft_len fun _ => rfl) (t_law_right K (tabs K)) (mft_run (N := N_law_right) fun m x h => sv_law_right h)
    fun cdv A outer s H E e hr hG => b_law_right B BF TB hne f cdv A outer s H E (by rw [e]; exact code_at F hf) hr hG, hm, F.kp, F.bindsN fun _ _ _ _ _ _ us hl => match us, hl with | [_, _], _ => rfl⟩
theorem ok_law (B : Base P w K mg base) (BF : BadF K mg) (hR : mg "_law_right" = some (.ref (He.fAd K pR))) (TB : LamX.TabB base mg (He.cT K pR).1 (He.cT K pR).2) (TBL : LamX.TabB base mg (He.cT K pL).1 (He.cT K pL).2) (hne : (He.cT K pR).2 ≠ (He.cT K pL).2)
    {f : Addr} {fd : FuncData} (F : FnD K "law" s_law f fd) (hf : f = He.fAd K pL) : FnOkG P w K mg base 11 f fd ["script"] (sp_law K) :=
  okG_of F sc_law (fun vs H Q E ⟨_, _, e, _⟩ => by rw [e]; rfl) (t_law K) run_law fun cdv A outer s H E e hr hG => b_law B BF (got_right B BF hR TB hne) TBL hne f cdv A outer s H E (by rw [e]; exact code_at F hf) hr hG
end
/-! ### the call of the law -/
/-- what is tracked at the call: the tables, and the script where the written part has it not -/
def Hs (K : PySem.W.Frag) (ts : List Addr) (a : Addr) (o : Obj) (xs : List V) : Hp := fun b => if b ∈ ts then some (.tbl #[]) else if b = a ∧ K.lookup a = none then some (.frz o (.lst xs)) else none
section
variable {P : Program} {w : World} {K : PySem.W.Frag} {mg mb : Str → Option Value} {k : Nat} {fa a : Addr} {cs : List (Addr × Addr)} {fd : FuncData} {x : Str} {sp : Sp} {s : Shared} {vs : List Value} {ns : List Int}
theorem law_end (KX : K.In s.heap) (hns : s.heap.Ns mainGlobals mg) (hb : s.heap.Ns builtinsNs mb) (hbb : ∀ x : Str, x ≠ "__name__" → mb x = bootBuiltins x) (hlim : s.heap.NoLimit) (hg : s.gens = #[])
    (hT : ∀ p ∈ cs, s.heap.get? p.2 = some { cls := .none, data := .fields #[] }) (nT : ∀ p ∈ cs, K.lookup p.2 = none) (C : ∀ p ∈ cs, PySem.W.CodeHd s.heap p.1 p.2)
    (hbm : ∃ (bm : Addr) (ob : Obj), mg "__builtins__" = some (.ref bm) ∧ bm ≠ builtinsNs ∧ s.heap.get? bm = some ob ∧ ob.cls = .type "module" ∧ ob.dict = some builtinsNs ∧ ob.data = .plain)
    (ha : s.heap.get? a = some { cls := .type "list", data := .seq vs.toArray }) (hi : IntsAre vs ns) (hl : ns.length ≤ sizeLine) (hr : Room k callerA)
    (F : ∀ base : Heap, K.In base → base.Ns mainGlobals mg → (∀ p ∈ cs, LamX.TabB base mg p.1 p.2) → FnOkG P w K mg base k fa fd [x] sp) (hbind : ∀ (s : Shared) (u : Value), BindsTo s fd ⟨[u], []⟩ [(x, u)])
    (hsp : ∀ H : Hp, (∀ p ∈ cs, H p.2 = some (.tbl #[])) → SqL K H a (ns.map V.int) → sp [.ref a] H (fun v _ => v = .bl true) fun _ _ _ => False) :
    codeAny (model P w) callerA (.call (.ref fa) ⟨[.ref a], []⟩) (fun r s' => r = .ok (.ret (.bool true)) ∧ OldK s.heap s'.heap ∧ s'.os = s.os ∧ AllBare s'.gens) s := by
  have rv := vals_ints hi
  have lenV := hi.length
  generalize hts : cs.map (·.2) = ts
  have inT : ∀ {b : Addr}, b ∈ ts → ∃ p ∈ cs, p.2 = b := fun {b} h => by
    rw [← hts] at h
    obtain ⟨p, hp, e⟩ := List.mem_map.mp h
    exact ⟨p, hp, e⟩
  have toT : ∀ {p : Addr × Addr}, p ∈ cs → p.2 ∈ ts := fun {p} hp => by rw [← hts]; exact List.mem_map.mpr ⟨p, hp, rfl⟩
  have getT : ∀ {b : Addr}, b ∈ ts → s.heap.get? b = some { cls := .none, data := .fields #[] } := fun h => by
    obtain ⟨p, hp, e⟩ := inT h
    rw [← e]; exact hT p hp
  generalize hH : Hs K ts a { cls := .type "list", data := .seq vs.toArray } (ns.map V.int) = H
  have H1 : ∀ {b : Addr}, b ∈ ts → H b = some (.tbl #[]) := fun h => by rw [← hH]; exact if_pos h
  have H2 : ∀ {b : Addr}, b ∉ ts → b = a → K.lookup a = none → H b = some (.frz { cls := .type "list", data := .seq vs.toArray } (.lst (ns.map V.int))) := fun h e n => by rw [← hH]; exact (if_neg h).trans (if_pos ⟨e, n⟩)
  have H3 : ∀ {b : Addr}, b ∉ ts → ¬ (b = a ∧ K.lookup a = none) → H b = none := fun h e => by rw [← hH]; exact (if_neg h).trans (if_neg e)
  have na : a ∉ ts := fun h => by
    have z := getT h
    rw [ha] at z
    have z2 := congrArg Obj.data (Option.some.inj z)
    cases z2
  -- an object that is neither a list nor an empty table is not tracked
  have free : ∀ {b : Addr} {o : Obj}, s.heap.get? b = some o → (∀ xs n, o.data ≠ .seq xs n) → o.data ≠ .fields #[] → H b = none := fun {b o} e h1 h2 => H3 (fun h => by
      rw [getT h] at e; cases e; exact h2 rfl) fun ⟨h, _⟩ => by
      rw [h, ha] at e; cases e; exact h1 _ _ rfl
  have dict : ∀ {b : Addr} {o : Obj} {es : Array DictEntry} {ep : Nat}, s.heap.get? b = some o → o.data = .dict es ep → H b = none := fun {b o es ep} e d =>
    free e (fun xs n z => by rw [d] at z; cases z) fun z => by rw [d] at z; cases z
  have ns' : ∀ {b : Addr} {m : Str → Option Value}, s.heap.Ns b m → (hidT s.heap H).Ns b m := fun ⟨o, es, ep, e, d, r⟩ => ⟨o, es, ep, hidT_get e (dict e d), d, r⟩
  have kIn : K.In (hidT s.heap H) := fun b o e => hidT_get (KX b o e) (H3 (fun h => by
      obtain ⟨p, hp, ep⟩ := inT h
      rw [← ep, nT p hp] at e; cases e) fun ⟨h1, h2⟩ => by rw [h1, h2] at e; cases e)
  have tab : ∀ p ∈ cs, LamX.TabB (hidT s.heap H) mg p.1 p.2 := fun p hp => by
    have hTp := hT p hp
    obtain ⟨om, em, pm, g1, g2, _⟩ := hns
    refine ⟨?_, ?_, fun z => ?_⟩
    · obtain ⟨o, us, file, tf, flags, tg, inF, text, tt, e1, r1, r2, r3, rest⟩ := C p hp
      refine ⟨o, us, file, tf, flags, tg, inF, text, tt, hidT_get e1 (free e1 (fun xs n z => by rw [r2] at z; cases z) fun z => ?_), r1, r2, r3, rest⟩
      rw [r2] at z; cases z; simp at r3
    · obtain ⟨bm, ob, b1, b2, b3, b4, b5, b6⟩ := hbm
      refine ⟨bm, ob, b1, b2, fun q => ?_, fun q => ?_, hidT_get b3 (free b3 (fun xs n z => by rw [b6] at z; cases z) fun z => by rw [b6] at z; cases z), b4, b5, b6⟩
      · rw [q, g1] at b3; cases b3; rw [g2] at b6; cases b6
      · rw [q, hTp] at b3; cases b3; cases b6
    · rw [z, hTp] at g1; cases g1; cases g2
  have ok : HOk P w H s.heap := fun b u e => by
    by_cases h : b ∈ ts
    · rw [H1 h] at e; cases e; exact getT h
    · by_cases h2 : b = a ∧ K.lookup a = none
      · rw [H2 h h2.1 h2.2] at e; cases e
        rw [h2.1]
        exact ⟨ha, by rw [List.length_map]; exact hl, vs, _, rv, ha⟩
      · rw [H3 h h2] at e; cases e
  have sq : SqL K H a (ns.map V.int) := by
    cases q : K.lookup a with
    | none => exact .inl (.inr ⟨_, H2 na rfl q⟩)
    | some o =>
      have e := KX a o q
      rw [ha] at e; cases e
      exact .inr ⟨_, vs.toArray, _, q, rfl, rfl, rfl, by rw [List.size_toArray, lenV]; exact hl, by simpa using rv⟩
  have e0 : Env0 P w K mg (hidT s.heap H) callerA [] s H := ⟨rfl, ⟨kIn, ns' hns, ⟨mb, ns' hb, hbb⟩, let ⟨mc, h1, h2⟩ := hlim; ⟨mc, ns' h1, h2⟩⟩, fun b o e => of_hidT e, Nat.le_of_eq (hidT_size _ _), trivial,
    fun b hb => absurd (show b ∈ ([] : List Addr) from hb) (by simp), ok, .of_eq hg⟩
  refine codeAny_mono ((F _ kIn (ns' hns) tab).run callerA [] s H ⟨[.ref a], []⟩ [.ref a] [.ref a] _ _ hr ⟨rfl⟩ e0 (hbind s (.ref a)) (.cons rfl .nil) (hsp H (fun p hp => H1 (toT hp)) sq)) fun r s' h => ?_
  cases r with
  | error e => exact (show False from h).elim
  | ok fl =>
    cases fl with
    | next => exact False.elim h
    | brk => exact False.elim h
    | cont => exact False.elim h
    | ret u =>
      obtain ⟨v, H', os, bare, un, hok', r', q⟩ := h
      have q' : v = .bl true := q
      subst q'
      obtain rfl : u = Value.bool true := r'
      have tbl : ∀ {b : Addr}, b ∈ ts → ∃ more : Array Value, s'.heap.get? b = some { cls := .none, data := .fields more } := fun {b} h => by
        obtain ⟨more, z⟩ := un.tbls b #[] (H1 h)
        exact ⟨_, hok' b _ z⟩
      have kept : ∀ {b : Addr} {o : Obj}, b ∉ ts → s.heap.get? b = some o → s'.heap.get? b = some o := fun {b o} h e => by
        by_cases h2 : b = a ∧ K.lookup a = none
        · obtain ⟨z, _⟩ := hok' b _ (un.frzs b _ _ (H2 h h2.1 h2.2))
          rw [h2.1, ha] at e; cases e
          rw [h2.1] at z ⊢; exact z
        · exact un.keep b o e (H3 h h2) (by intro z; exact absurd (show b ∈ ([] : List Addr) from z) (by simp)) (by simp)
      refine ⟨rfl, ⟨fun b o e => ?_, fun b o e => ?_⟩, os, bare⟩
      · by_cases h : b ∈ ts
        · obtain ⟨p, hp, ep⟩ := inT h
          obtain ⟨more, hm⟩ := tbl h
          rw [getT h] at e; cases e
          refine .inr (.inl ⟨?_, rfl, #[], more, rfl, by rw [Array.empty_append]; exact hm⟩)
          rw [← ep]
          exact ((C p hp).tab (hT p hp)).isCodeTable
        · exact .inl (kept h e)
      · by_cases h : b ∈ ts
        · obtain ⟨more, hm⟩ := tbl h
          exact ⟨_, hm⟩
        · exact ⟨o, kept h e⟩
end
end Kt
set_option Elab.async false
set_option linter.all false
set_option maxRecDepth 100000
set_option maxHeartbeats 0
namespace Kt
open PySem PySem.Spec PyProof.Rows L2
theorem tabs_ne {w : World} {K : PySem.W.Frag} {h : Heap} (c : He.SaysX fa fn [] tf ex w h K) : (He.cT K pR).2 ≠ (He.cT K pL).2 := by
  have h := c.more
  unfold ex at h
  obtain ⟨_, h⟩ := He.ba h
  obtain ⟨_, h⟩ := He.ba h
  obtain ⟨_, h⟩ := He.ba h
  obtain ⟨_, h⟩ := He.ba h
  exact of_decide_eq_true h
theorem two {Q : He.Defn → Prop} (h1 : Q pR) (h2 : Q pL) : ∀ p ∈ [pR, pL], Q p := fun p hp => by
  rcases List.mem_cons.mp hp with q | q
  · rw [q]; exact h1
  · rcases List.mem_cons.mp q with q | q
    · rw [q]; exact h2
    · cases q
theorem call_end {P : Program} {w : World} {K : PySem.W.Frag} {mg mb : Str → Option Value} {f a : Addr} {s : Shared} {vs : List Value} {ns : List Int} (KX : K.In s.heap) (c : He.SaysX fa fn [] tf ex w s.heap K) (hns : s.heap.Ns mainGlobals mg) (hb : s.heap.Ns builtinsNs mb)
    (hbb : ∀ x : Str, x ≠ "__name__" → mb x = bootBuiltins x) (hlim : s.heap.NoLimit) (hg : s.gens = #[])
    (hbm : ∃ (bm : Addr) (ob : Obj), mg "__builtins__" = some (.ref bm) ∧ bm ≠ builtinsNs ∧ s.heap.get? bm = some ob ∧ ob.cls = .type "module" ∧ ob.dict = some builtinsNs ∧ ob.data = .plain)
    (hm : mg "law" = some (.ref f)) (ha : s.heap.get? a = some { cls := .type "list", data := .seq vs.toArray }) (hi : IntsAre vs ns) (hl : ns.length ≤ 63) :
    codeAny (model P w) callerA (.call (.ref f) ⟨[.ref a], []⟩) (fun r s' => r = .ok (.ret (.bool true)) ∧ OldK s.heap s'.heap ∧ s'.os = s.os ∧ AllBare s'.gens) s := by
  have BF := badF_of KX hns c
  have gR : mg "_law_right" = some (.ref (He.fAd K pR)) := (He.glo_ok KX hns (c.t.d.fact 44 (f := .glo "_law_right") rfl) : _)
  have gL : mg "law" = some (.ref (He.fAd K pL)) := (He.glo_ok KX hns (c.t.d.fact 45 (f := .glo "law") rfl) : _)
  have hf : f = He.fAd K pL := by rw [hm] at gL; injection gL with gL; injection gL
  obtain ⟨fd, F⟩ := c.t.d.def_ 37 (d := d_law) rfl
  have F : FnD K "law" s_law (He.fAd K pL) fd := F
  rw [← hf] at F
  have bind := FunD.bindsA (ps := ["script"]) F fun _ _ _ _ _ _ us hl => match us, hl with | [_], _ => rfl
  refine law_end (cs := [He.cT K pR, He.cT K pL]) (k := 11) (fd := fd) (x := "script") (sp := sp_law K) KX hns hb hbb hlim hg (fun p hp => ?_) (fun p hp => ?_) (fun p hp => ?_) hbm ha hi (Nat.le_trans hl (by decide)) ⟨rfl, by decide, by decide⟩ (fun base kb nb TB => ?_) (fun s v => bind s [v] rfl) fun H hH hS => ?_
  · obtain ⟨q, hq, e⟩ := List.mem_map.mp (show p ∈ [pR, pL].map (He.cT K) from hp)
    rw [← e]; exact c.empty q hq
  · obtain ⟨q, hq, e⟩ := List.mem_map.mp (show p ∈ [pR, pL].map (He.cT K) from hp)
    rw [← e]; exact c.out q hq
  · obtain ⟨q, hq, e⟩ := List.mem_map.mp (show p ∈ [pR, pL].map (He.cT K) from hp)
    rw [← e]; exact PySem.W.codeHd_of_K KX (c.hd q hq)
  · exact ok_law (base_of KX hns c) BF gR (TB _ List.mem_cons_self) (TB _ (List.mem_cons_of_mem _ List.mem_cons_self)) (tabs_ne c) F hf
  · refine ⟨a, ns, rfl, hS, by omega, fun p hp => ?_, fun _ => rfl⟩
    rcases List.mem_cons.mp hp with q | q
    · rw [q]; exact hH _ List.mem_cons_self
    · rcases List.mem_cons.mp q with q | q
      · rw [q]; exact hH _ (List.mem_cons_of_mem _ List.mem_cons_self)
      · cases q
end Kt
open PySem PySem.W PySem.Calls PyProof.Rows
theorem PySem.Challenge.cw_stepsound_k48_whole_files_refused_holds : PySem.Challenge.rw_stepsound_k48_whole_files_refused.Holds := by
  w_on; o_law
  refine HandSHeadRun.head_any (r := OpenLaw.row PySem.Challenge.rw_stepsound_k48_whole_files_refused) (q := view (OpenLaw.row PySem.Challenge.rw_stepsound_k48_whole_files_refused).prog [55]) (H := Kt.hk) (ob := Kt.ob) (M := 4000) (loose := Kt.loose) (d := HandSHeadRun.topDef (OpenLaw.row PySem.Challenge.rw_stepsound_k48_whole_files_refused).prog 55) (kwd := []) Kt.ob_eq
    (by kernel_rfl) (fun s => by kernel_rfl) Kt.run (by kernel_rfl) (by kernel_rfl) (by kernel_rfl) (by rfl) (by first | assumption | decide +kernel) (by decide +kernel) ⟨rfl, rfl, rfl, rfl, rfl, by decide +kernel⟩ ?hw ?hc
  case hw => w_witness2
  case hc =>
    refine Att.attach_callB (l := PySem.Challenge.rw_stepsound_k48_whole_files_refused) (n := 63) rfl (by kernel_rfl) fun w s₀ s₁ mg mb fa o pm cd doc a vs ns G Y ho hd hcd hmg hobj hints hlen hbits hg => ?_
    obtain ⟨K, KX, c⟩ := Y
    have hm : mg ("law" : PySem.Str) = some (.ref fa) := by
      have e : (HandSHeadRun.topDef (OpenLaw.row PySem.Challenge.rw_stepsound_k48_whole_files_refused).prog 55).name = ("law" : PySem.Str) := by kernel_rfl
      rw [← e]
      exact hmg
    exact Kt.call_end KX c G.T.g G.T.b G.T.builtins G.T.nolimit hg G.T.bmain hm hobj hints hlen
