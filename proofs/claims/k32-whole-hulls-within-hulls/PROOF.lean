import PyProof.Rows.All
import Wide.All
import OpenK.AllK
import Wide.FinOn
import HandS.ForMost
import HandS.Exc
import HandS.ExcOwn
import HandS.TryOnly
import HandS.ExcIs
import HandS.HeadHook4
import HandS.WordsExc
import HandS.Zip
import HandS.TupAny
import HandS.Style
import HandS.Wide
import HandS.Deep
import HandS.IsInst
import HandS.TupSets
import HandS.Conv
import HandS.ExcValue
import HandS.Lambda
import HandS.Iter
import KE.GoesMore
import HandS.Defaults
import HandS.Ends
import HandS.HeadEnd
import HandS.HeadWalk
import KE.KRevSl
import HandS.Dict
import HandS.Strs
import HandS.SortRule
import HandS.SortInts
import HandS.HeadHook1
import HandS.HeadHook2
import KE.DataMinMax
import KE.SortData
import HandS.SetFor
import HandS.NamedTupSort
import HandS.TupLe
import HandS.Words
import HandS.Head0
import HandS.Head1
import HandS.Head2
import PySem.Challenge.RW_tracklines_k32_whole_hulls_within_hulls
set_option Elab.async false
set_option linter.all false
set_option maxRecDepth 100000
set_option maxHeartbeats 0
namespace PL
open PySem PySem.Spec PyProof.Rows L2
/-! ## a caught error is known from then on -/
def ExC (cls : Value) (a : Addr) : HO := .ext fun h => ∃ oe, h.get? a = some oe ∧ Zc cls none oe ∧ ∃ vs, oe.data = .fields vs
theorem exC_ok {P : Program} {w : World} {H : Hp} {h : Heap} {a : Addr} {cls : Value} {oe : Obj} (e : h.get? a = some oe) (z : Zc cls none oe) (d : ∃ vs, oe.data = .fields vs) : ObjOk P w H h a (ExC cls a) := by
  refine ⟨⟨oe, e, z, d⟩, ⟨oe, e⟩, fun h1 h2 ⟨o, e1, z1, d1⟩ k => ⟨o, k o e1, z1, d1⟩⟩
/-- an object that lies there, and was not there when the frame began, is tracked from now on -/
theorem adopt {X : Cx} {pins : List (Addr × Obj)} {σ : L2.St} {H : Hp} {s : Shared} {a : Addr} {o : HO} (I : Inv X pins σ H s) (na : H a = none) (n0 : X.s_0.heap.get? a = none) (nL : a ≠ X.env.locals) (nc : ∀ x c, X.env.cells.lookup x = some c → c ≠ a) (np : ∀ p ∈ X.pn ++ pins, p.1 ≠ a)
    (ok : ObjOk X.prog X.w (upd H a o) s.heap a o) : Inv X pins σ (upd H a o) s := by
  have ne : ∀ {b u}, H b = some u → b ≠ a := fun e z => by rw [z, na] at e; cases e
  refine ⟨I.ok, I.os, I.bare, ⟨I.base.keep, I.base.slot, fun b ob e n hx => ?_, I.base.there, fun b xs e => ?_, fun b ob u e => ?_, fun b ps e => ?_⟩, I.loc, I.cell, ?_, fun x c e => ?_, fun p hp => ?_, fun b ob e => ?_, I.len⟩
  · have : b ≠ a := fun z => by rw [z, n0] at e; cases e
    rw [upd_ne this]; exact I.base.free b ob e n hx
  · have q := I.base.tups b xs e
    rw [upd_ne (ne q)]; exact q
  · have q := I.base.frzs b ob u e
    rw [upd_ne (ne q)]; exact q
  · obtain ⟨more, q⟩ := I.base.tbls b ps e
    exact ⟨more, by rw [upd_ne (ne q)]; exact q⟩
  · rw [upd_ne (Ne.symm nL)]; exact I.free
  · rw [upd_ne (nc x c e)]; exact I.freeC x c e
  · obtain ⟨p1, p2, p3⟩ := I.pin p hp
    exact ⟨p1, by rw [upd_ne (np p hp)]; exact p2, p3⟩
  · by_cases z : b = a
    · subst z
      rw [upd_same] at e
      cases e
      exact ok
    · rw [upd_ne z] at e
      exact (I.hok b ob e).stay (fun _ _ _ q => q) (fun c q => by rw [upd_ne (ne q)]; exact q) fun c xs q => by rw [upd_ne (ne q)]; exact q
/-- what the clause 'except x as n' wishes of an exception of the body: slot i is n's; the error is tracked -/
def wExc (K : PySem.W.Frag) (n : Nat) (c : Value) (i : Nat) (ts : Addr → Value → TS) (Wout : WX) (D : Ends) : WX := fun cls d σ H =>
  ∃ b, PySem.W.exmOne K cls c = some b ∧ (b = true → d = none ∧ ∀ a, H a = none → σ.length = n → ts a cls { nx := fun σ' H' => D.nx (σ'.set i none) H', rt := D.rt, bk := fun σ' H' => D.bk (σ'.set i none) H', ct := fun σ' H' => D.ct (σ'.set i none) H' } (σ.set i (some (.ref a))) (upd H a (ExC cls a))) ∧
    (b = false → Wout cls d σ H)
theorem Inv.suite0 {X : Cx} {pins : List (Addr × Obj)} {σ : L2.St} {H : Hp} {s : Shared} (I : Inv X pins σ H s) (a : Addr) : Inv (X.suite a (X.pn ++ pins)) [] σ H s :=
  ⟨I.ok.suite _ _, I.os, I.bare, I.base, I.loc, I.cell, I.free, I.freeC, fun p hp => I.pin p (by rw [List.append_nil] at hp; exact hp), I.hok, I.len⟩
theorem Inv.unsuite0 {X : Cx} {pins pn' : List (Addr × Obj)} {σ : L2.St} {H : Hp} {s : Shared} {a : Addr} (I : Inv (X.suite a (X.pn ++ pins)) pn' σ H s) (ok : X.Ok) : Inv X pins σ H s :=
  ⟨ok, I.os, I.bare, I.base, I.loc, I.cell, I.free, I.freeC, fun p hp => I.pin p (List.mem_append_left _ hp), I.hok, I.len⟩
section
variable {X : Cx} {x n : Str} {c : Value} {i : Nat} {body suite : List Stmt} {b₀ : Stmt} {np pos pos' : Pos} {tb : WX → TS} {ts : Addr → Value → TS} {Wout : WX}
theorem ps_try_exc (hs : X.stack = X.env :: X.outer) (hf : X.env.frame = some X.env.locals) (hx0 : X.ex = []) (hN : X.N.Nodup) (hi : X.N[i]? = some n) (hln : X.env.kindOf n = some .local) (hc : Names X x c) (tk : Takes X Wout)
    (hb : ∀ (W : WX) (pn : List (Addr × Obj)) (xe : Value → Shared → Prop), Takes (X.tr pn xe) W → PassesOwn (model X.prog X.w) X.A X.env xe → PSs (X.tr pn xe) body (tb W))
    (hsu : ∀ (a : Addr) (cls : Value) (pn : List (Addr × Obj)), PSs (X.suite a pn) (b₀ :: suite) (ts a cls)) :
    PS X (.Try body [.ExceptHandler (some (.Name x np)) (some n) (b₀ :: suite) pos'] [] [] pos) (fun D σ H => tb (wExc X.K X.N.length c i ts Wout D) D σ H) := by
  refine ⟨fun pins s σ H D I h => ?_⟩
  have ok := I.ok
  have hfr : X.A.frames = some (X.env :: X.outer) := by rw [ok.frames, hs]
  have hloc : Loc X.env.scope n := .inl hln
  refine wpAny_Try_except ?_
  refine wpAny_mono ((hb (wExc X.K X.N.length c i ts Wout D) (X.pn ++ pins) (fun e s₁ => wpAny (model X.prog X.w) X.A (noteFrame e X.env) (fun _ s₂ => wpAny (model X.prog X.w) X.A (setFlight e none) (fun _ s₃ =>
    wpAny (model X.prog X.w) X.A (handleBy e X.env [.ExceptHandler (some (.Name x np)) (some n) (b₀ :: suite) pos']) (SP X pins D) X.xe s₃) X.xe s₂) X.xe s₁) (fun u s' xx => ?_) PassesOwn.looking).run [] s σ H D (I.toTry _) h) (fun f s1 hsp => ?_) (fun e s1 he => he)
  · -- the catch
    obtain ⟨a, B, sI, pins', σ', H', cls, d, rfl, J', nb, up, sky, na, os, ag, b, hb1, hyes, hno⟩ := xx
    have J : Inv X pins σ' H' sI := J'.ofTry ok
    have sky' : Sky B (X.env :: X.outer) a (Zc cls d) X.env.locals s'.heap := by rw [← hs]; exact sky
    show wpAny (model X.prog X.w) X.A (noteFrame (.ref a) X.env) _ _ _
    refine Sky.land Zc.steady hfr hf sky' fun h3 fl3 up3 => ?_
    have J3 : Inv X pins σ' H' { s' with heap := h3 } := J.landed nb fl3.1 (up.trans up3) os ag
    obtain ⟨oe3, vs3, he3, hz3, hd3⟩ := fl3.there
    have notFr : ∀ {h : Heap} {o : Obj} {vs : Array Value}, h.FunFrames B (X.env :: X.outer) → h.get? a = some o → o.data = .fields vs → a ∉ frs (X.env :: X.outer) := fun {h o vs} ff e dd hm => by
      obtain ⟨_, o', e', hnf⟩ := ff.mem hm
      rw [e] at e'; cases e'
      exact hnf _ dd
    have nfr := notFr fl3.2.2.1 he3 hd3
    have nL : a ≠ X.env.locals := fun z => nfr (List.mem_filterMap.mpr ⟨X.env, List.mem_cons_self, by rw [hf, z]⟩)
    have nF : a ∉ X.fs := fun hm => by
      obtain ⟨e, he, q⟩ := List.mem_filterMap.mp hm
      exact nfr (List.mem_filterMap.mpr ⟨e, List.mem_cons_of_mem _ he, q⟩)
    have nB : B.get? a = none := fl3.2.1
    have nI : sI.heap.get? a = none := by
      cases e : sI.heap.get? a with
      | none => rfl
      | some o =>
        have := nb a o e (by rw [hs]; exact nfr)
        rw [nB] at this
        cases this
    have n0 : X.s_0.heap.get? a = none := by
      cases e : X.s_0.heap.get? a with
      | none => rfl
      | some o =>
        obtain ⟨o', q⟩ := J.base.there a o e (by rw [hx0]; exact List.not_mem_nil)
        rw [nI] at q
        cases q
    have S3 := J3.suite he3 hd3 na nL nF
    refine wpAny_handleBy_cons (codeAny_handlers_test ?_) (by intro q; cases q)
    have LT : PySem.W.Looks (model X.prog X.w) h3 (typeOf (.ref a)) cls := fun A Q E s k q => wpAny_typeOf_ref (k _ _ he3) (by rw [hz3.1]; exact q)
    have LM := PySem.W.exm_one (M := model X.prog X.w) (J3.kIn) LT hb1
    have test : ∀ {Q : Value → Shared → Prop} {E : Value → Shared → Prop}, Q c { s' with heap := h3 } → wpAny (model X.prog X.w) (X.A.mark (some (.ref a))) (eval (.Name x np) X.env) Q E { s' with heap := h3 } := fun {Q E} q => by
      obtain ⟨hg, hdbg, hm | ⟨hm, hv, hnn⟩⟩ := hc
      · exact ld_glob (X := X.suite a ((a, oe3) :: (X.pn ++ pins))) S3 hg hm q hdbg
      · exact ld_blt (X := X.suite a ((a, oe3) :: (X.pn ++ pins))) S3 hg hm hv q hnn hdbg
    refine test (LM.here ?_)
    cases b with
    | true =>
      refine codeAny_handlers_suite_as ?_
      refine HandSPX.lands_againZ fl3 fun h4 fl4 up4 => ?_
      have J4 : Inv X pins σ' H' { s' with heap := h4 } := J.landed nb fl4.1 ((up.trans up3).trans up4) os ag
      obtain ⟨oe4, vs4, he4, hz4, hd4⟩ := fl4.there
      obtain ⟨dn, hyes2⟩ := hyes rfl
      rw [dn] at hz4
      have J5 : Inv X pins σ' (upd H' a (ExC cls a)) { s' with heap := h4 } := adopt J4 na n0 nL (fun y c' e z => by
          obtain ⟨v, w⟩ := J.cell y c' e
          rw [z] at w
          obtain ⟨o, ho, _⟩ := w
          rw [nI] at ho
          cases ho) (fun p hp z => by
          have := (J.pin p hp).1
          rw [z, nI] at this
          cases this) (exC_ok he4 hz4 ⟨_, hd4⟩)
      have S4 := Inv.suite0 J5 a
      refine store_ok (X := X.suite a (X.pn ++ pins)) (v := .ref a) S4 hN hi hloc rfl (fun s5 S5 => ?_) (.inr hln)
      refine wpAny_mono ((hsu a cls (X.pn ++ pins)).run [] s5 _ _ _ S5 (hyes2 a na J.len)) (fun f s6 hsp => ?_) (fun _ _ z => False.elim z)
      have end_ : ∀ {σ6 : L2.St} {H6 : Hp} {Q : Shared → Prop}, Inv (X.suite a (X.pn ++ pins)) [] σ6 H6 s6 → (∀ s7, Inv X pins (σ6.set i none) H6 s7 → Q s7) →
          wpAny (model X.prog X.w) X.A (do bindName X.env n .none; unbindBehindTheSuite X.env n pos') (fun _ s7 => Q s7) X.xe s6 := fun {σ6 H6 Q} S6 hq => gone_ok (Inv.unsuite0 S6 ok) hN hi hln hq
      cases f with
      | next =>
        obtain ⟨σ6, H6, S6, q6⟩ := hsp
        exact end_ S6 fun s7 J7 => ⟨_, _, J7, q6⟩
      | brk =>
        obtain ⟨σ6, H6, S6, q6⟩ := hsp
        exact end_ S6 fun s7 J7 => ⟨_, _, J7, q6⟩
      | cont =>
        obtain ⟨σ6, H6, S6, q6⟩ := hsp
        exact end_ S6 fun s7 J7 => ⟨_, _, J7, q6⟩
      | ret u =>
        obtain ⟨v6, σ6, H6, S6, r6, q6⟩ := hsp
        exact end_ S6 fun s7 J7 => ⟨_, _, _, J7, r6, q6⟩
    | false =>
      show wpAny _ X.A (handleBy (.ref a) X.env []) _ _ _
      refine wpAny_handleBy_nil ?_
      obtain ⟨k1, k2, k3, oe, vs, T, oT, ts', he, hz, hd, h1, hr⟩ := id fl3
      unfold PySem.passOn
      refine wpAny_bind (wpAny_field he hd h1 ?_)
      rw [if_neg (show ¬ ((Value.ref T == Value.none) = true) from by simp)]
      have fin : wpAny (model X.prog X.w) X.A (setFlight (.ref a) X.env.frame) (fun _ s4 => wpAny (model X.prog X.w) X.A (throw (.ref a) : Sem Flow) (SP X pins D) X.xe s4) X.xe { s' with heap := h3 } := by
        rw [hf]
        refine HandSPX.setFlight_upZ fl3 fun h4 hh4 up4 => wpAny_throw (tk _ _ ?_)
        exact ⟨a, B, sI, pins, σ', H', cls, d, rfl, J, nb, (up.trans up3).trans up4, .inr (.inr (by rw [hs]; exact hh4)), na, os, ag, hno rfl⟩
      first
        | exact wpAny_bind (wpAny_pure (wpAny_bind fin))
        | exact wpAny_bind fin
  · cases f with
    | next =>
      obtain ⟨σ', H', J', q⟩ := hsp
      exact wpAny_execs_nil ⟨σ', H', J'.ofTry ok, q⟩
    | brk =>
      obtain ⟨σ', H', J', q⟩ := hsp
      exact ⟨σ', H', J'.ofTry ok, q⟩
    | cont =>
      obtain ⟨σ', H', J', q⟩ := hsp
      exact ⟨σ', H', J'.ofTry ok, q⟩
    | ret u =>
      obtain ⟨v, σ', H', J', r, q⟩ := hsp
      exact ⟨v, σ', H', J'.ofTry ok, r, q⟩
end
end PL

namespace PL
/-- the defs that make lambdas, in this law -/
def lamNames : List PySem.Str := []
end PL

namespace PL
open PySem PySem.Spec PyProof.Rows L2

/-! ## data, outcomes -/
inductive D where
  | non | bl (b : Bool) | int (i : Int) | str (s : Str) | tup (l : List D) | lst (l : List D) | scr (l : List Int)
  | dct (ks : List Key) (vs : List D) | dcT (ks : List (List Key)) (vs : List D) | exc (c : Str)
  | ob (c : Str) (ks : List Str) (vs : List D)

inductive Res (α : Type) where
  | ok (a : α) | exc (c : Str) | stuck
namespace Res
def bind {α β : Type} : Res α → (α → Res β) → Res β
  | .ok a, f => f a
  | .exc c, _ => .exc c
  | .stuck, _ => .stuck
@[simp] theorem bind_ok {α β : Type} (a : α) (f : α → Res β) : bind (.ok a) f = f a := rfl
@[simp] theorem bind_exc {α β : Type} (c : Str) (f : α → Res β) : bind (.exc c) f = .exc c := rfl
@[simp] theorem bind_stuck {α β : Type} (f : α → Res β) : bind .stuck f = .stuck := rfl
end Res

/-! ## what a value stands for -/
abbrev Mk := Addr → Prop
/-- the script: a list of ints that nobody writes -/
def ScrOk (K : PySem.W.Frag) (M : Mk) (H : Hp) (a : Addr) (ns : List Int) : Prop :=
  (Rd H a (.lst (ns.map V.int)) ∧ ¬ M a) ∨
    ∃ (o : Obj) (its : Array Value) (n : Nat), K.lookup a = some o ∧ o.cls = .type "list" ∧ o.dict = none ∧ o.data = .seq its n ∧ its.size ≤ sizeLine ∧ Vals (ns.map V.int) its.toList
/-- what may be changed -/
def MutO : HO → Prop
  | .lst _ => True
  | .dK _ => True
  | .dT _ => True
  | .ins _ _ _ => True
  | _ => False
mutual
inductive Rep (K : PySem.W.Frag) (M : Mk) (H : Hp) : V → D → Prop
  | non : Rep K M H .non .non
  | bl (b : Bool) : Rep K M H (.bl b) (.bl b)
  | int (i : Int) : Rep K M H (.int i) (.int i)
  | str (x : Str) : Rep K M H (.str x) (.str x)
  | lst {a : Addr} {xs : List V} {ds : List D} : H a = some (.lst xs) → ¬ M a → RepAll K M H xs ds → Rep K M H (.ref a) (.lst ds)
  | tup {a : Addr} {xs : List V} {ds : List D} : H a = some (.tup xs) → ¬ M a → RepAll K M H xs ds → Rep K M H (.ref a) (.tup ds)
  | scr {a : Addr} {ns : List Int} : ScrOk K M H a ns → Rep K M H (.ref a) (.scr ns)
  | dct {a : Addr} {ks : List Key} {xs : List V} {ds : List D} : Rd H a (.dK (ks.zip xs)) → ks.length = xs.length → ¬ M a → RepAll K M H xs ds → Rep K M H (.ref a) (.dct ks ds)
  | dcT {a : Addr} {ks : List (List Key)} {xs : List V} {ds : List D} : Rd H a (.dT (ks.zip xs)) → ks.length = xs.length → ¬ M a → RepAll K M H xs ds → Rep K M H (.ref a) (.dcT ks ds)
  | exc {a C : Addr} {c : Str} : PySem.W.nsIn K mainGlobals c = some (some (.ref C)) → H a = some (ExC (.ref C) a) → ¬ M a → Rep K M H (.ref a) (.exc c)
  | ob {a C dx : Addr} {c : Str} {ks : List Str} {xs : List V} {ds : List D} : PySem.W.nsIn K mainGlobals c = some (some (.ref C)) → H a = some (.ins C dx (ks.zip xs)) → ks.length = xs.length → ¬ M a → RepAll K M H xs ds → Rep K M H (.ref a) (.ob c ks ds)
inductive RepAll (K : PySem.W.Frag) (M : Mk) (H : Hp) : List V → List D → Prop
  | nil : RepAll K M H [] []
  | cons {v : V} {vs : List V} {d : D} {ds : List D} : Rep K M H v d → RepAll K M H vs ds → RepAll K M H (v :: vs) (d :: ds)
end
/-! ### what stays: all but the tables of code objects, which grow -/
def NT (o : HO) : Prop := ∀ ps, o ≠ .tbl ps
theorem NT.of_mut {o : HO} (h : MutO o) : NT o := fun ps z => by rw [z] at h; exact h
/-- nothing there but a table -/
def Fr (H : Hp) (p : Addr) : Prop := ∀ o, H p = some o → ¬ NT o
theorem Fr.of {H : Hp} {p : Addr} (n : H p = none) : Fr H p := fun o e _ => by rw [n] at e; cases e
instance {H : Hp} {p : Addr} : Coe (H p = none) (Fr H p) := ⟨Fr.of⟩
theorem Fr.ne {H : Hp} {p b : Addr} {o : HO} (n : Fr H p) (e : H b = some o) (t : NT o) : b ≠ p := fun z => n o (by rw [← z]; exact e) t
def TK (K : PySem.W.Frag) : List (Addr × Str) := lamNames.map fun n => ((He.cT K (n, none)).2, n ++ ".<locals>." ++ "<lambda>")
def TabsK (K : PySem.W.Frag) (H : Hp) : Prop := LamX.Tabs (TK K) H
structure Same (K : PySem.W.Frag) (H H' : Hp) : Prop where
  app : ∀ b o, H b = some o → NT o → H' b = some o
  tab : TabsK K H → TabsK K H'
structure Keep (K : PySem.W.Frag) (M : Mk) (H H' : Hp) : Prop where
  app : ∀ a o, H a = some o → ¬ M a → NT o → H' a = some o
  tab : TabsK K H → TabsK K H'
theorem Same.refl {K : PySem.W.Frag} (H : Hp) : Same K H H := ⟨fun _ _ h _ => h, fun h => h⟩
theorem Same.trans {K : PySem.W.Frag} {H H1 H2 : Hp} (a : Same K H H1) (b : Same K H1 H2) : Same K H H2 := ⟨fun c o h n => b.app c o (a.app c o h n) n, fun h => b.tab (a.tab h)⟩
theorem Same.free {K : PySem.W.Frag} {H H' : Hp} (e : Same K H H') {l : Addr} (h : Fr H' l) : Fr H l := fun o ho t => h o (e.app l o ho t) t
theorem Same.of {K : PySem.W.Frag} {H H' : Hp} (s : L2.Same H H') : Same K H H' := ⟨fun b o h _ => s b o h, fun h => h.ext s⟩
theorem nt_lst {xs : List V} : NT (.lst xs) := fun _ z => nomatch z
theorem nt_tup {xs : List V} : NT (.tup xs) := fun _ z => nomatch z
theorem nt_dK {xs : List (Key × V)} : NT (.dK xs) := fun _ z => nomatch z
theorem nt_dT {xs : List (List Key × V)} : NT (.dT xs) := fun _ z => nomatch z
theorem nt_ext {φ : Heap → Prop} : NT (.ext φ) := fun _ z => nomatch z
theorem nt_frz {o : Obj} {u : HO} : NT (.frz o u) := fun _ z => nomatch z
theorem nt_ins {C dx : Addr} {fs : List (Str × V)} : NT (.ins C dx fs) := fun _ z => nomatch z
theorem nt_own {x : Addr} : NT (.own x) := fun _ z => nomatch z
theorem Same.get {K : PySem.W.Frag} {H H' : Hp} (s : Same K H H') (b : Addr) (o : HO) (h : H b = some o) (nt : NT o := by first | exact nt_lst | exact nt_tup | exact nt_dK | exact nt_dT | exact nt_ext | exact nt_frz | exact nt_ins | exact nt_own | assumption) : H' b = some o := s.app b o h nt
theorem Keep.get {K : PySem.W.Frag} {M : Mk} {H H' : Hp} (s : Keep K M H H') (b : Addr) (o : HO) (h : H b = some o) (n : ¬ M b) (nt : NT o := by first | exact nt_lst | exact nt_tup | exact nt_dK | exact nt_dT | exact nt_ext | exact nt_frz | exact nt_ins | exact nt_own | assumption) : H' b = some o := s.app b o h n nt
theorem Same.lst {K : PySem.W.Frag} {H H' : Hp} {a : Addr} {xs : List V} (s : Same K H H') (h : H a = some (.lst xs)) : H' a = some (.lst xs) := s.app _ _ h nt_lst
theorem Same.tup {K : PySem.W.Frag} {H H' : Hp} {a : Addr} {xs : List V} (s : Same K H H') (h : H a = some (.tup xs)) : H' a = some (.tup xs) := s.app _ _ h nt_tup
theorem Keep.rd {K : PySem.W.Frag} {M : Mk} {H H' : Hp} (s : Keep K M H H') {b : Addr} {o : HO} (h : Rd H b o) (n : ¬ M b) (nt : NT o) : Rd H' b o := by
  rcases h with h | ⟨u, h⟩
  · exact .inl (s.app b o h n nt)
  · exact .inr ⟨u, s.app b _ h n nt_frz⟩
def DomM (M : Mk) (H : Hp) : Prop := ∀ a, M a → ∃ o, H a = some o ∧ MutO o
section
variable {K : PySem.W.Frag} {M M' : Mk} {H H' H'' : Hp}
theorem Keep.of_same (s : Same K H H') : Keep K M H H' := ⟨fun a o e _ n => s.app a o e n, s.tab⟩
theorem Keep.refl (M : Mk) (H : Hp) : Keep K M H H := ⟨fun _ _ e _ _ => e, fun h => h⟩
theorem Keep.trans (a : Keep K M H H') (b : Keep K M H' H'') : Keep K M H H'' := ⟨fun x o e n t => b.app x o (a.app x o e n t) n t, fun h => b.tab (a.tab h)⟩
theorem DomM.mono (d : DomM M H) (s : Same K H H') : DomM M H' := fun a m => by
  obtain ⟨o, e, h⟩ := d a m
  exact ⟨o, s.app a o e (NT.of_mut h), h⟩
theorem DomM.fresh (d : DomM M H) {p : Addr} (n : Fr H p) : ¬ M p := fun m => by
  obtain ⟨o, e, mu⟩ := d p m
  exact n o e (NT.of_mut mu)
theorem DomM.notTup (d : DomM M H) {p : Addr} {xs : List V} (e : H p = some (.tup xs)) : ¬ M p := fun m => by
  obtain ⟨o, e', h⟩ := d p m
  rw [e] at e'; cases e'; exact h
theorem DomM.notExt (d : DomM M H) {p : Addr} {φ : Heap → Prop} (e : H p = some (.ext φ)) : ¬ M p := fun m => by
  obtain ⟨o, e', h⟩ := d p m
  rw [e] at e'; cases e'; exact h
theorem ScrOk.keep {a : Addr} {ns : List Int} (k : Keep K M H H') (h : ScrOk K M H a ns) : ScrOk K M H' a ns := by
  rcases h with ⟨h | ⟨o, h⟩, n⟩ | h
  · exact .inl ⟨.inl (k.app a _ h n nt_lst), n⟩
  · exact .inl ⟨.inr ⟨o, k.app a _ h n nt_frz⟩, n⟩
  · exact .inr h
theorem ScrOk.sq {a : Addr} {ns : List Int} (h : ScrOk K M H a ns) : SqL K H a (ns.map V.int) := by
  rcases h with ⟨h, n⟩ | h
  · exact .inl h
  · exact .inr h
theorem ScrOk.of {a : Addr} {ns : List Int} (h : SqL K H a (ns.map V.int)) : ScrOk K (fun _ => False) H a ns := by
  rcases h with h | h
  · exact .inl ⟨h, fun z => z⟩
  · exact .inr h
mutual
theorem Rep.keep (k : Keep K M H H') : ∀ (d : D) (v : V), Rep K M H v d → Rep K M H' v d
  | .non, _, h => by cases h; exact .non
  | .bl _, _, h => by cases h; exact .bl _
  | .int _, _, h => by cases h; exact .int _
  | .str _, _, h => by cases h; exact .str _
  | .lst ds, _, h => by
    cases h with
    | lst s n r => exact .lst (k.app _ _ s n nt_lst) n (RepAll.keep k ds _ r)
  | .tup ds, _, h => by
    cases h with
    | tup s n r => exact .tup (k.app _ _ s n nt_tup) n (RepAll.keep k ds _ r)
  | .scr ns, _, h => by
    cases h with
    | scr s => exact .scr (s.keep k)
  | .dct ks ds, _, h => by
    cases h with
    | dct s l n r => exact .dct (k.rd s n nt_dK) l n (RepAll.keep k ds _ r)
  | .dcT ks ds, _, h => by
    cases h with
    | dcT s l n r => exact .dcT (k.rd s n nt_dT) l n (RepAll.keep k ds _ r)
  | .exc c, _, h => by
    cases h with
    | exc e s n => exact .exc e (k.app _ _ s n nt_ext) n
  | .ob c ks ds, _, h => by
    cases h with
    | ob e s l n r => exact .ob e (k.app _ _ s n nt_ins) l n (RepAll.keep k ds _ r)
theorem RepAll.keep (k : Keep K M H H') : ∀ (ds : List D) (vs : List V), RepAll K M H vs ds → RepAll K M H' vs ds
  | [], _, h => by cases h; exact .nil
  | d :: ds, _, h => by
    cases h with
    | cons a b => exact .cons (Rep.keep k d _ a) (RepAll.keep k ds _ b)
end
theorem Rep.same {d : D} {v : V} (s : Same K H H') (h : Rep K M H v d) : Rep K M H' v d := Rep.keep (Keep.of_same s) d v h
theorem RepAll.same {ds : List D} {vs : List V} (s : Same K H H') (h : RepAll K M H vs ds) : RepAll K M H' vs ds := RepAll.keep (Keep.of_same s) ds vs h
mutual
theorem Rep.weak (w : ∀ a, M' a → M a) : ∀ (d : D) (v : V), Rep K M H v d → Rep K M' H v d
  | .non, _, h => by cases h; exact .non
  | .bl _, _, h => by cases h; exact .bl _
  | .int _, _, h => by cases h; exact .int _
  | .str _, _, h => by cases h; exact .str _
  | .lst ds, _, h => by
    cases h with
    | lst s n r => exact .lst s (fun m => n (w _ m)) (RepAll.weak w ds _ r)
  | .tup ds, _, h => by
    cases h with
    | tup s n r => exact .tup s (fun m => n (w _ m)) (RepAll.weak w ds _ r)
  | .scr ns, _, h => by
    cases h with
    | scr s =>
      refine .scr ?_
      rcases s with ⟨s, n⟩ | s
      · exact .inl ⟨s, fun m => n (w _ m)⟩
      · exact .inr s
  | .dct ks ds, _, h => by
    cases h with
    | dct s l n r => exact .dct s l (fun m => n (w _ m)) (RepAll.weak w ds _ r)
  | .dcT ks ds, _, h => by
    cases h with
    | dcT s l n r => exact .dcT s l (fun m => n (w _ m)) (RepAll.weak w ds _ r)
  | .exc c, _, h => by
    cases h with
    | exc e s n => exact .exc e s (fun m => n (w _ m))
  | .ob c ks ds, _, h => by
    cases h with
    | ob e s l n r => exact .ob e s l (fun m => n (w _ m)) (RepAll.weak w ds _ r)
theorem RepAll.weak (w : ∀ a, M' a → M a) : ∀ (ds : List D) (vs : List V), RepAll K M H vs ds → RepAll K M' H vs ds
  | [], _, h => by cases h; exact .nil
  | d :: ds, _, h => by
    cases h with
    | cons a b => exact .cons (Rep.weak w d _ a) (RepAll.weak w ds _ b)
end
theorem RepAll.length : ∀ {ds : List D} {vs : List V}, RepAll K M H vs ds → vs.length = ds.length
  | [], _, h => by cases h; rfl
  | _ :: ds, _, h => by
    cases h with
    | cons _ b => rw [List.length_cons, List.length_cons, RepAll.length b]
theorem RepAll.get : ∀ {ds : List D} {vs : List V} {i : Nat} {d : D}, RepAll K M H vs ds → ds[i]? = some d → ∃ v, vs[i]? = some v ∧ Rep K M H v d
  | [], _, _, _, _, e => by simp at e
  | _ :: _, _, 0, _, .cons a _, e => by simp at e; subst e; exact ⟨_, rfl, a⟩
  | _ :: ds, _, i + 1, d, .cons _ b, e => by
    obtain ⟨v, h1, h2⟩ := RepAll.get (i := i) (d := d) b (by simpa using e)
    exact ⟨v, by simpa using h1, h2⟩
theorem RepAll.get' : ∀ {ds : List D} {vs : List V} {i : Nat} {v : V}, RepAll K M H vs ds → vs[i]? = some v → ∃ d, ds[i]? = some d ∧ Rep K M H v d
  | _, [], _, _, _, e => by simp at e
  | _, _ :: _, 0, _, .cons a _, e => by simp at e; subst e; exact ⟨_, rfl, a⟩
  | _, _ :: _, i + 1, d, .cons _ b, e => by
    obtain ⟨v, h1, h2⟩ := RepAll.get' (i := i) (v := d) b (by simpa using e)
    exact ⟨v, by simpa using h1, h2⟩
theorem RepAll.append : ∀ {ds es : List D} {vs us : List V}, RepAll K M H vs ds → RepAll K M H us es → RepAll K M H (vs ++ us) (ds ++ es)
  | _, _, _, _, .nil, s => s
  | _, _, _, _, .cons r t, s => .cons r (RepAll.append t s)
theorem RepAll.take : ∀ {ds : List D} {vs : List V} (n : Nat), RepAll K M H vs ds → RepAll K M H (vs.take n) (ds.take n)
  | _, _, 0, _ => .nil
  | _, _, _ + 1, .nil => .nil
  | _, _, n + 1, .cons r t => .cons r (RepAll.take n t)
theorem RepAll.drop : ∀ {ds : List D} {vs : List V} (n : Nat), RepAll K M H vs ds → RepAll K M H (vs.drop n) (ds.drop n)
  | _, _, 0, r => r
  | _, _, _ + 1, .nil => .nil
  | _, _, n + 1, .cons _ t => RepAll.drop n t
theorem RepAll.set {d : D} {v : V} (r : Rep K M H v d) : ∀ {ds : List D} {vs : List V} (n : Nat), RepAll K M H vs ds → RepAll K M H (vs.set n v) (ds.set n d)
  | _, _, _, .nil => .nil
  | _, _, 0, .cons _ t => .cons r t
  | _, _, n + 1, .cons q t => .cons q (RepAll.set r n t)
theorem RepAll.reverse {ds : List D} {vs : List V} (r : RepAll K M H vs ds) : RepAll K M H vs.reverse ds.reverse := by
  induction ds generalizing vs with
  | nil => cases r; exact .nil
  | cons d ds ih =>
    cases r with
    | cons a b =>
      rw [List.reverse_cons, List.reverse_cons]
      exact (ih b).append (.cons a .nil)
theorem RepAll.eraseIdx : ∀ {ds : List D} {vs : List V} (n : Nat), RepAll K M H vs ds → RepAll K M H (vs.eraseIdx n) (ds.eraseIdx n)
  | _, _, _, .nil => .nil
  | _, _, 0, .cons _ t => t
  | _, _, n + 1, .cons q t => .cons q (RepAll.eraseIdx n t)
theorem RepAll.dropLast {ds : List D} {vs : List V} (r : RepAll K M H vs ds) : RepAll K M H vs.dropLast ds.dropLast := by
  rw [List.dropLast_eq_take, List.dropLast_eq_take, r.length]
  exact r.take _
/-- ints -/
theorem RepAll.ints : ∀ {ns : List Int} {vs : List V}, RepAll K M H vs (ns.map D.int) → vs = ns.map V.int
  | [], _, h => by cases h; rfl
  | _ :: ns, _, h => by
    cases h with
    | cons a b => cases a; rw [RepAll.ints b]; rfl
theorem RepAll.bls : ∀ {ns : List Bool} {vs : List V}, RepAll K M H vs (ns.map D.bl) → vs = ns.map V.bl
  | [], _, h => by cases h; rfl
  | _ :: ns, _, h => by
    cases h with
    | cons a b => cases a; rw [RepAll.bls b]; rfl
theorem RepAll.of_ints : ∀ (ns : List Int), RepAll K M H (ns.map V.int) (ns.map D.int)
  | [] => .nil
  | _ :: ns => .cons (.int _) (RepAll.of_ints ns)
theorem RepAll.replicate {d : D} {v : V} (r : Rep K M H v d) : ∀ n, RepAll K M H (List.replicate n v) (List.replicate n d)
  | 0 => .nil
  | n + 1 => .cons r (RepAll.replicate r n)
end

/-! ## the tables of the defs that make lambdas -/
theorem TabsK.same {K : PySem.W.Frag} {H H' : Hp} (t : TabsK K H) (s : Same K H H') : TabsK K H' := s.tab t
theorem TabsK.keep {K : PySem.W.Frag} {M : Mk} {H H' : Hp} (t : TabsK K H) (s : Keep K M H H') : TabsK K H' := s.tab t
def TabBs (K : PySem.W.Frag) (mg : Str → Option Value) (base : Heap) : Prop := ∀ n ∈ lamNames, LamX.TabB base mg (He.cT K (n, none)).1 (He.cT K (n, none)).2

/-! ## data without lists: marks do not matter -/
mutual
def D.flat : D → Bool
  | .lst _ => false
  | .scr _ => false
  | .dct _ _ => false
  | .dcT _ _ => false
  | .ob _ _ _ => false
  | .tup l => flatAll l
  | _ => true
def flatAll : List D → Bool
  | [] => true
  | d :: r => d.flat && flatAll r
end

/-! ## data as the library's data -/
mutual
def D.py : D → PyData
  | .non => .none
  | .bl b => .bool b
  | .int i => .int i
  | .str s => .str s
  | .tup l => .tuple (pyAll l)
  | .lst l => .list (pyAll l)
  | .scr l => .list (l.map PyData.int)
  | .dct _ _ => .none
  | .dcT _ _ => .none
  | .exc _ => .none
  | .ob _ _ _ => .none
def pyAll : List D → List PyData
  | [] => []
  | d :: r => d.py :: pyAll r
end
/-! plain data: what is compared -/
mutual
def D.pl : D → Bool
  | .dct _ _ => false
  | .dcT _ _ => false
  | .exc _ => false
  | .ob _ _ _ => false
  | .tup l => plAll l
  | .lst l => plAll l
  | _ => true
def plAll : List D → Bool
  | [] => true
  | d :: r => d.pl && plAll r
end
section
variable {K : PySem.W.Frag} {M M' : Mk} {H H' H'' : Hp}
theorem dp_ints : ∀ ns : List Int, DpAll K H (ns.map V.int) (ns.map PyData.int)
  | [] => .nil
  | _ :: ns => .cons (.int _) (dp_ints ns)
mutual
theorem Rep.flat (dm : DomM M' H) : ∀ (d : D) (v : V), d.flat = true → Rep K M H v d → Rep K M' H v d
  | .non, _, _, h => by cases h; exact .non
  | .bl _, _, _, h => by cases h; exact .bl _
  | .int _, _, _, h => by cases h; exact .int _
  | .str _, _, _, h => by cases h; exact .str _
  | .lst ds, _, f, h => by cases f
  | .scr ds, _, f, h => by cases f
  | .dct _ _, _, f, h => by cases f
  | .dcT _ _, _, f, h => by cases f
  | .exc _, _, f, h => by
    cases h with
    | exc e s n => exact .exc e s (dm.notExt s)
  | .ob _ _ _, _, f, h => by cases f
  | .tup ds, _, f, h => by
    cases h with
    | tup s n r => exact .tup s (dm.notTup s) (RepAll.flat dm ds _ f r)
theorem RepAll.flat (dm : DomM M' H) : ∀ (ds : List D) (vs : List V), flatAll ds = true → RepAll K M H vs ds → RepAll K M' H vs ds
  | [], _, _, h => by cases h; exact .nil
  | d :: ds, _, f, h => by
    have f' : d.flat = true ∧ flatAll ds = true := by simpa [flatAll] using f
    cases h with
    | cons a b => exact .cons (Rep.flat dm d _ f'.1 a) (RepAll.flat dm ds _ f'.2 b)
end
mutual
theorem Rep.dp : ∀ (d : D) (v : V), d.pl = true → Rep K M H v d → Dp K H v d.py
  | .non, _, _, h => by cases h; exact .non
  | .bl _, _, _, h => by cases h; exact .bl _
  | .int _, _, _, h => by cases h; exact .int _
  | .str _, _, _, h => by cases h; exact .str _
  | .lst ds, _, p, h => by
    cases h with
    | lst s n r => exact .lst (SqL.of s) (RepAll.dp ds _ p r)
  | .tup ds, _, p, h => by
    cases h with
    | tup s n r => exact .tup (SqT.of s) (RepAll.dp ds _ p r)
  | .scr ns, _, _, h => by
    cases h with
    | scr s => exact .lst s.sq (dp_ints ns)
  | .dct _ _, _, p, _ => by cases p
  | .dcT _ _, _, p, _ => by cases p
  | .exc _, _, p, _ => by cases p
  | .ob _ _ _, _, p, _ => by cases p
theorem RepAll.dp : ∀ (ds : List D) (vs : List V), plAll ds = true → RepAll K M H vs ds → DpAll K H vs (pyAll ds)
  | [], _, _, h => by cases h; exact .nil
  | d :: ds, _, p, h => by
    have p' : d.pl = true ∧ plAll ds = true := by simpa [plAll] using p
    cases h with
    | cons a b => exact .cons (Rep.dp d _ p'.1 a) (RepAll.dp ds _ p'.2 b)
end
end
end PL

namespace PL
open PySem PySem.Spec PyProof.Rows L2

/-! ## readings by meaning -/
abbrev En := List (Option D)
structure Rel (K : PySem.W.Frag) (M : Mk) (σ : L2.St) (H : Hp) (ρ : En) : Prop where
  len : σ.length = ρ.length
  get : ∀ (i : Nat) (d : D), ρ[i]? = some (some d) → ∃ v, σ[i]? = some (some v) ∧ Rep K M H v d
  tab : TabsK K H
theorem Rel.keep {K : PySem.W.Frag} {M : Mk} {σ : L2.St} {H H' : Hp} {ρ : En} (r : Rel K M σ H ρ) (s : Keep K M H H') : Rel K M σ H' ρ := ⟨r.len, fun i d e => by
  obtain ⟨v, h1, h2⟩ := r.get i d e
  exact ⟨v, h1, Rep.keep s _ _ h2⟩, r.tab.keep s⟩
theorem Rel.same {K : PySem.W.Frag} {M : Mk} {σ : L2.St} {H H' : Hp} {ρ : En} (r : Rel K M σ H ρ) (s : Same K H H') : Rel K M σ H' ρ := r.keep (Keep.of_same s)
theorem Rel.set {K : PySem.W.Frag} {M : Mk} {σ : L2.St} {H : Hp} {ρ : En} {i : Nat} {v : V} {d : D} (r : Rel K M σ H ρ) (q : Rep K M H v d) : Rel K M (σ.set i (some v)) H (ρ.set i (some d)) := ⟨by rw [List.length_set, List.length_set]; exact r.len, fun j e h => by
  by_cases hj : i = j
  · subst hj
    by_cases hi : i < ρ.length
    · rw [List.getElem?_set_self hi] at h
      cases h
      exact ⟨v, List.getElem?_set_self (by rw [r.len]; exact hi), q⟩
    · rw [List.getElem?_eq_none (by rw [List.length_set]; omega)] at h; cases h
  · rw [List.getElem?_set_ne hj] at h ⊢
    exact r.get j e h, r.tab⟩
def excV (mg : Str → Option Value) (c : Str) : Value := (mg c).getD .none
/-- what is asked behind an expression of this outcome -/
def OutE (X : Cx) (W : WX) (M : Mk) (σ : L2.St) (H : Hp) (Q : VK) : Res D → Prop
  | .ok d => ∀ v H', Same X.K H H' → Rep X.K M H' v d → Q v H'
  | .exc c => ∀ H', Same X.K H H' → W (excV X.mg c) none σ H'
  | .stuck => False
def OutA (X : Cx) (W : WX) (M : Mk) (σ : L2.St) (H : Hp) (Q : List V → Hp → Prop) : Res (List D) → Prop
  | .ok ds => ∀ vs H', Same X.K H H' → RepAll X.K M H' vs ds → Q vs H'
  | .exc c => ∀ H', Same X.K H H' → W (excV X.mg c) none σ H'
  | .stuck => False
def OutT (X : Cx) (W : WX) (σ : L2.St) (H : Hp) (Q : Bool → Hp → Prop) : Res Bool → Prop
  | .ok b => ∀ H', Same X.K H H' → Q b H'
  | .exc c => ∀ H', Same X.K H H' → W (excV X.mg c) none σ H'
  | .stuck => False
/-- one more mark -/
def mark (M : Mk) (p : Addr) : Mk := fun a => M a ∨ a = p
/-- a new list -/
def OutF (X : Cx) (W : WX) (M : Mk) (σ : L2.St) (H : Hp) (Q : VK) : Res D → Prop
  | .ok d => ∃ ds, d = .lst ds ∧ ∀ p vs H', Same X.K H H' → Fr H p → H' p = some (.lst vs) → RepAll X.K (mark M p) H' vs ds → Q (.ref p) H'
  | .exc c => ∀ H', Same X.K H H' → W (excV X.mg c) none σ H'
  | .stuck => False
def tS (X : Cx) (W : WX) (m : En → Res D) : TE := fun σ H Q => ∃ M ρ, DomM M H ∧ Rel X.K M σ H ρ ∧ OutE X W M σ H Q (m ρ)
def tF (X : Cx) (W : WX) (m : En → Res D) : TE := fun σ H Q => ∃ M ρ, DomM M H ∧ Rel X.K M σ H ρ ∧ OutF X W M σ H Q (m ρ)
def tSA (X : Cx) (W : WX) (m : En → Res (List D)) : TA := fun σ H Q => ∃ M ρ, DomM M H ∧ Rel X.K M σ H ρ ∧ OutA X W M σ H Q (m ρ)
def tST (X : Cx) (W : WX) (m : En → Res Bool) : TT := fun σ H Q => ∃ M ρ, DomM M H ∧ Rel X.K M σ H ρ ∧ OutT X W σ H Q (m ρ)
section
variable {X : Cx} {W : WX}
theorem pe_weak {e : Expr} {t t' : TE} (h : PE X e t) (w : ∀ σ H Q, t' σ H Q → t σ H Q) : PE X e t' := ⟨fun pins s σ H Q I q => h.run pins s σ H Q I (w σ H Q q)⟩
theorem pa_weak {e : List Expr} {t t' : TA} (h : PA X e t) (w : ∀ σ H Q, t' σ H Q → t σ H Q) : PA X e t' := ⟨fun p pins s σ H Q I q => h.run p pins s σ H Q I (w σ H Q q)⟩
theorem pt_weak {e : Expr} {t t' : TT} (h : PT X e t) (w : ∀ σ H Q, t' σ H Q → t σ H Q) : PT X e t' := ⟨fun pins s σ H Q I q => h.run pins s σ H Q I (w σ H Q q)⟩
theorem OutE.of_F {M : Mk} {σ : L2.St} {H : Hp} {Q : VK} {r : Res D} (dm : DomM M H) (h : OutE X W M σ H Q r) (hl : ∀ d, r = .ok d → ∃ ds, d = .lst ds) : OutF X W M σ H Q r := by
  cases r with
  | ok d =>
    obtain ⟨ds, e⟩ := hl d rfl
    subst e
    exact ⟨ds, rfl, fun p vs H' s n e r => h _ H' s (.lst e (dm.fresh n) (RepAll.weak (fun _ z => .inl z) _ _ r))⟩
  | exc c => exact h
  | stuck => exact h
theorem Res.bind_eq_ok {α β : Type} {r : Res α} {f : α → Res β} {b : β} (h : r.bind f = .ok b) : ∃ a, r = .ok a ∧ f a = .ok b := by
  cases r with
  | ok a => exact ⟨a, rfl, h⟩
  | exc c => cases h
  | stuck => cases h
/-- the arguments, from the left -/
def consM (m : En → Res D) (ms : En → Res (List D)) : En → Res (List D) := fun ρ => (m ρ).bind fun d => (ms ρ).bind fun ds => .ok (d :: ds)
def notStar : Expr → Bool
  | .Starred _ _ => false
  | _ => true
theorem star_of {e : Expr} (h : notStar e = true) (es : List Expr) (env : PySem.Env) : starEach (e :: es) env = (false, eval e env) :: starEach es env := by
  cases e <;> first | rfl | cases h
theorem sa_nil : PA X [] (tSA X W fun _ => .ok []) := pa_weak pa_nil fun σ H Q h => by
  obtain ⟨M, ρ, dm, r, o⟩ := h
  exact o [] H (Same.refl H) .nil
theorem sa_cons {e : Expr} {es : List Expr} {m : En → Res D} {ms : En → Res (List D)} (h : PE X e (tS X W m)) (hs : PA X es (tSA X W ms)) (n : notStar e = true) : PA X (e :: es) (tSA X W (consM m ms)) :=
  pa_weak (pa_cons h hs (star_of n es X.env)) fun σ H Q h => by
    obtain ⟨M, ρ, dm, r, o⟩ := h
    refine ⟨M, ρ, dm, r, ?_⟩
    unfold consM at o
    cases e1 : m ρ with
    | ok d =>
      rw [e1] at o
      intro v H1 s1 r1
      refine ⟨M, ρ, dm.mono s1, r.same s1, ?_⟩
      cases e2 : ms ρ with
      | ok ds =>
        rw [e2] at o
        exact fun vs H2 s2 r2 => o (v :: vs) H2 (s1.trans s2) (.cons (r1.same s2) r2)
      | exc c =>
        rw [e2] at o
        exact fun H' s' => o H' (s1.trans s')
      | stuck => rw [e2] at o; exact o
    | exc c => rw [e1] at o; exact o
    | stuck => rw [e1] at o; exact o
end

/-! ## a primitive: strict in its parts -/
inductive PEs (X : Cx) (W : WX) : List Expr → List (En → Res D) → Prop
  | nil : PEs X W [] []
  | cons {e : Expr} {es : List Expr} {m : En → Res D} {ms : List (En → Res D)} : PE X e (tS X W m) → notStar e = true → PEs X W es ms → PEs X W (e :: es) (m :: ms)
def seqM : List (En → Res D) → En → Res (List D)
  | [] => fun _ => .ok []
  | m :: ms => consM m (seqM ms)
theorem PEs.pa {X : Cx} {W : WX} : ∀ {es : List Expr} {ms : List (En → Res D)}, PEs X W es ms → PA X es (tSA X W (seqM ms))
  | _, _, .nil => sa_nil
  | _, _, .cons h n t => sa_cons h t.pa n
def ofO : Option D → Res D
  | some d => .ok d
  | none => .stuck
structure Prim where
  syn : Scope → Expr → Option (List Expr)
  sem : List D → Option D
  fresh : Bool := false
def truth : D → Res Bool
  | .bl b => .ok b
  | _ => .stuck
/-- the parts' readings are given; so is the whole's -/
structure PrimOk (X : Cx) (W : WX) (p : Prim) : Prop where
  pe : ∀ {e : Expr} {es : List Expr} {ms : List (En → Res D)}, p.syn X.env.scope e = some es → PEs X W es ms → PE X e (tS X W fun ρ => (seqM ms ρ).bind fun ds => ofO (p.sem ds))
  fr : p.fresh = true → ∀ {e : Expr} {es : List Expr} {ms : List (En → Res D)}, p.syn X.env.scope e = some es → PEs X W es ms → PE X e (tF X W fun ρ => (seqM ms ρ).bind fun ds => ofO (p.sem ds))
  pt : ∀ {e : Expr} {es : List Expr} {ms : List (En → Res D)}, p.syn X.env.scope e = some es → PEs X W es ms → PT X e (tST X W fun ρ => ((seqM ms ρ).bind fun ds => ofO (p.sem ds)).bind truth)

section
variable {X : Cx} {W : WX}
/-- from a value to a test -/
theorem pt_of_pe {e : Expr} {m : En → Res D} (h : PE X e (tS X W m)) (he : ∀ whole, isTrue e X.env whole = (do let v ← whole; standAt e.pos; holding [v] (truthy v))) : PT X e (tST X W fun ρ => (m ρ).bind truth) :=
  pt_weak (pt_val h he) fun σ H Q q => by
    obtain ⟨M, ρ, dm, r, o⟩ := q
    refine ⟨M, ρ, dm, r, ?_⟩
    dsimp only at o
    cases e1 : m ρ with
    | ok d =>
      rw [e1] at o
      intro v H' s' r'
      cases d with
      | bl b => cases r'; exact ⟨b, rfl, o H' s'⟩
      | _ => exact o.elim
    | exc c => rw [e1] at o; exact o
    | stuck => rw [e1] at o; exact o
/-- a value that is a bool, whose test is a reading of the value -/
theorem w_test {m : En → Res D} {σ : L2.St} {H : Hp} {Q : Bool → Hp → Prop} (q : tST X W (fun ρ => (m ρ).bind truth) σ H Q) : tS X W m σ H fun x H' => ∃ k, x = .bl k ∧ Q k H' := by
  obtain ⟨M, ρ, dm, r, o⟩ := q
  refine ⟨M, ρ, dm, r, ?_⟩
  dsimp only at o
  cases e1 : m ρ with
  | ok d =>
    rw [e1] at o
    intro v H' s' r'
    cases d with
    | bl b => cases r'; exact ⟨b, rfl, o H' s'⟩
    | _ => exact o.elim
  | exc c => rw [e1] at o; exact o
  | stuck => rw [e1] at o; exact o
/-- one part -/
theorem w_1 {ma : En → Res D} {sem : List D → Option D} {r : V → Hp → VK → Prop} {σ : L2.St} {H : Hp} {Q : VK}
    (hr : ∀ (M : Mk) (H : Hp) (x : V) (d1 d : D), DomM M H → Rep X.K M H x d1 → sem [d1] = some d → (∀ v H', Same X.K H H' → Rep X.K M H' v d → Q v H') → r x H Q)
    (q : tS X W (fun ρ => (seqM [ma] ρ).bind fun ds => ofO (sem ds)) σ H Q) : tS X W ma σ H fun x H1 => r x H1 Q := by
  obtain ⟨M, ρ, dm, re, o⟩ := q
  refine ⟨M, ρ, dm, re, ?_⟩
  simp only [seqM, consM] at o
  cases e1 : ma ρ with
  | ok d1 =>
    rw [e1] at o
    intro x H1 s1 r1
    simp only [Res.bind_ok] at o
    cases e3 : sem [d1] with
    | none => rw [e3] at o; exact o.elim
    | some d => rw [e3] at o; exact hr M H1 x d1 d (dm.mono s1) r1 e3 fun v H' s' rv => o v H' (s1.trans s') rv
  | exc c => rw [e1] at o; exact o
  | stuck => rw [e1] at o; exact o
/-- two parts -/
theorem w_2 {ma mb : En → Res D} {sem : List D → Option D} {r : R2} {σ : L2.St} {H : Hp} {Q : VK}
    (hr : ∀ (M : Mk) (H : Hp) (x y : V) (d1 d2 d : D), DomM M H → Rep X.K M H x d1 → Rep X.K M H y d2 → sem [d1, d2] = some d → (∀ v H', Same X.K H H' → Rep X.K M H' v d → Q v H') → r x y H Q)
    (q : tS X W (fun ρ => (seqM [ma, mb] ρ).bind fun ds => ofO (sem ds)) σ H Q) : tOp r (tS X W ma) (tS X W mb) σ H Q := by
  obtain ⟨M, ρ, dm, re, o⟩ := q
  refine ⟨M, ρ, dm, re, ?_⟩
  simp only [seqM, consM] at o
  cases e1 : ma ρ with
  | ok d1 =>
    rw [e1] at o
    intro x H1 s1 r1
    refine ⟨M, ρ, dm.mono s1, re.same s1, ?_⟩
    cases e2 : mb ρ with
    | ok d2 =>
      rw [e2] at o
      intro y H2 s2 r2
      simp only [Res.bind_ok] at o
      cases e3 : sem [d1, d2] with
      | none => rw [e3] at o; exact o.elim
      | some d => rw [e3] at o; exact hr M H2 x y d1 d2 d ((dm.mono s1).mono s2) (r1.same s2) r2 e3 fun v H' s' rv => o v H' ((s1.trans s2).trans s') rv
    | exc c => rw [e2] at o; exact fun H' s' => o H' (s1.trans s')
    | stuck => rw [e2] at o; exact o
  | exc c => rw [e1] at o; exact o
  | stuck => rw [e1] at o; exact o
/-- any number of parts, as arguments -/
theorem w_n {ms : En → Res (List D)} {sem : List D → Option D} {r : List V → Hp → VK → Prop} {σ : L2.St} {H : Hp} {Q : VK}
    (hr : ∀ (M : Mk) (H : Hp) (xs : List V) (ds : List D) (d : D), DomM M H → RepAll X.K M H xs ds → sem ds = some d → (∀ v H', Same X.K H H' → Rep X.K M H' v d → Q v H') → r xs H Q)
    (q : tS X W (fun ρ => (ms ρ).bind fun ds => ofO (sem ds)) σ H Q) : tCB r (tSA X W ms) σ H Q := by
  obtain ⟨M, ρ, dm, re, o⟩ := q
  refine ⟨M, ρ, dm, re, ?_⟩
  dsimp only at o
  cases e1 : ms ρ with
  | ok ds =>
    rw [e1] at o
    intro xs H1 s1 r1
    simp only [Res.bind_ok] at o
    cases e3 : sem ds with
    | none => rw [e3] at o; exact o.elim
    | some d => rw [e3] at o; exact hr M H1 xs ds d (dm.mono s1) r1 e3 fun v H' s' rv => o v H' (s1.trans s') rv
  | exc c => rw [e1] at o; exact o
  | stuck => rw [e1] at o; exact o
/-- a new list from arguments -/
theorem w_nF {ms : En → Res (List D)} {sem : List D → Option D} {r : List V → Hp → VK → Prop} {σ : L2.St} {H : Hp} {Q : VK}
    (hr : ∀ (M : Mk) (H : Hp) (xs : List V) (ds : List D) (d : D), DomM M H → RepAll X.K M H xs ds → sem ds = some d → (∃ es, d = .lst es ∧ ∀ p vs H', Same X.K H H' → Fr H p → H' p = some (.lst vs) → RepAll X.K (mark M p) H' vs es → Q (.ref p) H') → r xs H Q)
    (q : tF X W (fun ρ => (ms ρ).bind fun ds => ofO (sem ds)) σ H Q) : tCB r (tSA X W ms) σ H Q := by
  obtain ⟨M, ρ, dm, re, o⟩ := q
  refine ⟨M, ρ, dm, re, ?_⟩
  dsimp only at o
  cases e1 : ms ρ with
  | ok ds =>
    rw [e1] at o
    intro xs H1 s1 r1
    simp only [Res.bind_ok] at o
    cases e3 : sem ds with
    | none => rw [e3] at o; exact o.elim
    | some d =>
      rw [e3] at o
      obtain ⟨es, ed, o⟩ := o
      exact hr M H1 xs ds d (dm.mono s1) r1 e3 ⟨es, ed, fun p vs H' s' n e rv => o p vs H' (s1.trans s') (s1.free n) e rv⟩
  | exc c => rw [e1] at o; exact o
  | stuck => rw [e1] at o; exact o
end
end PL

namespace PL
open PySem PySem.Spec PyProof.Rows L2

/-! ## the little language -/
inductive Tg where
  | name (i : Nat) | tup (l : List Nat) | pr (i : Nat) (l : List Nat)
/-- what is known of the frame: the program, the world, what the head left, the level, the frame's name -/
structure Gm where
  prog : Program
  w : World
  K : PySem.W.Frag
  mg : Str → Option Value
  base : Heap
  k : Nat
  Q : Str
inductive Cn where
  | non | bl (b : Bool) | int (i : Int) | str (s : Str) | cls (d : Str) (b : Bool) | fact (φ : Gm → Prop)
def Cn.d : Cn → D
  | .non => .non | .bl b => .bl b | .int i => .int i | .str s => .str s | .cls _ _ => .non | .fact _ => .non
/-- what is a constant of the module -/
def Cn.isC : Cn → Bool
  | .cls _ _ => false
  | .fact _ => false
  | _ => true
/-- an expression read by a rule of its own -/
structure Atom where
  chk : List Str → Scope → Expr → Bool
  sem : En → Res D
mutual
inductive E where
  | v (i : Nat)
  | atom (q : Atom)
  | c (k : Cn)
  | g (x : Str) (k : Cn)
  | prim (p : Prim) (as : EL)
  | and (a b : E) | or (a b : E) | not (a : E) | ite (t a b : E)
  | chain (o1 o2 : CmpOp) (f1 f2 : D → D → Option D) (a b c : E)
  | call (f : Str) (sem : List D → Res D) (as : EL)
  | comp (own : List (Str × Nat)) (tg : Tg) (it : IT) (cond : EO) (elt : E)
inductive EL where
  | nil | cons (a : E) (r : EL)
inductive EO where
  | none | some (e : E)
inductive IT where
  | seq (e : E) | rng (as : EL) | zip (a b : E) | enum (e : E)
end

/-! ## its meaning -/
def getE (ρ : En) (i : Nat) : Res D := match ρ[i]? with | some (some d) => .ok d | _ => .stuck
def wipeD (ρ : En) : List Nat → En
  | [] => ρ
  | v :: vs => (wipeD ρ vs).set v none
def setAll : List Nat → List D → En → Res En
  | [], [], ρ => .ok ρ
  | i :: is, d :: ds, ρ => setAll is ds (ρ.set i (some d))
  | _, _, _ => .stuck
def setTg : Tg → D → En → Res En
  | .name i, d, ρ => .ok (ρ.set i (some d))
  | .tup is, .tup ds, ρ => setAll is ds ρ
  | .pr i is, .tup [d, .tup ds], ρ => setAll is ds (ρ.set i (some d))
  | _, _, _ => .stuck
def noExc {α : Type} : Res α → Res α
  | .ok a => .ok a
  | _ => .stuck
def compM (f : D → Res (Option D)) : List D → Res (List D)
  | [] => .ok []
  | d :: r => (f d).bind fun o => (compM f r).bind fun out => .ok (match o with | some x => x :: out | none => out)
def sizeD : Nat := 100000
def rangeD (a b : Int) : List D := (List.range (b - a).toNat).map fun i => D.int (a + (i : Nat))
def strD (s : Str) : List D := s.cps.toList.map fun c => D.str ⟨#[c]⟩
def itemsD : D → Res (List D)
  | .lst l => .ok l
  | .tup l => .ok l
  | .str s => .ok (strD s)
  | _ => .stuck
def zipD : List D → List D → List D
  | a :: as, b :: bs => .tup [a, b] :: zipD as bs
  | _, _ => []
def enumD : Nat → List D → List D
  | i, a :: as => .tup [.int (i : Nat), a] :: enumD (i + 1) as
  | _, [] => []
def okZ (a : Int) : Bool := decide (-(2 ^ 62) ≤ a) && decide (a < 2 ^ 62)
def rngD : List D → Res (List D)
  | [.int b] => if okZ b then .ok (rangeD 0 b) else .stuck
  | [.int a, .int b] => if okZ a && okZ b then .ok (rangeD a b) else .stuck
  | [.int a, .int b, .int (-1)] => if okZ a && okZ b then .ok ((List.range (a - b).toNat).map fun i => D.int (a - (i : Nat))) else .stuck
  | _ => .stuck
def zipItems : D → D → Res (List D)
  | .lst a, .lst b => .ok (zipD a b)
  | .tup a, .tup b => .ok (zipD a b)
  | _, _ => .stuck
def enumItems : D → Res (List D)
  | .lst a => .ok (enumD 0 a)
  | .tup a => .ok (enumD 0 a)
  | _ => .stuck
mutual
def ev : E → En → Res D
  | .v i, ρ => getE ρ i
  | .atom q, ρ => q.sem ρ
  | .c k, _ => .ok k.d
  | .g _ k, _ => .ok k.d
  | .prim p as, ρ => (evL as ρ).bind fun ds => ofO (p.sem ds)
  | .and a b, ρ => (ev a ρ).bind fun x => (truth x).bind fun t => if t then ev b ρ else .ok x
  | .or a b, ρ => (ev a ρ).bind fun x => (truth x).bind fun t => if t then .ok x else ev b ρ
  | .not a, ρ => (ev a ρ).bind fun x => (truth x).bind fun t => .ok (.bl (!t))
  | .ite t a b, ρ => ((ev t ρ).bind truth).bind fun k => if k then ev a ρ else ev b ρ
  | .chain _ _ f1 f2 a b c, ρ => (ev a ρ).bind fun x => (ev b ρ).bind fun y => (ofO (f1 x y)).bind fun z => (truth z).bind fun t => if t then (ev c ρ).bind fun u => ofO (f2 y u) else .ok (.bl false)
  | .call _ sem as, ρ => (evL as ρ).bind sem
  | .comp own tg it cond elt, ρ => (evI it ρ).bind fun ds => if ds.length ≤ sizeD then (compM (fun d => noExc ((setTg tg d (wipeD ρ (own.map (·.2)))).bind fun ρ2 => (evO cond ρ2).bind fun t => if t then (ev elt ρ2).bind fun x => .ok (some x) else .ok none)) ds).bind fun out => .ok (.lst out) else .stuck
def evL : EL → En → Res (List D)
  | .nil, _ => .ok []
  | .cons a r, ρ => (ev a ρ).bind fun d => (evL r ρ).bind fun ds => .ok (d :: ds)
def evO : EO → En → Res Bool
  | .none, _ => .ok true
  | .some e, ρ => (ev e ρ).bind truth
def evI : IT → En → Res (List D)
  | .seq e, ρ => (ev e ρ).bind itemsD
  | .rng as, ρ => (evL as ρ).bind rngD
  | .zip a b, ρ => (ev a ρ).bind fun x => (ev b ρ).bind fun y => zipItems x y
  | .enum e, ρ => (ev e ρ).bind enumItems
end

/-! ## the text it stands for -/
def visB (sc : Scope) (x : Str) : Bool := match sc.names.lookup x with | some .local => true | some .cell => true | some .free => true | _ => false
def locB (sc : Scope) (x : Str) : Bool := match sc.names.lookup x with | some .local => true | some .cell => true | _ => false
def glB (sc : Scope) (x : Str) : Bool := match sc.names.lookup x with | some .globalImplicit => true | _ => false
def okName (x : Str) : Bool := !(x == ("__debug__" : Str)) && !(x == ("__classdict__" : Str))
def chkC : Cn → Const → Bool
  | .non, .none => true
  | .bl a, .bool b => a == b
  | .int a, .int b => decide (a = b)
  | .str a, .str b => decide (a = b)
  | _, _ => false
def chkNm (N : List Str) (sc : Scope) (i : Nat) : Expr → Bool
  | .Name x _ => decide (N[i]? = some x) && locB sc x
  | _ => false
def chkNms (N : List Str) (sc : Scope) : List Nat → List Expr → Bool
  | [], [] => true
  | i :: is, e :: es => chkNm N sc i e && chkNms N sc is es
  | _, _ => false
def chkTg (N : List Str) (sc : Scope) : Tg → Expr → Bool
  | .name i, e => chkNm N sc i e
  | .tup is, .Tuple es _ _ => chkNms N sc is es
  | .pr i is, .Tuple [e, .Tuple es _ _] _ _ => chkNm N sc i e && chkNms N sc is es
  | _, _ => false
def isTupE : Expr → Bool
  | .Tuple _ _ _ => true
  | _ => false
def tgIn (vs : List Nat) : Tg → Bool
  | .name i => vs.contains i
  | .tup is => is.all fun i => vs.contains i
  | .pr i is => vs.contains i && is.all fun i => vs.contains i
def opB : CmpOp → CmpOp → Bool
  | .Eq, .Eq => true | .NotEq, .NotEq => true | .Lt, .Lt => true | .LtE, .LtE => true | .Gt, .Gt => true | .GtE, .GtE => true
  | _, _ => false
mutual
def chk (N : List Str) : Scope → E → Expr → Bool
  | sc, .v i, .Name x _ => decide (N[i]? = some x) && visB sc x && okName x
  | _, .c k, .Constant kk _ _ => chkC k kk
  | sc, .atom q, e => q.chk N sc e
  | sc, .g x k, .Name y _ => decide (x = y) && glB sc x && okName x && k.isC
  | sc, .prim p as, e => match p.syn sc e with | some es => chkL N sc as es | none => false
  | sc, .and a b, .BoolOp .And (x :: y :: r) pos => chk N sc a x && (match r with | [] => chk N sc b y | z :: r' => chk N sc b (.BoolOp .And (y :: z :: r') pos))
  | sc, .or a b, .BoolOp .Or (x :: y :: r) pos => chk N sc a x && (match r with | [] => chk N sc b y | z :: r' => chk N sc b (.BoolOp .Or (y :: z :: r') pos))
  | sc, .not a, .UnaryOp .Not x _ => chk N sc a x
  | sc, .ite t a b, .IfExp x y z _ => chk N sc t x && chk N sc a y && chk N sc b z
  | sc, .chain o1 o2 _ _ a b c, .Compare x [p1, p2] [y, z] _ => opB o1 p1 && opB o2 p2 && chk N sc a x && chk N sc b y && chk N sc c z
  | sc, .call f _ as, .Call (.Name x _) es [] _ => decide (f = x) && glB sc x && okName x && !es.isEmpty && chkL N sc as es
  | sc, .comp own tg it cond elt, .ListComp x [⟨t, i, ifs, 0⟩] scope _ => blkC N sc scope own && chkTg N scope tg t && tgIn (own.map (·.2)) tg && chkI N sc it t i && chkO N (relS scope sc) cond ifs && chk N (relS scope sc) elt x
  | _, _, _ => false
def chkL (N : List Str) : Scope → EL → List Expr → Bool
  | _, .nil, [] => true
  | sc, .cons a r, e :: es => chk N sc a e && notStar e && chkL N sc r es
  | _, _, _ => false
def chkO (N : List Str) : Scope → EO → List Expr → Bool
  | _, .none, [] => true
  | sc, .some a, [e] => chk N sc a e
  | _, _, _ => false
def chkI (N : List Str) : Scope → IT → Expr → Expr → Bool
  | sc, .seq a, _, e => chk N sc a e && (match e with | .Set _ _ _ => false | _ => true)
  | sc, .rng as, _, .Call (.Name x _) es [] _ => decide (x = "range") && glB sc x && decide (1 ≤ es.length) && decide (es.length ≤ 3) && chkL N sc as es
  | sc, .zip a b, t, .Call (.Name x _) [e1, e2] [] _ => decide (x = "zip") && glB sc x && isTupE t && chk N sc a e1 && notStar e1 && chk N sc b e2 && notStar e2
  | sc, .enum a, t, .Call (.Name x _) [e] [] _ => decide (x = "enumerate") && glB sc x && isTupE t && chk N sc a e && notStar e
  | _, _, _, _ => false
end
end PL

namespace PL
open PySem PySem.Spec PyProof.Rows L2

/-! ## more marks -/
/-- the new marks are of what was not there -/
structure Ext (M M' : Mk) (H : Hp) : Prop where
  sub : ∀ a, M a → M' a
  new : ∀ a, M' a → M a ∨ Fr H a
section
variable {K : PySem.W.Frag} {M M' M'' : Mk} {H H' : Hp} {p : Addr}
theorem Ext.refl (M : Mk) (H : Hp) : Ext M M H := ⟨fun _ h => h, fun _ h => .inl h⟩
theorem Ext.mark (n : Fr H p) : Ext M (mark M p) H := ⟨fun _ h => .inl h, fun a h => h.elim .inl fun e => .inr (by rw [e]; exact n)⟩
theorem Ext.trans (a : Ext M M' H) (b : Ext M' M'' H') (s : Same K H H') : Ext M M'' H := ⟨fun x h => b.sub x (a.sub x h), fun x h => (b.new x h).elim (a.new x) fun e => .inr (s.free e)⟩
theorem Ext.not {a : Addr} {o : HO} (x : Ext M M' H) (e : H a = some o) (n : ¬ M a) (t : NT o := by first | exact nt_lst | exact nt_tup | exact nt_dK | exact nt_dT | exact nt_ext | exact nt_frz | exact nt_ins | exact nt_own | assumption) : ¬ M' a := fun m => (x.new a m).elim n fun z => z o e t
theorem Ext.notR {a : Addr} {o : HO} (x : Ext M M' H) (e : Rd H a o) (n : ¬ M a) (t : NT o) : ¬ M' a := by
  rcases e with e | ⟨u, e⟩
  · exact x.not e n t
  · exact x.not e n nt_frz
mutual
theorem Rep.ext (x : Ext M M' H) : ∀ (d : D) (v : V), Rep K M H v d → Rep K M' H v d
  | .non, _, h => by cases h; exact .non
  | .bl _, _, h => by cases h; exact .bl _
  | .int _, _, h => by cases h; exact .int _
  | .str _, _, h => by cases h; exact .str _
  | .lst ds, _, h => by
    cases h with
    | lst s m r => exact .lst s (x.not s m) (RepAll.ext x ds _ r)
  | .tup ds, _, h => by
    cases h with
    | tup s m r => exact .tup s (x.not s m) (RepAll.ext x ds _ r)
  | .scr ns, _, h => by
    cases h with
    | scr s =>
      refine .scr ?_
      rcases s with ⟨s, m⟩ | s
      · refine .inl ⟨s, ?_⟩
        rcases s with s | ⟨o, s⟩
        · exact x.not s m
        · exact x.not s m
      · exact .inr s
  | .dct ks ds, _, h => by
    cases h with
    | dct s l m r => exact .dct s l (x.notR s m nt_dK) (RepAll.ext x ds _ r)
  | .dcT ks ds, _, h => by
    cases h with
    | dcT s l m r => exact .dcT s l (x.notR s m nt_dT) (RepAll.ext x ds _ r)
  | .exc c, _, h => by
    cases h with
    | exc e s m => exact .exc e s (x.not s m)
  | .ob c ks ds, _, h => by
    cases h with
    | ob e s l m r => exact .ob e s l (x.not s m) (RepAll.ext x ds _ r)
theorem RepAll.ext (x : Ext M M' H) : ∀ (ds : List D) (vs : List V), RepAll K M H vs ds → RepAll K M' H vs ds
  | [], _, h => by cases h; exact .nil
  | d :: ds, _, h => by
    cases h with
    | cons a b => exact .cons (Rep.ext x d _ a) (RepAll.ext x ds _ b)
end
theorem Rel.ext {σ : L2.St} {ρ : En} (x : Ext M M' H) (r : Rel K M σ H ρ) : Rel K M' σ H ρ := ⟨r.len, fun i d e => by
  obtain ⟨v, h1, h2⟩ := r.get i d e
  exact ⟨v, h1, Rep.ext x _ _ h2⟩, r.tab⟩
theorem DomM.mark {o : HO} (d : DomM M H) (e : H p = some o) (m : MutO o) : DomM (mark M p) H := fun a h => by
  rcases h with h | h
  · exact d a h
  · exact ⟨o, by rw [h]; exact e, m⟩
theorem same_new {o : HO} (n : H p = none) : Same K H (upd H p o) := Same.of fun b x e => by
  rw [upd_ne (ne_of_none e n)]; exact e
theorem tab_upd {o o' : HO} (e : H p = some o') (m : MutO o') {P : Addr} {q : Str} (t : LamX.TabS H P q) : LamX.TabS (upd H p o) P q := by
  obtain ⟨ps, h1, h2, h3⟩ := t
  have np : P ≠ p := fun z => by
    rw [z, e] at h1
    cases h1
    exact m
  refine ⟨ps, by rw [upd_ne np]; exact h1, h2, fun pos cv hc => ?_⟩
  obtain ⟨c, e1, e2⟩ := h3 pos cv hc
  have nc : c ≠ p := fun z => by
    rw [z, e] at e2
    unfold LamX.CodeO at e2
    cases e2
    exact m
  exact ⟨c, e1, by rw [upd_ne nc]; exact e2⟩
theorem keep_upd {o o' : HO} (m : M p) (e : H p = some o') (mu : MutO o') : Keep K M H (upd H p o) := ⟨fun b x e n _ => by
  rw [upd_ne (show b ≠ p from fun z => n (by rw [z]; exact m))]; exact e, fun h p hp => tab_upd e mu (h p hp)⟩
theorem same_upd {H1 : Hp} {o o' : HO} (s : Same K H1 H) (n : Fr H1 p) (e : H p = some o') (m : MutO o') : Same K H1 (upd H p o) := ⟨fun b x h nt => by
  rw [upd_ne (n.ne h nt)]; exact s.app b x h nt, fun h p hp => tab_upd e m (s.tab h p hp)⟩
theorem DomM.upd {o : HO} (d : DomM M H) (m : MutO o) : DomM M (upd H p o) := fun a h => by
  by_cases e : a = p
  · exact ⟨o, by rw [e, upd_same], m⟩
  · obtain ⟨u, h1, h2⟩ := d a h
    exact ⟨u, by rw [upd_ne e]; exact h1, h2⟩
end

/-! ## what is known of the code around -/
def bnames : List Str := ["zip", "range", "enumerate", "len", "abs", "min", "max", "list", "tuple", "all", "any", "sum", "sorted", "set", "int", "isinstance", "str", "bool", "dict"]
structure XOk (X : Cx) (k : Nat) (W : WX) : Prop where
  calm : X.calm = true
  nd : X.N.Nodup
  room : Room k X.A
  tk : Takes X W
  bf : ∀ x ∈ bnames, X.mg x = none
  tb : TabBs X.K X.mg X.base
  cd : ∀ n ∈ lamNames, X.env.qual = n ++ ".<locals>." → X.env.code = .ref (He.cT X.K (n, none)).1
/-- a function's promise, by meaning -/
def spD (K : PySem.W.Frag) (mg : Str → Option Value) (n : Nat) (sem : List D → Res D) : Sp := fun vs H Q E => vs.length = n ∧ TabsK K H ∧ ∃ M ds, DomM M H ∧ RepAll K M H vs ds ∧
  match sem ds with
  | .ok d => ∀ v H', Same K H H' → Rep K M H' v d → Q v H'
  | .exc c => ∀ H', Same K H H' → E (excV mg c) none H'
  | .stuck => False
def GoodF (P : Program) (w : World) (K : PySem.W.Frag) (mg : Str → Option Value) (base : Heap) (k : Nat) (f : Str) (sem : List D → Res D) : Prop :=
  ∃ fa fd ps, FnOk P w K mg base (L2.CX P w) k fa fd ps (spD K mg ps.length sem) ∧ mg f = some (.ref fa) ∧ PySem.W.keepIn K (.ref fa) = true ∧ Binds K fd ps [] ∧ (∀ ds, sem ds ≠ .stuck → ds.length = ps.length)
abbrev GoodX (X : Cx) (k : Nat) : Str → (List D → Res D) → Prop := GoodF X.prog X.w X.K X.mg X.base k
def PrimG (p : Prim) : Prop := ∀ X k W, XOk X k W → PrimOk X W p
def OpG (op : CmpOp) (f : D → D → Option D) : Prop := ∀ X k W, XOk X k W → ∃ r : R2, OpR X (compareOp op) r ∧
  ∀ (M : Mk) (H : Hp) (x y : V) (d1 d2 d : D) (Q : VK), DomM M H → Rep X.K M H x d1 → Rep X.K M H y d2 → f d1 d2 = some d → (∀ v H', Same X.K H H' → Rep X.K M H' v d → Q v H') → r x y H Q
def Cn.v : Cn → V
  | .non => .non | .bl b => .bl b | .int i => .int i | .str s => .str s | .cls _ _ => .non | .fact _ => .non
/-- what is said of an error's class c and the class d: whether the one is the other's -/
structure ClsC (K : PySem.W.Frag) (mg : Str → Option Value) (c d : Str) (b : Bool) : Prop where
  ex : ∃ (C : Addr) (cv : Value), PySem.W.nsIn K mainGlobals c = some (some (.ref C)) ∧ mg c = some (.ref C) ∧ ExcC K C ∧ ((∃ D, cv = .ref D ∧ mg d = some cv) ∨ (mg d = none ∧ cv = .type "ValueError" ∧ d = "ValueError")) ∧ PySem.W.kitOne K (.ref C) cv = some b ∧ PySem.W.exmOne K (.ref C) cv = some b
def GC (Γ : Gm) (x : Str) : Cn → Prop
  | .cls d b => ClsC Γ.K Γ.mg x d b
  | .fact φ => φ Γ
  | k => ∃ u, Γ.mg x = some u ∧ RelV k.v u
abbrev gm (X : Cx) (k : Nat) : Gm := ⟨X.prog, X.w, X.K, X.mg, X.base, k, X.env.qual⟩
theorem GC.get {Γ : Gm} {x : Str} {k : Cn} (h : GC Γ x k) (i : k.isC = true) : ∃ u, Γ.mg x = some u ∧ RelV k.v u := by
  cases k with
  | cls d b => cases i
  | fact φ => cases i
  | _ => exact h
def AtomG (P : Str → (List D → Res D) → Prop) (C : Str → Cn → Prop) (q : Atom) : Prop := ∀ X k W, XOk X k W → P = GoodX X k → C = GC (gm X k) → ∀ x, q.chk X.N X.env.scope x = true → PE X x (tS X W q.sem) ∧ PT X x (tST X W fun ρ => (q.sem ρ).bind truth)
mutual
def good (P : Str → (List D → Res D) → Prop) (C : Str → Cn → Prop) : E → Prop
  | .v _ => True
  | .atom q => AtomG P C q
  | .c _ => True
  | .g x k => C x k
  | .prim p as => PrimG p ∧ goodL P C as
  | .and a b => good P C a ∧ good P C b
  | .or a b => good P C a ∧ good P C b
  | .not a => good P C a
  | .ite t a b => good P C t ∧ good P C a ∧ good P C b
  | .chain o1 o2 f1 f2 a b c => OpG o1 f1 ∧ OpG o2 f2 ∧ good P C a ∧ good P C b ∧ good P C c
  | .call f sem as => P f sem ∧ goodL P C as
  | .comp _ _ it cond elt => goodI P C it ∧ goodO P C cond ∧ good P C elt
def goodL (P : Str → (List D → Res D) → Prop) (C : Str → Cn → Prop) : EL → Prop
  | .nil => True
  | .cons a r => good P C a ∧ goodL P C r
def goodO (P : Str → (List D → Res D) → Prop) (C : Str → Cn → Prop) : EO → Prop
  | .none => True
  | .some a => good P C a
def goodI (P : Str → (List D → Res D) → Prop) (C : Str → Cn → Prop) : IT → Prop
  | .seq a => good P C a
  | .rng as => goodL P C as
  | .zip a b => good P C a ∧ good P C b
  | .enum a => good P C a
end

/-! ## targets -/
def gNames : List Nat → TGs
  | [] => gNil
  | i :: is => gCons (gName i) (gNames is)
def gTg (K : PySem.W.Frag) : Tg → TG
  | .name i => gName i
  | .tup is => gTup K is.length (gNames is)
  | .pr i is => gTup K 2 (gCons (gName i) (gCons (gTup K is.length (gNames is)) gNil))
theorem wipe_set {σ : L2.St} {i : Nat} {x : Option V} : ∀ {vs : List Nat}, i ∈ vs → wipe (σ.set i x) vs = wipe σ vs
  | v :: vs, h => by
    unfold wipe
    by_cases hv : i ∈ vs
    · rw [wipe_set hv]
    · have e : i = v := by
        rcases List.mem_cons.mp h with h | h
        · exact h
        · exact absurd h hv
      subst e
      have comm : ∀ {vs : List Nat}, i ∉ vs → wipe (σ.set i x) vs = (wipe σ vs).set i x := by
        intro vs
        induction vs with
        | nil => intro _; rfl
        | cons u us ih =>
          intro hn
          have h1 : i ≠ u := fun e => hn (by rw [e]; exact List.mem_cons_self)
          have h2 : i ∉ us := fun e => hn (List.mem_cons_of_mem _ e)
          show (wipe (σ.set i x) us).set u none = ((wipe σ us).set u none).set i x
          rw [ih h2, List.set_comm _ _ h1]
      rw [comm hv, List.set_set]
theorem gNames_of {K : PySem.W.Frag} {M : Mk} {H : Hp} : ∀ {is : List Nat} {ds : List D} {vs : List V} {σ : L2.St} {ρ ρ2 : En} {Q : L2.St → Hp → Prop}, setAll is ds ρ = .ok ρ2 → Rel K M σ H ρ → RepAll K M H vs ds →
    (∀ σ2, Rel K M σ2 H ρ2 → (∀ ws : List Nat, (∀ i ∈ is, i ∈ ws) → wipe σ2 ws = wipe σ ws) → Q σ2 H) → gNames is vs σ H Q
  | [], [], _, σ, ρ, ρ2, Q, e, r, q, h => by
    cases q
    cases e
    exact ⟨rfl, h σ r fun _ _ => rfl⟩
  | i :: is, d :: ds, _, σ, ρ, ρ2, Q, e, r, q, h => by
    cases q with
    | cons q1 q2 =>
      refine ⟨_, _, rfl, ?_⟩
      exact gNames_of (is := is) e (r.set q1) q2 fun σ2 r2 w => h σ2 r2 fun ws hw => by
        rw [w ws fun i hi => hw i (List.mem_cons_of_mem _ hi), wipe_set (hw i List.mem_cons_self)]
  | [], _ :: _, _, _, _, _, _, e, _, _, _ => by cases e
  | _ :: _, [], _, _, _, _, _, e, _, _, _ => by cases e
theorem setAll_len : ∀ {is : List Nat} {ds : List D} {ρ ρ2 : En}, setAll is ds ρ = .ok ρ2 → ds.length = is.length
  | [], [], _, _, _ => rfl
  | _ :: is, _ :: ds, _, _, e => by rw [List.length_cons, List.length_cons, setAll_len (is := is) e]
  | [], _ :: _, _, _, e => by cases e
  | _ :: _, [], _, _, e => by cases e
theorem gTg_of {K : PySem.W.Frag} {M : Mk} {H : Hp} {tg : Tg} {d : D} {v : V} {σ : L2.St} {ρ ρ2 : En} {Q : L2.St → Hp → Prop} (e : setTg tg d ρ = .ok ρ2) (r : Rel K M σ H ρ) (q : Rep K M H v d)
    (h : ∀ σ2, Rel K M σ2 H ρ2 → (∀ ws : List Nat, tgIn ws tg = true → wipe σ2 ws = wipe σ ws) → Q σ2 H) : gTg K tg v σ H Q := by
  cases tg with
  | name i =>
    cases e
    exact h _ (r.set q) fun ws hw => wipe_set (by simpa [tgIn] using hw)
  | tup is =>
    cases d with
    | tup ds =>
      cases q with
      | tup s m ra =>
        refine ⟨_, _, rfl, SqT.of s, by rw [ra.length]; exact setAll_len e, ?_⟩
        exact gNames_of e r ra fun σ2 r2 w => h σ2 r2 fun ws hw => w ws fun i hi => by
          have := List.all_eq_true.mp (show (is.all fun i => ws.contains i) = true from hw) i hi
          simpa using this
    | _ => cases e
  | pr i is =>
    match d, e with
    | .tup [d1, .tup ds], e =>
      cases q with
      | tup s m ra =>
        cases ra with
        | cons r1 ra =>
          cases ra with
          | cons r2 ra =>
            cases ra
            cases r2 with
            | tup s2 m2 ra2 =>
              refine ⟨_, _, rfl, SqT.of s, rfl, _, _, rfl, _, _, rfl, ⟨_, _, rfl, SqT.of s2, by rw [ra2.length]; exact setAll_len e, ?_⟩⟩
              exact gNames_of e (r.set r1) ra2 fun σ2 re2 w => ⟨rfl, h σ2 re2 fun ws hw => by
                have hw' : i ∈ ws ∧ ∀ x ∈ is, x ∈ ws := by simpa [tgIn] using hw
                rw [w ws hw'.2, wipe_set hw'.1]⟩
section
variable {X : Cx}
theorem assign_names : ∀ {N : List Str} {sc : Scope} {is : List Nat} {es : List Expr}, chkNms N sc is es = true → (assignEach es X.env).length = is.length ∧ (assignEach es X.env).findIdx? (·.1) = none
  | _, _, [], [], _ => ⟨rfl, rfl⟩
  | N, sc, i :: is, e :: es, h => by
    have h' : chkNm N sc i e = true ∧ chkNms N sc is es = true := by simpa [chkNms] using h
    obtain ⟨h1, h2⟩ := h'
    cases e with
    | Name x p =>
      obtain ⟨a, b⟩ := assign_names h2
      refine ⟨?_, ?_⟩
      · show (assignEach es X.env).length + 1 = is.length + 1
        rw [a]
      · show List.findIdx? (·.1) ((false, assign (.Name x p) X.env) :: assignEach es X.env) = none
        rw [List.findIdx?_cons, b]; rfl
    | _ => cases h1
  | _, _, [], _ :: _, h => by cases h
  | _, _, _ :: _, [], h => by cases h
theorem pg_nm {N : List Str} {sc : Scope} {i : Nat} {e : Expr} (hN : X.N = N) (nd : X.N.Nodup) (hf : ∀ x, locB sc x = true → Loc X.env.scope x ∧ (X.fn x = true ∨ X.env.scope.names.lookup x = some .local)) (h : chkNm N sc i e = true) : PG X e (gName i) := by
  cases e with
  | Name x p =>
    have h' : N[i]? = some x ∧ locB sc x = true := by simpa [chkNm] using h
    obtain ⟨l, f⟩ := hf x h'.2
    exact pg_name nd (by rw [hN]; exact h'.1) l f
  | _ => cases h
theorem pgs_nms {N : List Str} {sc : Scope} (hN : X.N = N) (nd : X.N.Nodup) (hf : ∀ x, locB sc x = true → Loc X.env.scope x ∧ (X.fn x = true ∨ X.env.scope.names.lookup x = some .local)) : ∀ {is : List Nat} {es : List Expr}, chkNms N sc is es = true → PGs X es (gNames is)
  | [], [], _ => pgs_nil
  | i :: is, e :: es, h => by
    have h' : chkNm N sc i e = true ∧ chkNms N sc is es = true := by simpa [chkNms] using h
    refine pgs_cons (pg_nm hN nd hf h'.1) (pgs_nms hN nd hf h'.2) ?_
    have h1 := h'.1
    cases e with
    | Name x p => rfl
    | _ => cases h1
  | [], _ :: _, h => by cases h
  | _ :: _, [], h => by cases h
theorem pg_tg {N : List Str} {sc : Scope} {tg : Tg} {e : Expr} (hc : X.calm = true) (hN : X.N = N) (nd : X.N.Nodup) (hf : ∀ x, locB sc x = true → Loc X.env.scope x ∧ (X.fn x = true ∨ X.env.scope.names.lookup x = some .local)) (h : chkTg N sc tg e = true) : PG X e (gTg X.K tg) := by
  cases tg with
  | name i => exact pg_nm hN nd hf h
  | tup is =>
    cases e with
    | Tuple es k p =>
      have h' : chkNms N sc is es = true := h
      obtain ⟨a, b⟩ := assign_names (X := X) h'
      exact pg_tup hc (pgs_nms hN nd hf h') a b
    | _ => cases h
  | pr i is =>
    match e, h with
    | .Tuple [e1, .Tuple es k2 p2] k p, h =>
      have h' : chkNm N sc i e1 = true ∧ chkNms N sc is es = true := by simpa [chkTg] using h
      obtain ⟨a, b⟩ := assign_names (X := X) h'.2
      have h1 := h'.1
      match e1, h1 with
      | .Name x p1, h1 => exact pg_tup hc (pgs_cons (pg_nm hN nd hf h1) (pgs_cons (pg_tup hc (pgs_nms hN nd hf h'.2) a b) pgs_nil rfl) rfl) rfl rfl
end
end PL

/-! ## enumerate(t), t a tuple -/
namespace PL
open PySem PySem.Spec PyProof.Rows L2
theorem meets_enumerate_newB1 {v : Value} {o : Obj} {H : Heap → Prop} (B : Begins v o H) :
    Meets (Builtin.«enumerate.__new__» ⟨[.type "enumerate", v], []⟩) (fun _ R s => H s.heap ∧
      R (.ok (.ret (.ref (s.heap.push o).objs.size))) { s with heap := (s.heap.push o).push { cls := .type "enumerate", data := .fields #[.none, .bool false, .ref s.heap.objs.size, rawInt 0, .none, .none] } }) :=
  .of_wp fun prog w A R s h => by
    obtain ⟨hp, g, d, tk, os⟩ := s; obtain ⟨h1, h⟩ := h
    have hsub := sub_enumerate
    have q1 : ∀ {A' : Around} {E : Value → Shared → Prop} {Q : Value → Shared → Prop}, Q (.ref hp.objs.size) ⟨hp.push o, g, d, tk, os⟩ → wpAny (model prog w) A' (pyIter v) Q E ⟨hp, g, d, tk, os⟩ :=
      fun q => B.iter prog w _ _ ⟨hp, g, d, tk, os⟩ _ h1 q
    wp_walk using q1
    refine wpAny_stack_any fun st => wpAny_pure ?_
    split
    · rename_i c _ _ _ _ _
      cases (c == Value.type "enumerate")
      · wp_walk using q1
        exact ⟨_, rfl, h⟩
      · wp_walk using q1
        exact ⟨_, rfl, h⟩
    · wp_walk using q1
      exact ⟨_, rfl, h⟩
section
variable {prog : Program} {w : World} {A : Around} {E : Value → Shared → Prop} {s : Shared}
theorem call_enumerate_tuple {l : Addr} {items : Array Value} {Q : Value → Shared → Prop} (hL : s.heap.IsTuple l items)
    (h : ∀ h', IsEnum h' (s.heap.objs.size + 1) s.heap.objs.size 0 .none → h'.IsTupleIter s.heap.objs.size l 0 → h'.objs.size = s.heap.objs.size + 2 →
      (∀ b o, s.heap.get? b = some o → h'.get? b = some o) → Q (.ref (s.heap.objs.size + 1)) { s with heap := h' }) :
    wpAny (model prog w) A (call (.type "enumerate") [.ref l]) Q E s := by
  refine callType_new F.called_enumerate (by decide) (F.typeCall_enumerate_1 _) (F.newCall_enumerate_1 _) (fun obj => F.args_object_init_2 obj _) F.entry_enumerate_new
    (meets_enumerate_newB1 (begins_tuple l items)) ⟨hL, ?_⟩
  have hz : (s.heap.push { cls := .type "tuple_iterator", data := .fields #[.ref l, .int 0 0] }).objs.size = s.heap.objs.size + 1 := Heap.size_push ..
  show _ ∧ _
  rw [hz]
  have he : IsEnum ((s.heap.push { cls := .type "tuple_iterator", data := .fields #[.ref l, .int 0 0] }).push
      { cls := .type "enumerate", data := .fields #[.none, .bool false, .ref s.heap.objs.size, rawInt 0, .none, .none] }) (s.heap.objs.size + 1) s.heap.objs.size 0 .none := by
    have := Heap.get?_push_size (s.heap.push { cls := .type "tuple_iterator", data := .fields #[.ref l, .int 0 0] })
      (o := { cls := .type "enumerate", data := .fields #[.none, .bool false, .ref s.heap.objs.size, rawInt 0, .none, .none] }) rfl
    rw [hz] at this; exact this
  refine ⟨⟨_, he, rfl⟩, h _ he ⟨_, Heap.get?_push_of_some _ (Heap.get?_push_size _ rfl), rfl, rfl⟩ (by rw [Heap.size_push, hz]) fun b o x => Heap.get?_push_of_some _ (Heap.get?_push_of_some _ x)⟩
end
theorem draws_end {prog : Program} {w : World} {A : Around} (hh : A.handled = none) (it t : Addr) (items : Array Value) (i : Nat) (hi : items.size ≤ i) :
    Draws prog w A it [it, t] i (fun _ _ => True) (fun j h => j = i ∧ h.IsTupleIter it t i ∧ h.IsTuple t items) where
  live := fun _ _ st => let ⟨o, ho, _⟩ := st.2.1; ⟨o, ho⟩
  frame := fun _ _ _ st hk => ⟨st.1, st.2.1.at fun o e => hk it (by simp) o e, st.2.2.at fun o e => hk t (by simp) o e⟩
  item := fun j s Q E hj st hQ => absurd st.1 (Nat.ne_of_lt hj)
  done := fun s Q E st hE => wpAny_nextOf_tuple_end hh st.2.1 st.2.2 (by simp; omega) hE
def IteT (K : PySem.W.Frag) (a : Addr) : It :=
  ⟨fun i H => ∃ (xs : List V) (x : V), SqT K H a xs ∧ xs[i]? = some x, fun i H v H' => ∃ T x, v = .ref T ∧ H T = none ∧ H' = upd H T (.tup [.int (i : Nat), x]) ∧ ∀ xs, SqT K H a xs → xs[i]? = some x, fun i H => ∃ xs : List V, SqT K H a xs ∧ xs.length ≤ i⟩
theorem turn_enumT {P : Program} {w : World} {K : PySem.W.Frag} {elts : List Expr} {kk : Nat} {tpos : Pos} (a e it : Addr) (hai : a ≠ it) (hae : e ≠ a) :
    Turn P w K (.Tuple elts kk tpos) (IteT K a) [e, it] e (fun i h => (∃ old, IsEnum h e it ((i : Nat) : Int) old) ∧ h.IsTupleIter it a i ∧ e ≠ it) where
  mem := by simp
  obj := fun i h st b hb => by
    obtain ⟨⟨old, he⟩, ⟨o, ho, hc, hd⟩, _⟩ := st
    have e' : b = e ∨ b = it := by simpa using hb
    rcases e' with z | z
    · rw [z]; exact ⟨_, he, fun v q => nomatch q⟩
    · rw [z]; exact ⟨o, ho, fun v q => by rw [hd] at q; cases q⟩
  keep := fun i h h' st k => let ⟨⟨old, he⟩, hi, hne⟩ := st; ⟨⟨old, k e (by simp) _ he⟩, hi.at fun o q => k it (by simp) o q, hne⟩
  item := by
    intro X hP hw hK hc i pins s σ H E I hf st hg
    subst hP hw hK
    obtain ⟨⟨old, he⟩, hit, hne⟩ := st
    obtain ⟨xs, x, hq, hx⟩ := hg
    obtain ⟨its, rv, p, hz⟩ := I.tuple hq
    obtain ⟨u, hu, ru⟩ := rv.get hx
    have hel : e < s.heap.objs.size := Heap.lt_size he
    have hil : it < s.heap.objs.size := by obtain ⟨_, q, _⟩ := hit; exact Heap.lt_size q
    have hlt : i < its.toArray.size := by
      rw [List.size_toArray]
      exact (List.getElem?_eq_some_iff.mp hu).1
    refine wpAny_pyNext_enum_itemD (Draws.tuple (A := X.A.in1) (I.ok.hd hc) it a hai its.toArray) he ⟨hit, show s.heap.IsTuple a its.toArray from p⟩ hlt hne (by simp [hne, hae]) fun y h' tk hP ho hst hT hsz hk => ?_
    have ey : y = u := by
      have : its[i]? = some y := by simpa using hP
      rw [hu] at this
      exact (Option.some.inj this).symm
    subst ey
    refine ⟨_, rfl, wpAny_letOwnedTupleGo_enum (s := { s with heap := h', toks := tk + 1 }) ho fun h'' he' sb => ?_⟩
    have hT2 : h''.get? s.heap.objs.size = some { cls := .type "tuple", data := .seq #[.int i tk, y] } := (sb.2 _ (Nat.ne_of_gt hel)).trans hT
    have new : ObjOk X.prog X.w (upd H s.heap.objs.size (.tup [.int (i : Nat), x])) h'' s.heap.objs.size (.tup [.int (i : Nat), x]) :=
      ⟨by show 2 ≤ sizeLine; decide, [.int i tk, y], .cons ⟨_, rfl⟩ (.cons ru .nil), ⟨_, hT2, rfl, _, rfl⟩⟩
    have I1 : Inv X pins σ (upd H s.heap.objs.size (.tup [.int (i : Nat), x])) { s with heap := h'', toks := tk + 1 } :=
      I.turnedNew (ch := [e, it]) (fun b ob hb q => (sb.2 b (fun z => hb (by simp [z]))).trans (hk b ob (fun z => hb (by simp [z])) (fun z => hb (by simp [z])) q)) hf (Nat.le_refl _) new
    refine ⟨.ref s.heap.objs.size, _, I1, rfl, ⟨_, x, rfl, I.hok.fresh (Nat.le_refl _), rfl, fun ys hy => by rw [I.tuple_inj hy hq]; exact hx⟩, ⟨⟨y, ?_⟩, hst.1.at fun o q => (sb.2 it (Ne.symm hne)).trans q, hne⟩, fun b hb => ?_⟩
    · have e1 : ((i + 1 : Nat) : Int) = (i : Int) + 1 := by omega
      rw [e1]; exact he'
    · have hb' : b < s.heap.objs.size := by
        have e' : b = e ∨ b = it := by simpa using hb
        rcases e' with z | z
        · rw [z]; exact hel
        · rw [z]; exact hil
      rw [upd_ne (Nat.ne_of_lt hb')]
      exact (hf b hb).1
  done := by
    intro X hP hw hK hc i pins s σ H E I hf st hg
    subst hP hw hK
    obtain ⟨⟨old, he⟩, hit, hne⟩ := st
    obtain ⟨xs, hq, hx⟩ := hg
    obtain ⟨its, rv, p, hz⟩ := I.tuple hq
    obtain ⟨f0, f1, f2, f3, f4, f5⟩ := hf it (by simp)
    have hl := rv.length
    exact wpAny_pyNext_enum_endD (draws_end (A := X.A.in1) (I.ok.hd hc) it a its.toArray i (by rw [List.size_toArray]; omega)) he ⟨rfl, hit, show s.heap.IsTuple a its.toArray from p⟩ fun h' eb => ⟨rfl, I.turned (t' := s.toks) (fun b o hb q => eb b o hb q) f0 f1 f3 f4 f5⟩
  self := fun A i s Q E st h => let ⟨⟨_, he⟩, _⟩ := st; wpAny_pyIter_enum he h
def iEnumA (K : PySem.W.Frag) (ta : TA) : TI := fun σ H R => ta σ H fun vs H1 => ∃ a xs, vs = [.ref a] ∧ ((SqL K H1 a xs ∧ R (Ite K a) H1) ∨ (SqT K H1 a xs ∧ R (IteT K a) H1))
theorem pi_enumA {X : Cx} {e : Expr} {ta : TA} {p pos tpos : Pos} {elts : List Expr} {kk : Nat} (hg : Gl X "enumerate") (hm : X.mg "enumerate" = none) (ha : PA X [e] ta) (hs : starEach [e] X.env = [(false, eval e X.env)]) :
    PI X (.Tuple elts kk tpos) (.Call (.Name "enumerate" p) [e] [] pos) (iEnumA X.K ta) := by
  refine ⟨fun pins s σ H R I h => ?_⟩
  refine Call_ (ld_blt I hg hm boot_enumerate (PyProof.Rows.callWith_type1 (thn (ha.run pos pins s σ H _ I h) fun us s1 ⟨vs, H1, I1, r1, q1⟩ => ?_) hs rfl))
  obtain ⟨a, xs, ex, q⟩ := q1
  subst ex
  cases r1 with
  | cons r rr =>
    cases rr
    cases r
    rcases q with ⟨hq, q⟩ | ⟨hq, q⟩
    · obtain ⟨its, rv, p', hz⟩ := I1.list hq
      refine call_enumerate_list p'.isList fun h' he hit hsz hk => wpAny_pyIter_enum he ?_
      have I2 : Inv X pins σ H1 { s1 with heap := h' } := I1.kept (t' := s1.toks) hk
      refine ⟨s1.heap.objs.size + 1, [s1.heap.objs.size + 1, s1.heap.objs.size], _, _, H1, rfl, I2, turn_enum a (s1.heap.objs.size + 1) s1.heap.objs.size, ⟨⟨.none, he⟩, hit, Nat.succ_ne_self _⟩, fun b hb => ?_, q⟩
      have e' : b = s1.heap.objs.size + 1 ∨ b = s1.heap.objs.size := by simpa using hb
      have hle : s1.heap.objs.size ≤ b := by
        rcases e' with z | z
        · rw [z]; exact Nat.le_add_right _ _
        · rw [z]; exact Nat.le_refl _
      exact I1.fpOk hle (I1.hok.fresh hle)
    · obtain ⟨its, rv, p', hz⟩ := I1.tuple hq
      have p2 : s1.heap.IsTuple a its.toArray := p'
      have hla : a < s1.heap.objs.size := by obtain ⟨o, ho, _⟩ := p2; exact Heap.lt_size ho
      refine call_enumerate_tuple p2 fun h' he hit hsz hk => wpAny_pyIter_enum he ?_
      have I2 : Inv X pins σ H1 { s1 with heap := h' } := I1.kept (t' := s1.toks) hk
      refine ⟨s1.heap.objs.size + 1, [s1.heap.objs.size + 1, s1.heap.objs.size], _, _, H1, rfl, I2, turn_enumT a (s1.heap.objs.size + 1) s1.heap.objs.size (Nat.ne_of_lt hla) (Nat.ne_of_gt (Nat.lt_succ_of_lt hla)), ⟨⟨.none, he⟩, hit, Nat.succ_ne_self _⟩, fun b hb => ?_, q⟩
      have e' : b = s1.heap.objs.size + 1 ∨ b = s1.heap.objs.size := by simpa using hb
      have hle : s1.heap.objs.size ≤ b := by
        rcases e' with z | z
        · rw [z]; exact Nat.le_add_right _ _
        · rw [z]; exact Nat.le_refl _
      exact I1.fpOk hle (I1.hok.fresh hle)
end PL

namespace PL
open PySem PySem.Spec PyProof.Rows L2

/-! ## what is walked -/
structure Walks (K : PySem.W.Frag) (M : Mk) (J : L2.It) (H0 : Hp) (ds : List D) : Prop where
  go : ∀ (M' : Mk) (i : Nat) (d : D) (H : Hp), Ext M M' H0 → DomM M' H → Keep K M' H0 H → ds[i]? = some d → J.go i H ∧ ∀ x H', J.yld i H x H' → Same K H H' ∧ Rep K M' H' x d
  stop : ∀ (M' : Mk) (i : Nat) (H : Hp), Ext M M' H0 → DomM M' H → Keep K M' H0 H → ds[i]? = none → J.stop i H
def OutI (X : Cx) (W : WX) (M : Mk) (σ : L2.St) (H : Hp) (R : L2.It → Hp → Prop) : Res (List D) → Prop
  | .ok ds => ∀ J H', Same X.K H H' → Walks X.K M J H' ds → R J H'
  | .exc c => ∀ H', Same X.K H H' → W (excV X.mg c) none σ H'
  | .stuck => False
def tIS (X : Cx) (W : WX) (m : En → Res (List D)) : TI := fun σ H R => ∃ M ρ, DomM M H ∧ Rel X.K M σ H ρ ∧ OutI X W M σ H R (m ρ)
section
variable {X : Cx} {W : WX} {tg : Expr}
theorem pi_weak {e : Expr} {t t' : TI} (h : PI X tg e t) (w : ∀ σ H Q, t' σ H Q → t σ H Q) : PI X tg e t' := ⟨fun pins s σ H Q I q => h.run pins s σ H Q I (w σ H Q q)⟩
theorem pi_or {e : Expr} {t t' : TI} (h : PI X tg e t) (h' : PI X tg e t') : PI X tg e (fun σ H R => t σ H R ∨ t' σ H R) := ⟨fun pins s σ H Q I q => q.elim (h.run pins s σ H Q I) (h'.run pins s σ H Q I)⟩
theorem walks_list {K : PySem.W.Frag} {M : Mk} {H : Hp} {a : Addr} {xs : List V} {ds : List D} (e : H a = some (.lst xs)) (n : ¬ M a) (r : RepAll K M H xs ds) : Walks K M (Itl K a) H ds := by
  refine ⟨fun M' i d H1 x dm k hd => ?_, fun M' i H1 x dm k hd => ?_⟩
  · have e1 := k.get a _ e (x.not e n)
    obtain ⟨v, hv, rv⟩ := (RepAll.keep k ds _ (RepAll.ext x ds _ r)).get hd
    refine ⟨⟨xs, v, SqL.of e1, hv⟩, fun x H' y => ?_⟩
    obtain ⟨rfl, y⟩ := y
    have := y xs (SqL.of e1)
    rw [hv] at this; cases this
    exact ⟨Same.refl _, rv⟩
  · refine ⟨xs, SqL.of (k.get a _ e (x.not e n)), ?_⟩
    rw [r.length]
    exact List.getElem?_eq_none_iff.mp hd
theorem walks_tup {K : PySem.W.Frag} {M : Mk} {H : Hp} {a : Addr} {xs : List V} {ds : List D} (e : H a = some (.tup xs)) (n : ¬ M a) (r : RepAll K M H xs ds) : Walks K M (Itt K a) H ds := by
  refine ⟨fun M' i d H1 x dm k hd => ?_, fun M' i H1 x dm k hd => ?_⟩
  · have e1 := k.get a _ e (x.not e n)
    obtain ⟨v, hv, rv⟩ := (RepAll.keep k ds _ (RepAll.ext x ds _ r)).get hd
    refine ⟨⟨xs, v, SqT.of e1, hv⟩, fun x H' y => ?_⟩
    obtain ⟨rfl, y⟩ := y
    have := y xs (SqT.of e1)
    rw [hv] at this; cases this
    exact ⟨Same.refl _, rv⟩
  · refine ⟨xs, SqT.of (k.get a _ e (x.not e n)), ?_⟩
    rw [r.length]
    exact List.getElem?_eq_none_iff.mp hd
theorem walks_str {K : PySem.W.Frag} {M : Mk} {H : Hp} (s : Str) : Walks K M (Its s) H (strD s) := by
  refine ⟨fun M' i d H1 x dm k hd => ?_, fun M' i H1 x dm k hd => ?_⟩
  · unfold strD at hd
    rw [List.getElem?_map] at hd
    cases e : s.cps.toList[i]? with
    | none => rw [e] at hd; cases hd
    | some c =>
      rw [e] at hd
      cases hd
      have hi : i < s.cps.size := by
        have := (List.getElem?_eq_some_iff.mp e).1
        simpa using this
      refine ⟨hi, fun x H' y => ?_⟩
      obtain ⟨rfl, c', e', rfl⟩ := y
      have e2 : s.cps.toList[i]? = some c' := by simpa using e'
      rw [e] at e2; cases e2
      exact ⟨Same.refl _, .str _⟩
  · unfold strD at hd
    have := List.getElem?_eq_none_iff.mp hd
    show s.cps.size ≤ i
    simpa using this
theorem rng_get {α : Type} {f : Nat → α} {n i : Nat} {d : α} (h : ((List.range n).map f)[i]? = some d) : i < n ∧ d = f i := by
  have hi : i < n := by
    have := (List.getElem?_eq_some_iff.mp h).1
    simpa using this
  refine ⟨hi, ?_⟩
  rw [List.getElem?_map, List.getElem?_eq_getElem (by simpa using hi)] at h
  simp at h
  exact h.symm
theorem walks_range {K : PySem.W.Frag} {M : Mk} {H : Hp} (lo : Int) (n : Nat) : Walks K M (Itr lo n) H ((List.range n).map fun i => D.int (lo + (i : Nat))) := by
  refine ⟨fun M' i d H1 x dm k hd => ?_, fun M' i H1 x dm k hd => ?_⟩
  · obtain ⟨hi, rfl⟩ := rng_get hd
    refine ⟨hi, fun x H' y => ?_⟩
    obtain ⟨rfl, rfl⟩ := y
    exact ⟨Same.refl _, .int _⟩
  · have := List.getElem?_eq_none_iff.mp hd
    show n ≤ i
    simpa using this
theorem walks_down {K : PySem.W.Frag} {M : Mk} {H : Hp} (lo : Int) (n : Nat) : Walks K M (Itc lo (-1) n) H ((List.range n).map fun i => D.int (lo - (i : Nat))) := by
  refine ⟨fun M' i d H1 x dm k hd => ?_, fun M' i H1 x dm k hd => ?_⟩
  · obtain ⟨hi, rfl⟩ := rng_get hd
    refine ⟨hi, fun x H' y => ?_⟩
    obtain ⟨rfl, rfl⟩ := y
    refine ⟨Same.refl _, ?_⟩
    rw [show lo + (i : Nat) * (-1 : Int) = lo - (i : Nat) by omega]
    exact .int _
  · have := List.getElem?_eq_none_iff.mp hd
    show n ≤ i
    simpa using this
theorem zipD_get : ∀ {as bs : List D} {i : Nat} {d : D}, (zipD as bs)[i]? = some d → ∃ a b, as[i]? = some a ∧ bs[i]? = some b ∧ d = .tup [a, b]
  | [], _, _, _, h => by simp [zipD] at h
  | _ :: _, [], _, _, h => by simp [zipD] at h
  | a :: as, b :: bs, 0, d, h => by
    simp [zipD] at h
    exact ⟨a, b, rfl, rfl, h.symm⟩
  | a :: as, b :: bs, i + 1, d, h => by
    obtain ⟨x, y, h1, h2, h3⟩ := zipD_get (as := as) (bs := bs) (i := i) (d := d) (by simpa [zipD] using h)
    exact ⟨x, y, by simpa using h1, by simpa using h2, h3⟩
theorem zipD_none : ∀ {as bs : List D} {i : Nat}, (zipD as bs)[i]? = none → as.length ≤ i ∨ bs.length ≤ i
  | [], _, _, h => .inl (Nat.zero_le _)
  | _ :: _, [], _, h => .inr (Nat.zero_le _)
  | a :: as, b :: bs, 0, h => by simp [zipD] at h
  | a :: as, b :: bs, i + 1, h => by
    have := zipD_none (as := as) (bs := bs) (i := i) (by simpa [zipD] using h)
    simpa using this
theorem enumD_get : ∀ {as : List D} {k i : Nat} {d : D}, (enumD k as)[i]? = some d → ∃ a, as[i]? = some a ∧ d = .tup [.int ((k + i : Nat) : Int), a]
  | [], _, _, _, h => by simp [enumD] at h
  | a :: as, k, 0, d, h => by
    simp [enumD] at h
    exact ⟨a, rfl, h.symm⟩
  | a :: as, k, i + 1, d, h => by
    obtain ⟨x, h1, h3⟩ := enumD_get (as := as) (k := k + 1) (i := i) (d := d) (by simpa [enumD] using h)
    refine ⟨x, by simpa using h1, ?_⟩
    rw [h3, show k + 1 + i = k + (i + 1) by omega]
theorem enumD_len : ∀ {as : List D} {k : Nat}, (enumD k as).length = as.length
  | [], _ => rfl
  | a :: as, k => by show (enumD (k + 1) as).length + 1 = as.length + 1; rw [enumD_len]
theorem pair_new {K : PySem.W.Frag} {M : Mk} {H : Hp} {T : Addr} {x y : V} {d e : D} (dm : DomM M H) (n : H T = none) (h1 : Rep K M H x d) (h2 : Rep K M H y e) : Rep K M (upd H T (.tup [x, y])) (.ref T) (.tup [d, e]) :=
  .tup upd_same (dm.fresh n) (.cons (h1.same (same_new n)) (.cons (h2.same (same_new n)) .nil))
theorem walks_zip {K : PySem.W.Frag} {M : Mk} {H : Hp} {a b : Addr} {xs ys : List V} {ds es : List D} (e : H a = some (.lst xs)) (n : ¬ M a) (r : RepAll K M H xs ds) (e' : H b = some (.lst ys)) (n' : ¬ M b) (r' : RepAll K M H ys es) :
    Walks K M (Itz K a b) H (zipD ds es) := by
  refine ⟨fun M' i d H1 x dm k hd => ?_, fun M' i H1 x dm k hd => ?_⟩
  · have e1 := k.get a _ e (x.not e n)
    have e2 := k.get b _ e' (x.not e' n')
    obtain ⟨d1, d2, g1, g2, rfl⟩ := zipD_get hd
    obtain ⟨v, hv, rv⟩ := (RepAll.keep k ds _ (RepAll.ext x ds _ r)).get g1
    obtain ⟨u, hu, ru⟩ := (RepAll.keep k es _ (RepAll.ext x es _ r')).get g2
    refine ⟨⟨xs, ys, v, u, SqL.of e1, SqL.of e2, hv, hu⟩, fun x H' y => ?_⟩
    obtain ⟨T, x1, y1, rfl, nT, rfl, q1, q2⟩ := y
    have z1 := q1 xs (SqL.of e1)
    have z2 := q2 ys (SqL.of e2)
    rw [hv] at z1; cases z1
    rw [hu] at z2; cases z2
    exact ⟨same_new nT, pair_new dm nT rv ru⟩
  · refine ⟨xs, ys, SqL.of (k.get a _ e (x.not e n)), SqL.of (k.get b _ e' (x.not e' n')), ?_⟩
    rw [r.length, r'.length]
    exact zipD_none hd
theorem walks_zipT {K : PySem.W.Frag} {M : Mk} {H : Hp} {a b : Addr} {xs ys : List V} {ds es : List D} (e : H a = some (.tup xs)) (n : ¬ M a) (r : RepAll K M H xs ds) (e' : H b = some (.tup ys)) (n' : ¬ M b) (r' : RepAll K M H ys es) :
    Walks K M (RZ.ItzT K a b) H (zipD ds es) := by
  refine ⟨fun M' i d H1 x dm k hd => ?_, fun M' i H1 x dm k hd => ?_⟩
  · have e1 := k.get a _ e (x.not e n)
    have e2 := k.get b _ e' (x.not e' n')
    obtain ⟨d1, d2, g1, g2, rfl⟩ := zipD_get hd
    obtain ⟨v, hv, rv⟩ := (RepAll.keep k ds _ (RepAll.ext x ds _ r)).get g1
    obtain ⟨u, hu, ru⟩ := (RepAll.keep k es _ (RepAll.ext x es _ r')).get g2
    refine ⟨⟨xs, ys, v, u, SqT.of e1, SqT.of e2, hv, hu⟩, fun x H' y => ?_⟩
    obtain ⟨T, x1, y1, rfl, nT, rfl, q1, q2⟩ := y
    have z1 := q1 xs (SqT.of e1)
    have z2 := q2 ys (SqT.of e2)
    rw [hv] at z1; cases z1
    rw [hu] at z2; cases z2
    exact ⟨same_new nT, pair_new dm nT rv ru⟩
  · refine ⟨xs, ys, SqT.of (k.get a _ e (x.not e n)), SqT.of (k.get b _ e' (x.not e' n')), ?_⟩
    rw [r.length, r'.length]
    exact zipD_none hd
theorem walks_enum {K : PySem.W.Frag} {M : Mk} {H : Hp} {a : Addr} {xs : List V} {ds : List D} (e : H a = some (.lst xs)) (n : ¬ M a) (r : RepAll K M H xs ds) : Walks K M (Ite K a) H (enumD 0 ds) := by
  refine ⟨fun M' i d H1 x dm k hd => ?_, fun M' i H1 x dm k hd => ?_⟩
  · have e1 := k.get a _ e (x.not e n)
    obtain ⟨d1, g1, rfl⟩ := enumD_get hd
    obtain ⟨v, hv, rv⟩ := (RepAll.keep k ds _ (RepAll.ext x ds _ r)).get g1
    refine ⟨⟨xs, v, SqL.of e1, hv⟩, fun x H' y => ?_⟩
    obtain ⟨T, x1, rfl, nT, rfl, q1⟩ := y
    have z1 := q1 xs (SqL.of e1)
    rw [hv] at z1; cases z1
    rw [Nat.zero_add]
    exact ⟨same_new nT, pair_new dm nT (.int _) rv⟩
  · refine ⟨xs, SqL.of (k.get a _ e (x.not e n)), ?_⟩
    rw [r.length, ← enumD_len (k := 0)]
    exact List.getElem?_eq_none_iff.mp hd
theorem walks_enumT {K : PySem.W.Frag} {M : Mk} {H : Hp} {a : Addr} {xs : List V} {ds : List D} (e : H a = some (.tup xs)) (n : ¬ M a) (r : RepAll K M H xs ds) : Walks K M (IteT K a) H (enumD 0 ds) := by
  refine ⟨fun M' i d H1 x dm k hd => ?_, fun M' i H1 x dm k hd => ?_⟩
  · have e1 := k.get a _ e (x.not e n)
    obtain ⟨d1, g1, rfl⟩ := enumD_get hd
    obtain ⟨v, hv, rv⟩ := (RepAll.keep k ds _ (RepAll.ext x ds _ r)).get g1
    refine ⟨⟨xs, v, SqT.of e1, hv⟩, fun x H' y => ?_⟩
    obtain ⟨T, x1, rfl, nT, rfl, q1⟩ := y
    have z1 := q1 xs (SqT.of e1)
    rw [hv] at z1; cases z1
    rw [Nat.zero_add]
    exact ⟨same_new nT, pair_new dm nT (.int _) rv⟩
  · refine ⟨xs, SqT.of (k.get a _ e (x.not e n)), ?_⟩
    rw [r.length, ← enumD_len (k := 0)]
    exact List.getElem?_eq_none_iff.mp hd
/-- over a list, a tuple, a text -/
theorem pi_seq {e : Expr} {m : En → Res D} (h : PE X e (tS X W m)) : PI X tg e (tIS X W fun ρ => (m ρ).bind itemsD) :=
  pi_weak (pi_or (pi_list h) (pi_or (pi_tup h) (pi_str h))) fun σ H R q => by
    obtain ⟨M, ρ, dm, r, o⟩ := q
    dsimp only at o
    cases e1 : m ρ with
    | ok d =>
      rw [e1] at o
      cases d with
      | lst ds =>
        refine .inl ⟨M, ρ, dm, r, ?_⟩
        rw [e1]
        intro v H' s' r'
        cases r' with
        | lst hs n ra => exact ⟨_, rfl, ⟨_, SqL.of hs⟩, o _ H' s' (walks_list hs n ra)⟩
      | tup ds =>
        refine .inr (.inl ⟨M, ρ, dm, r, ?_⟩)
        rw [e1]
        intro v H' s' r'
        cases r' with
        | tup hs n ra => exact ⟨_, rfl, ⟨_, SqT.of hs⟩, o _ H' s' (walks_tup hs n ra)⟩
      | str s =>
        refine .inr (.inr ⟨M, ρ, dm, r, ?_⟩)
        rw [e1]
        intro v H' s' r'
        cases r' with
        | str => exact ⟨_, rfl, o _ H' s' (walks_str s)⟩
      | _ => exact o.elim
    | exc c =>
      rw [e1] at o
      refine .inl ⟨M, ρ, dm, r, ?_⟩
      rw [e1]
      exact o
    | stuck => rw [e1] at o; exact o.elim
theorem stars_of {es : List Expr} {ms : List (En → Res D)} (h : PEs X W es ms) (pos : Pos) : (backTo pos (starEach es X.env)).any (·.1) = false := by
  induction h with
  | nil => rfl
  | cons h n t ih =>
    rw [star_of n]
    show ((false, _) :: backTo pos (starEach _ X.env)).any (·.1) = false
    rw [List.any_cons, ih]; rfl
theorem okZ_iff {a : Int} (h : okZ a = true) : -(2 ^ 62) ≤ a ∧ a < 2 ^ 62 := by
  unfold okZ at h
  rw [Bool.and_eq_true] at h
  exact ⟨of_decide_eq_true h.1, of_decide_eq_true h.2⟩
theorem seqM_len : ∀ {ms : List (En → Res D)} {ρ : En} {ds : List D}, seqM ms ρ = .ok ds → ds.length = ms.length
  | [], _, _, h => by cases h; rfl
  | m :: ms, ρ, ds, h => by
    have h' : ((m ρ).bind fun d => (seqM ms ρ).bind fun ds => .ok (d :: ds)) = .ok ds := h
    obtain ⟨d, _, h2⟩ := Res.bind_eq_ok h'
    obtain ⟨es, h3, h4⟩ := Res.bind_eq_ok h2
    cases h4
    rw [List.length_cons, List.length_cons, seqM_len h3]
theorem PEs.len {es : List Expr} {ms : List (En → Res D)} (h : PEs X W es ms) : es.length = ms.length := by
  induction h with
  | nil => rfl
  | cons _ _ _ ih => rw [List.length_cons, List.length_cons, ih]
theorem rngD_ne (ds : List D) (c : Str) : rngD ds ≠ .exc c := by
  intro e3
  unfold rngD at e3
  split at e3 <;> (try split at e3) <;> cases e3
theorem w_rng {ms : List (En → Res D)} {wi : TA → TI} (hwi : ∀ ta σ H R, wi ta σ H R ↔ ta σ H (fun vs H1 => wi (fun _ H Q => Q vs H) σ H1 R)) {σ : L2.St} {H : Hp} {R : L2.It → Hp → Prop}
    (hr : ∀ (M : Mk) (H : Hp) (xs : List V) (ds es : List D), ds.length = ms.length → RepAll X.K M H xs ds → rngD ds = .ok es → (∀ J H', Same X.K H H' → Walks X.K M J H' es → R J H') → wi (fun _ H Q => Q xs H) σ H R)
    (q : tIS X W (fun ρ => (seqM ms ρ).bind rngD) σ H R) : wi (tSA X W (seqM ms)) σ H R := by
  rw [hwi]
  obtain ⟨M, ρ, dm, re, o⟩ := q
  refine ⟨M, ρ, dm, re, ?_⟩
  dsimp only at o
  cases e1 : seqM ms ρ with
  | ok ds =>
    rw [e1] at o
    intro xs H1 s1 r1
    simp only [Res.bind_ok] at o
    cases e3 : rngD ds with
    | stuck => rw [e3] at o; exact o.elim
    | exc c => exact (rngD_ne ds c e3).elim
    | ok es => rw [e3] at o; exact hr M H1 xs ds es (seqM_len e1) r1 e3 fun J H' s' w => o J H' (s1.trans s') w
  | exc c => rw [e1] at o; exact o
  | stuck => rw [e1] at o; exact o
theorem rng1 {ds es : List D} (l : ds.length = 1) (e : rngD ds = .ok es) : ∃ b, ds = [.int b] ∧ okZ b = true ∧ es = rangeD 0 b := by
  unfold rngD at e
  split at e
  · split at e
    · rename_i h; cases e; exact ⟨_, rfl, h, rfl⟩
    · cases e
  · simp at l
  · simp at l
  · cases e
theorem rng2 {ds es : List D} (l : ds.length = 2) (e : rngD ds = .ok es) : ∃ a b, ds = [.int a, .int b] ∧ okZ a = true ∧ okZ b = true ∧ es = rangeD a b := by
  unfold rngD at e
  split at e
  · simp at l
  · split at e
    · rename_i h; cases e; rw [Bool.and_eq_true] at h; exact ⟨_, _, rfl, h.1, h.2, rfl⟩
    · cases e
  · simp at l
  · cases e
theorem rng3 {ds es : List D} (l : ds.length = 3) (e : rngD ds = .ok es) : ∃ a b, ds = [.int a, .int b, .int (-1)] ∧ okZ a = true ∧ okZ b = true ∧ es = ((List.range (a - b).toNat).map fun i => D.int (a - (i : Nat))) := by
  unfold rngD at e
  split at e
  · simp at l
  · simp at l
  · split at e
    · rename_i h; cases e; rw [Bool.and_eq_true] at h; exact ⟨_, _, rfl, h.1, h.2, rfl⟩
    · cases e
  · cases e
theorem pi_rng {x : Str} {es : List Expr} {ms : List (En → Res D)} {p pos : Pos} (hx : x = "range") (hg : Gl X x) (hm : X.mg "range" = none) (h : PEs X W es ms) (h1 : 1 ≤ es.length) (h3 : es.length ≤ 3) :
    PI X tg (.Call (.Name x p) es [] pos) (tIS X W fun ρ => (seqM ms ρ).bind rngD) := by
  subst hx
  have pa := h.pa
  match es, ms, h, pa, h1, h3 with
  | [a], [_], .cons _ n1 .nil, pa, _, _ =>
    refine pi_weak (pi_range1 hg hm pa (star_of n1 [] X.env)) fun σ H R q => ?_
    refine w_rng (wi := iRng1) (fun _ _ _ _ => Iff.rfl) (fun M H xs ds es l r e k => ?_) q
    obtain ⟨b, rfl, hb, rfl⟩ := rng1 l e
    obtain ⟨z1, z2⟩ := okZ_iff hb
    cases r with
    | cons r0 rr =>
      cases r0
      cases rr
      refine ⟨b, rfl, z1, z2, k _ _ (Same.refl _) ?_⟩
      unfold rangeD
      rw [show (b - 0).toNat = b.toNat by omega]
      exact walks_range 0 b.toNat
  | [a, b], [_, _], .cons _ n1 (.cons _ n2 .nil), pa, _, _ =>
    refine pi_weak (pi_range2 hg hm pa (by rw [star_of n1, star_of n2]; rfl) (by rw [star_of n2]; rfl)) fun σ H R q => ?_
    refine w_rng (wi := iRng2) (fun _ _ _ _ => Iff.rfl) (fun M H xs ds es l r e k => ?_) q
    obtain ⟨a, b, rfl, ha, hb, rfl⟩ := rng2 l e
    obtain ⟨z1, z2⟩ := okZ_iff ha
    obtain ⟨z3, z4⟩ := okZ_iff hb
    cases r with
    | cons r0 rr =>
      cases r0
      cases rr with
      | cons r1 rr =>
        cases r1
        cases rr
        exact ⟨a, b, rfl, ⟨z1, z2, z3, z4⟩, k _ _ (Same.refl _) (walks_range a _)⟩
  | [a, b, c], [_, _, _], .cons _ n1 (.cons _ n2 (.cons _ n3 .nil)), pa, _, _ =>
    refine pi_weak (pi_range3 hg hm pa (by first | (rw [star_of n1, star_of n2, star_of n3]; done) | (rw [star_of n1, star_of n2, star_of n3]; rfl)) (by first | (rw [star_of n2, star_of n3]; done) | (rw [star_of n2, star_of n3]; rfl))) fun σ H R q => ?_
    refine w_rng (wi := iRng3) (fun _ _ _ _ => Iff.rfl) (fun M H xs ds es l r e k => ?_) q
    obtain ⟨a, b, rfl, ha, hb, rfl⟩ := rng3 l e
    obtain ⟨z1, z2⟩ := okZ_iff ha
    obtain ⟨z3, z4⟩ := okZ_iff hb
    cases r with
    | cons r0 rr =>
      cases r0
      cases rr with
      | cons r1 rr =>
        cases r1
        cases rr with
        | cons r2 rr =>
          cases r2
          cases rr
          exact ⟨a, b, -1, _, rfl, RgC.neg z1 z2 z3 z4, k _ _ (Same.refl _) (walks_down a _)⟩
theorem pi_zipD {x : Str} {e1 e2 : Expr} {m1 m2 : En → Res D} {p pos : Pos} {ts : List Expr} {kk : Nat} {tp : Pos} (hx : x = "zip") (hg : Gl X x) (hm : X.mg "zip" = none) (h1 : PE X e1 (tS X W m1)) (n1 : notStar e1 = true) (h2 : PE X e2 (tS X W m2)) (n2 : notStar e2 = true) :
    PI X (.Tuple ts kk tp) (.Call (.Name x p) [e1, e2] [] pos) (tIS X W fun ρ => (m1 ρ).bind fun x => (m2 ρ).bind fun y => zipItems x y) := by
  subst hx
  have h : PEs X W [e1, e2] [m1, m2] := .cons h1 n1 (.cons h2 n2 .nil)
  refine pi_weak (RZ.pi_zipA hg hm h.pa (star_of n1 _ _) (by rw [star_of n2]; rfl)) fun σ H R q => ?_
  obtain ⟨M, ρ, dm, re, o⟩ := q
  refine ⟨M, ρ, dm, re, ?_⟩
  dsimp only [seqM, consM] at o ⊢
  cases e1 : m1 ρ with
  | ok d1 =>
    cases e2 : m2 ρ with
    | ok d2 =>
      rw [e1, e2] at o
      simp only [Res.bind_ok] at o ⊢
      intro xs H1 s1 r
      cases r with
      | cons r0 rr =>
        cases rr with
        | cons r1 rr =>
          cases rr
          cases d1 with
          | lst ds =>
            cases d2 with
            | lst es =>
              cases r0 with
              | lst s n ra =>
                cases r1 with
                | lst s' n' ra' => exact ⟨_, _, _, _, rfl, .inl ⟨SqL.of s, SqL.of s', o _ _ s1 (walks_zip s n ra s' n' ra')⟩⟩
            | _ => exact o.elim
          | tup ds =>
            cases d2 with
            | tup es =>
              cases r0 with
              | tup s n ra =>
                cases r1 with
                | tup s' n' ra' => exact ⟨_, _, _, _, rfl, .inr ⟨SqT.of s, SqT.of s', o _ _ s1 (walks_zipT s n ra s' n' ra')⟩⟩
            | _ => exact o.elim
          | _ => exact o.elim
    | exc c =>
      rw [e1, e2] at o
      exact o
    | stuck => rw [e1, e2] at o; exact o.elim
  | exc c => rw [e1] at o; exact o
  | stuck => rw [e1] at o; exact o.elim
theorem pi_enumD {x : Str} {e1 : Expr} {m1 : En → Res D} {p pos : Pos} {ts : List Expr} {kk : Nat} {tp : Pos} (hx : x = "enumerate") (hg : Gl X x) (hm : X.mg "enumerate" = none) (h1 : PE X e1 (tS X W m1)) (n1 : notStar e1 = true) :
    PI X (.Tuple ts kk tp) (.Call (.Name x p) [e1] [] pos) (tIS X W fun ρ => (m1 ρ).bind enumItems) := by
  subst hx
  have h : PEs X W [e1] [m1] := .cons h1 n1 .nil
  refine pi_weak (pi_enumA hg hm h.pa (by rw [star_of n1]; rfl)) fun σ H R q => ?_
  obtain ⟨M, ρ, dm, re, o⟩ := q
  refine ⟨M, ρ, dm, re, ?_⟩
  dsimp only [seqM, consM] at o ⊢
  cases e1 : m1 ρ with
  | ok d1 =>
    rw [e1] at o
    simp only [Res.bind_ok] at o ⊢
    intro xs H1 s1 r
    cases r with
    | cons r0 rr =>
      cases rr
      cases d1 with
      | lst ds =>
        cases r0 with
        | lst s n ra => exact ⟨_, _, rfl, .inl ⟨SqL.of s, o _ _ s1 (walks_enum s n ra)⟩⟩
      | tup ds =>
        cases r0 with
        | tup s n ra => exact ⟨_, _, rfl, .inr ⟨SqT.of s, o _ _ s1 (walks_enumT s n ra)⟩⟩
      | _ => exact o.elim
  | exc c => rw [e1] at o; exact o
  | stuck => rw [e1] at o; exact o.elim
end
end PL

namespace PL
open PySem PySem.Spec PyProof.Rows L2

abbrev W0 : WX := fun _ _ _ _ => False
theorem sizeD_lt : sizeD < sizeLine := by rw [sizeLine_eq]; decide
theorem tF_S {X : Cx} {W : WX} {m : En → Res D} {e : Expr} (h : PE X e (tF X W m)) (hl : ∀ ρ d, m ρ = .ok d → ∃ ds, d = .lst ds) : PE X e (tS X W m) := pe_weak h fun σ H Q q => by
  obtain ⟨M, ρ, dm, r, o⟩ := q
  exact ⟨M, ρ, dm, r, OutE.of_F dm o fun d e => hl ρ d e⟩
/-! ## a comprehension -/
def turnM (tg : Tg) (mc : En → Res Bool) (me : En → Res D) (ρ' : En) (d : D) : Res (Option D) :=
  noExc ((setTg tg d ρ').bind fun ρ2 => (mc ρ2).bind fun t => if t then (me ρ2).bind fun x => .ok (some x) else .ok none)
theorem rel_wipe {K : PySem.W.Frag} {M : Mk} {σ : L2.St} {H : Hp} {ρ : En} (r : Rel K M σ H ρ) : ∀ vs : List Nat, Rel K M (wipe σ vs) H (wipeD ρ vs)
  | [] => r
  | v :: vs => by
    have h := rel_wipe r vs
    refine ⟨by show ((wipe σ vs).set v none).length = ((wipeD ρ vs).set v none).length; rw [List.length_set, List.length_set]; exact h.len, fun i d e => ?_, h.tab⟩
    have e' : ((wipeD ρ vs).set v none)[i]? = some (some d) := e
    by_cases hv : v = i
    · subst hv
      by_cases hl : v < (wipeD ρ vs).length
      · rw [List.getElem?_set_self hl] at e'; cases e'
      · rw [List.getElem?_eq_none (by rw [List.length_set]; omega)] at e'; cases e'
    · rw [List.getElem?_set_ne hv] at e'
      obtain ⟨u, h1, h2⟩ := h.get i d e'
      refine ⟨u, ?_, h2⟩
      show ((wipe σ vs).set v none)[i]? = _
      rw [List.getElem?_set_ne hv]; exact h1
theorem wipe_look : ∀ (ws : List Nat) (τ : L2.St) (j : Nat), (wipe τ ws)[j]? = if j ∈ ws ∧ j < τ.length then some none else τ[j]? := by
  intro ws
  induction ws with
  | nil => intro τ j; simp [wipe]
  | cons v ws ih =>
    intro τ j
    show ((wipe τ ws).set v none)[j]? = _
    rw [List.getElem?_set, wipe_length, ih]
    by_cases h1 : v = j
    · subst h1
      by_cases h2 : v < τ.length
      · simp [h2]
      · simp [h2, List.getElem?_eq_none (Nat.le_of_not_lt h2)]
    · have h1' : j ≠ v := fun e => h1 e.symm
      simp [h1, h1']
theorem wipe_wipe (vs : List Nat) (σ : L2.St) : wipe (wipe σ vs) vs = wipe σ vs := by
  apply List.ext_getElem?
  intro j
  rw [wipe_look, wipe_look, wipe_length]
  by_cases h : j ∈ vs ∧ j < σ.length
  · rw [if_pos h, if_pos h]
  · rw [if_neg h, if_neg h]
theorem noExc_ok {α : Type} {r : Res α} {a : α} (h : noExc r = .ok a) : r = .ok a := by
  cases r with
  | ok b => exact h
  | exc c => cases h
  | stuck => cases h
section
variable {X : Cx} {W : WX}
/-- a comprehension's reading -/
theorem comp_read {own : List (Str × Nat)} {tg : Tg} {mi : En → Res (List D)} {mc : En → Res Bool} {me : En → Res D} (hin : tgIn (own.map (·.2)) tg = true) :
    (∀ (σ : L2.St) (H : Hp) (Q : VK), tF X W (fun ρ => (mi ρ).bind fun ds => if ds.length ≤ sizeD then (compM (turnM tg mc me (wipeD ρ (own.map (·.2)))) ds).bind fun out => .ok (.lst out) else .stuck) σ H Q →
      tLc (tIS X W mi) (gTg X.K tg) (tST X W0 mc) (tS X W0 me) (own.map (·.2)) σ H Q) := by
  intro σ H Q q
  obtain ⟨M, ρ, dm, re, o⟩ := q
  refine ⟨M, ρ, dm, re, ?_⟩
  dsimp only at o
  cases e1 : mi ρ with
  | exc c => rw [e1] at o; exact o
  | stuck => rw [e1] at o; exact o
  | ok ds =>
    rw [e1] at o
    simp only [Res.bind_ok] at o
    intro J H1 s1 wk L0 nD
    by_cases hl : ds.length ≤ sizeD
    · rw [if_pos hl] at o
      cases e2 : compM (turnM tg mc me (wipeD ρ (own.map (·.2)))) ds with
      | exc c => 
        -- no exception comes out of a turn
        exfalso
        have none : ∀ l c, compM (turnM tg mc me (wipeD ρ (own.map (·.2)))) l ≠ .exc c := by
          intro l
          induction l with
          | nil => intro c h; cases h
          | cons d r ih =>
            intro c h
            unfold compM at h
            cases e3 : turnM tg mc me (wipeD ρ (own.map (·.2))) d with
            | ok a =>
              rw [e3] at h
              simp only [Res.bind_ok] at h
              cases e4 : compM (turnM tg mc me (wipeD ρ (own.map (·.2)))) r with
              | ok b => rw [e4] at h; cases h
              | exc c' => exact ih c' e4
              | stuck => rw [e4] at h; cases h
            | exc c' =>
              unfold turnM noExc at e3
              split at e3 <;> cases e3
            | stuck => rw [e3] at h; cases h
        exact none _ _ e2
      | stuck => rw [e2] at o; exact o.elim
      | ok out =>
        rw [e2] at o
        simp only [Res.bind_ok] at o
        obtain ⟨out', eo, o⟩ := o
        cases eo
        have sD : Same X.K H1 (upd H1 L0 (.lst [])) := same_new nD
        have dmD : ∀ {H2 : Hp} {vs : List V}, Same X.K H1 H2 → H2 L0 = some (.lst vs) → DomM (mark M L0) H2 := fun s e => ((dm.mono s1).mono s).mark e trivial
        have keepD : ∀ {H2 : Hp}, Same X.K H1 H2 → Keep X.K (mark M L0) H1 H2 := fun s => Keep.of_same s
        have extD : Ext M (mark M L0) H1 := Ext.mark nD
        refine ⟨fun i m H2 => m + i = ds.length ∧ Same X.K H1 H2 ∧ ∃ vs pre post, H2 L0 = some (.lst vs) ∧ RepAll X.K (mark M L0) H2 vs pre ∧ compM (turnM tg mc me (wipeD ρ (own.map (·.2)))) (ds.drop i) = .ok post ∧ pre ++ post = out ∧ pre.length ≤ i,
          ⟨ds.length, rfl, sD, [], [], out, upd_same, .nil, e2, rfl, Nat.le_refl _⟩, ?_⟩
        rintro i m H2 ⟨em, s2, vs, pre, post, hD, rp, ep, eo, lp⟩
        cases ei : ds[i]? with
        | none =>
          left
          refine ⟨wk.stop _ i H2 extD (dmD s2 hD) (keepD s2) ei, ?_⟩
          have hd : ds.drop i = [] := List.drop_eq_nil_of_le (List.getElem?_eq_none_iff.mp ei)
          rw [hd] at ep
          cases ep
          rw [List.append_nil] at eo
          subst eo
          exact o L0 vs H2 (s1.trans s2) (s1.free nD) hD rp
        | some d =>
          right
          have hi' : i < ds.length := (List.getElem?_eq_some_iff.mp ei).1
          obtain ⟨g1, g2⟩ := wk.go _ i d H2 extD (dmD s2 hD) (keepD s2) ei
          have hdrop : ds.drop i = d :: ds.drop (i + 1) := by
            rw [List.drop_eq_getElem_cons hi']
            rw [List.getElem?_eq_getElem hi'] at ei
            cases ei; rfl
          rw [hdrop] at ep
          have ep' : ((turnM tg mc me (wipeD ρ (own.map (·.2))) d).bind fun o => (compM (turnM tg mc me (wipeD ρ (own.map (·.2)))) (ds.drop (i + 1))).bind fun out => .ok (match o with | some x => x :: out | none => out)) = .ok post := ep
          obtain ⟨oo, et, ep'⟩ := Res.bind_eq_ok ep'
          obtain ⟨post', epp, ep'⟩ := Res.bind_eq_ok ep'
          have et' := noExc_ok et
          obtain ⟨ρ2, et1, et2⟩ := Res.bind_eq_ok et'
          obtain ⟨b, et3, et4⟩ := Res.bind_eq_ok et2
          refine ⟨g1, fun H' => Same X.K H1 H' ∧ ∃ vs pre post, H' L0 = some (.lst vs) ∧ RepAll X.K (mark M L0) H' vs pre ∧ compM (turnM tg mc me (wipeD ρ (own.map (·.2)))) (ds.drop (i + 1)) = .ok post ∧ pre ++ post = out ∧ pre.length ≤ i + 1,
            fun H' hN => ⟨m - 1, by omega, by omega, hN⟩, fun xv H3 hy => ?_⟩
          obtain ⟨s3, rx⟩ := g2 xv H3 hy
          have relD : Rel X.K (mark M L0) (wipe σ (own.map (·.2))) H3 (wipeD ρ (own.map (·.2))) := rel_wipe (((re.same s1).ext extD).same (s2.trans s3)) _
          refine gTg_of et1 relD rx fun σ2 r2 w2 => ⟨?_, ?_⟩
          · rw [w2 _ hin]
            exact wipe_wipe _ _
          · have s13 : Same X.K H1 H3 := s2.trans s3
            have hD3 : H3 L0 = some (.lst vs) := s3.get L0 _ hD
            refine ⟨mark M L0, ρ2, dmD s13 hD3, r2, ?_⟩
            rw [et3]
            intro H4 s4
            have hD4 : H4 L0 = some (.lst vs) := s4.get L0 _ hD3
            have s14 : Same X.K H1 H4 := s13.trans s4
            cases b with
            | false =>
              have et5 : (Res.ok none : Res (Option D)) = .ok oo := et4
              cases et5
              cases ep'
              rw [if_neg Bool.false_ne_true]
              exact ⟨s14, vs, pre, post', hD4, rp.same (s3.trans s4), epp, eo, by omega⟩
            | true =>
              have et5 : ((me ρ2).bind fun x => .ok (some x)) = .ok oo := et4
              obtain ⟨y, ey, et6⟩ := Res.bind_eq_ok et5
              cases et6
              cases ep'
              rw [if_pos rfl]
              refine ⟨mark M L0, ρ2, dmD s14 hD4, r2.same s4, ?_⟩
              rw [ey]
              intro yv H5 s5 ry
              have hD5 : H5 L0 = some (.lst vs) := s5.get L0 _ hD4
              refine ⟨vs, hD5, ?_, same_upd (s14.trans s5) nD hD5 trivial, vs ++ [yv], pre ++ [y], post', upd_same, ?_, epp, by rw [List.append_assoc]; exact eo, by rw [List.length_append]; show pre.length + 1 ≤ i + 1; omega⟩
              · rw [rp.length]
                exact Nat.lt_of_le_of_lt (Nat.le_trans lp (Nat.le_trans (Nat.le_of_lt hi') hl)) sizeD_lt
              · exact RepAll.keep (keep_upd (.inr rfl) hD5 trivial) _ _ ((rp.same ((s3.trans s4).trans s5)).append (.cons ry .nil))
    · rw [if_neg hl] at o
      exact o.elim
theorem pe_compF {k : Nat} {own : List (Str × Nat)} {tg : Tg} {mi : En → Res (List D)} {mc : En → Res Bool} {me : En → Res D} {x t i : Expr} {ifs : List Expr} {scope : Scope} (xo : XOk X k W)
    (hi : PI X t i (tIS X W mi)) (ok : BlkOk X.N X.env.scope scope own) (hin : tgIn (own.map (·.2)) tg = true)
    (hg : ∀ (s : Shared) (H : Hp) (C : Addr) (cl : List (Str × Addr)) (fp : List Addr), PG (X.blk s H scope (compEnvC scope cl C X.env) fp) t (gTg X.K tg))
    (ht : ∀ (s : Shared) (H : Hp) (C : Addr) (cl : List (Str × Addr)) (fp : List Addr), PTs (X.blk s H scope (compEnvC scope cl C X.env) fp) ifs (tST X W0 mc))
    (he : ∀ (s : Shared) (H : Hp) (C : Addr) (cl : List (Str × Addr)) (fp : List Addr), PE (X.blk s H scope (compEnvC scope cl C X.env) fp) x (tS X W0 me))
    (hs : ∀ v, foldedSetIterable i X.env v = pure v) :
    (∀ (σ : L2.St) (H : Hp) (Q : VK), tF X W (fun ρ => (mi ρ).bind fun ds => if ds.length ≤ sizeD then (compM (turnM tg mc me (wipeD ρ (own.map (·.2)))) ds).bind fun out => .ok (.lst out) else .stuck) σ H Q →
      tLc (tIS X W mi) (gTg X.K tg) (tST X W0 mc) (tS X W0 me) (own.map (·.2)) σ H Q) := comp_read hin

/-! ## the language is sound -/
theorem turn_eq (tg : Tg) (own : List (Str × Nat)) (cond : EO) (elt : E) (ρ : En) :
    (fun d => noExc ((setTg tg d (wipeD ρ (own.map (·.2)))).bind fun ρ2 => (evO cond ρ2).bind fun t => if t then (ev elt ρ2).bind fun x => .ok (some x) else .ok none)) = turnM tg (evO cond) (ev elt) (wipeD ρ (own.map (·.2))) := rfl
def freshE : E → Bool
  | .comp _ _ _ _ _ => true
  | .prim p _ => p.fresh
  | _ => false
structure SndE (X : Cx) (W : WX) (e : E) (x : Expr) : Prop where
  pe : PE X x (tS X W (ev e))
  pt : PT X x (tST X W fun ρ => (ev e ρ).bind truth)
  fr : freshE e = true → PE X x (tF X W (ev e))
theorem vis_of {sc : Scope} {x : Str} (h : visB sc x = true) : Vis sc x := by
  unfold visB at h
  split at h
  · rename_i e; exact .inl e
  · rename_i e; exact .inr (.inl e)
  · rename_i e; exact .inr (.inr e)
  · cases h
theorem loc_of {sc : Scope} {x : Str} (h : locB sc x = true) : Loc sc x := by
  unfold locB at h
  split at h
  · rename_i e; exact .inl e
  · rename_i e; exact .inr e
  · cases h
theorem gl_of {X : Cx} {x : Str} (h : glB X.env.scope x = true) : Gl X x := by
  unfold glB at h
  split at h
  · rename_i e; exact e
  · cases h
theorem okName_of {x : Str} (h : okName x = true) : (x == ("__debug__" : Str)) = false ∧ (x == ("__classdict__" : Str)) = false := by
  unfold okName at h
  simpa using h
theorem s_chain {o1 o2 : CmpOp} {f1 f2 : D → D → Option D} {ma mb mc : En → Res D} {r r' : R2} {σ : L2.St} {H : Hp} {Q : VK}
    (h1 : ∀ (M : Mk) (H : Hp) (x y : V) (d1 d2 d : D) (Q : VK), DomM M H → Rep X.K M H x d1 → Rep X.K M H y d2 → f1 d1 d2 = some d → (∀ v H', Same X.K H H' → Rep X.K M H' v d → Q v H') → r x y H Q)
    (h2 : ∀ (M : Mk) (H : Hp) (x y : V) (d1 d2 d : D) (Q : VK), DomM M H → Rep X.K M H x d1 → Rep X.K M H y d2 → f2 d1 d2 = some d → (∀ v H', Same X.K H H' → Rep X.K M H' v d → Q v H') → r' x y H Q)
    (q : tS X W (fun ρ => (ma ρ).bind fun x => (mb ρ).bind fun y => (ofO (f1 x y)).bind fun z => (truth z).bind fun t => if t then (mc ρ).bind fun u => ofO (f2 y u) else .ok (.bl false)) σ H Q) :
    tChain r r' (tS X W ma) (tS X W mb) (tS X W mc) σ H Q := by
  obtain ⟨M, ρ, dm, re, o⟩ := q
  refine ⟨M, ρ, dm, re, ?_⟩
  dsimp only at o
  cases e1 : ma ρ with
  | exc c => rw [e1] at o; exact o
  | stuck => rw [e1] at o; exact o
  | ok d1 =>
    rw [e1] at o
    intro x H1 s1 r1
    refine ⟨M, ρ, dm.mono s1, re.same s1, ?_⟩
    cases e2 : mb ρ with
    | exc c => rw [e2] at o; exact fun H' s' => o H' (s1.trans s')
    | stuck => rw [e2] at o; exact o
    | ok d2 =>
      rw [e2] at o
      simp only [Res.bind_ok] at o
      intro y H2 s2 r2
      cases e3 : f1 d1 d2 with
      | none => rw [e3] at o; exact o.elim
      | some z =>
        rw [e3] at o
        refine h1 M H2 x y d1 d2 z _ ((dm.mono s1).mono s2) (r1.same s2) r2 e3 fun zv H3 s3 rz => ?_
        cases z with
        | bl b =>
          cases rz
          refine ⟨b, rfl, ?_⟩
          cases b with
          | false =>
            rw [if_neg Bool.false_ne_true]
            exact o _ H3 ((s1.trans s2).trans s3) (.bl false)
          | true =>
            rw [if_pos rfl]
            refine ⟨M, ρ, ((dm.mono s1).mono s2).mono s3, re.same ((s1.trans s2).trans s3), ?_⟩
            have o' : OutE X W M σ H Q ((mc ρ).bind fun u => ofO (f2 d2 u)) := o
            cases e4 : mc ρ with
            | exc c => rw [e4] at o'; exact fun H' s' => o' H' (((s1.trans s2).trans s3).trans s')
            | stuck => rw [e4] at o'; exact o'
            | ok d3 =>
              rw [e4] at o'
              simp only [Res.bind_ok] at o'
              intro u H4 s4 r4
              cases e5 : f2 d2 d3 with
              | none => rw [e5] at o'; exact o'.elim
              | some w =>
                rw [e5] at o'
                exact h2 M H4 y u d2 d3 w Q ((((dm.mono s1).mono s2).mono s3).mono s4) (r2.same (s3.trans s4)) r4 e5 fun v H5 s5 rv => o' v H5 ((((s1.trans s2).trans s3).trans s4).trans s5) rv
        | _ => exact o.elim
theorem pw_of_pt {op : BoolOp} {vs : List Expr} {pos : Pos} {t : TT} (h : PT X (.BoolOp op vs pos) t) : PW X (.BoolOp op vs pos) t := ⟨fun whole pins s σ H Q I q => h.run pins s σ H Q I q⟩
theorem s_and {ma mb : En → Res D} {σ : L2.St} {H : Hp} {Q : VK} (q : tS X W (fun ρ => (ma ρ).bind fun x => (truth x).bind fun t => if t then mb ρ else .ok x) σ H Q) : tAndV (tS X W ma) (tS X W mb) σ H Q := by
  obtain ⟨M, ρ, dm, re, o⟩ := q
  refine ⟨M, ρ, dm, re, ?_⟩
  dsimp only at o
  cases e1 : ma ρ with
  | exc c => rw [e1] at o; exact o
  | stuck => rw [e1] at o; exact o
  | ok d =>
    rw [e1] at o
    intro v H1 s1 r1
    cases d with
    | bl b =>
      cases r1
      refine ⟨b, rfl, ?_⟩
      cases b with
      | false => rw [if_neg Bool.false_ne_true]; exact o _ H1 s1 (.bl false)
      | true =>
        rw [if_pos rfl]
        refine ⟨M, ρ, dm.mono s1, re.same s1, ?_⟩
        have o' : OutE X W M σ H Q (mb ρ) := o
        cases e2 : mb ρ with
        | ok d => rw [e2] at o'; exact fun v H' s' r' => o' v H' (s1.trans s') r'
        | exc c => rw [e2] at o'; exact fun H' s' => o' H' (s1.trans s')
        | stuck => rw [e2] at o'; exact o'
    | _ => exact o.elim
theorem s_or {ma mb : En → Res D} {σ : L2.St} {H : Hp} {Q : VK} (q : tS X W (fun ρ => (ma ρ).bind fun x => (truth x).bind fun t => if t then .ok x else mb ρ) σ H Q) : tOrV (tS X W ma) (tS X W mb) σ H Q := by
  obtain ⟨M, ρ, dm, re, o⟩ := q
  refine ⟨M, ρ, dm, re, ?_⟩
  dsimp only at o
  cases e1 : ma ρ with
  | exc c => rw [e1] at o; exact o
  | stuck => rw [e1] at o; exact o
  | ok d =>
    rw [e1] at o
    intro v H1 s1 r1
    cases d with
    | bl b =>
      cases r1
      refine ⟨b, rfl, ?_⟩
      cases b with
      | true => rw [if_pos rfl]; exact o _ H1 s1 (.bl true)
      | false =>
        rw [if_neg Bool.false_ne_true]
        refine ⟨M, ρ, dm.mono s1, re.same s1, ?_⟩
        have o' : OutE X W M σ H Q (mb ρ) := o
        cases e2 : mb ρ with
        | ok d => rw [e2] at o'; exact fun v H' s' r' => o' v H' (s1.trans s') r'
        | exc c => rw [e2] at o'; exact fun H' s' => o' H' (s1.trans s')
        | stuck => rw [e2] at o'; exact o'
    | _ => exact o.elim
theorem s_not {ma : En → Res D} {σ : L2.St} {H : Hp} {Q : VK} (q : tS X W (fun ρ => (ma ρ).bind fun x => (truth x).bind fun t => .ok (.bl (!t))) σ H Q) : tNotV (tS X W ma) σ H Q := by
  obtain ⟨M, ρ, dm, re, o⟩ := q
  refine ⟨M, ρ, dm, re, ?_⟩
  dsimp only at o
  cases e1 : ma ρ with
  | exc c => rw [e1] at o; exact o
  | stuck => rw [e1] at o; exact o
  | ok d =>
    rw [e1] at o
    intro v H1 s1 r1
    cases d with
    | bl b => cases r1; exact ⟨b, rfl, o _ H1 s1 (.bl _)⟩
    | _ => exact o.elim
theorem outT_go {H H1 : Hp} {σ : L2.St} {Q : Bool → Hp → Prop} {r : Res Bool} (s1 : Same X.K H H1) (o : OutT X W σ H Q r) : OutT X W σ H1 Q r := by
  cases r with
  | ok b => exact fun H' s' => o H' (s1.trans s')
  | exc c => exact fun H' s' => o H' (s1.trans s')
  | stuck => exact o
theorem outE_go {M : Mk} {H H1 : Hp} {σ : L2.St} {Q : VK} {r : Res D} (s1 : Same X.K H H1) (o : OutE X W M σ H Q r) : OutE X W M σ H1 Q r := by
  cases r with
  | ok b => exact fun v H' s' => o v H' (s1.trans s')
  | exc c => exact fun H' s' => o H' (s1.trans s')
  | stuck => exact o
theorem t_and {ma mb : En → Res D} {σ : L2.St} {H : Hp} {Q : Bool → Hp → Prop} (q : tST X W (fun ρ => ((ma ρ).bind fun x => (truth x).bind fun t => if t then mb ρ else .ok x).bind truth) σ H Q) :
    tAnd (tST X W fun ρ => (ma ρ).bind truth) (tST X W fun ρ => (mb ρ).bind truth) σ H Q := by
  obtain ⟨M, ρ, dm, re, o⟩ := q
  refine ⟨M, ρ, dm, re, ?_⟩
  dsimp only at o ⊢
  cases e1 : ma ρ with
  | exc c => rw [e1] at o; exact o
  | stuck => rw [e1] at o; exact o
  | ok d =>
    rw [e1] at o
    cases d with
    | bl b =>
      intro H1 s1
      cases b with
      | false => rw [if_neg Bool.false_ne_true]; exact o H1 s1
      | true => rw [if_pos rfl]; exact ⟨M, ρ, dm.mono s1, re.same s1, outT_go s1 o⟩
    | _ => exact o.elim
theorem t_or {ma mb : En → Res D} {σ : L2.St} {H : Hp} {Q : Bool → Hp → Prop} (q : tST X W (fun ρ => ((ma ρ).bind fun x => (truth x).bind fun t => if t then .ok x else mb ρ).bind truth) σ H Q) :
    tOr (tST X W fun ρ => (ma ρ).bind truth) (tST X W fun ρ => (mb ρ).bind truth) σ H Q := by
  obtain ⟨M, ρ, dm, re, o⟩ := q
  refine ⟨M, ρ, dm, re, ?_⟩
  dsimp only at o ⊢
  cases e1 : ma ρ with
  | exc c => rw [e1] at o; exact o
  | stuck => rw [e1] at o; exact o
  | ok d =>
    rw [e1] at o
    cases d with
    | bl b =>
      intro H1 s1
      cases b with
      | true => rw [if_pos rfl]; exact o H1 s1
      | false => rw [if_neg Bool.false_ne_true]; exact ⟨M, ρ, dm.mono s1, re.same s1, outT_go s1 o⟩
    | _ => exact o.elim
theorem t_not {ma : En → Res D} {σ : L2.St} {H : Hp} {Q : Bool → Hp → Prop} (q : tST X W (fun ρ => ((ma ρ).bind fun x => (truth x).bind fun t => .ok (.bl (!t))).bind truth) σ H Q) :
    tNot (tST X W fun ρ => (ma ρ).bind truth) σ H Q := by
  obtain ⟨M, ρ, dm, re, o⟩ := q
  refine ⟨M, ρ, dm, re, ?_⟩
  dsimp only at o ⊢
  cases e1 : ma ρ with
  | exc c => rw [e1] at o; exact o
  | stuck => rw [e1] at o; exact o
  | ok d =>
    rw [e1] at o
    cases d with
    | bl b => exact fun H1 s1 => o H1 s1
    | _ => exact o.elim
theorem s_ite {mt ma mb : En → Res D} {σ : L2.St} {H : Hp} {Q : VK} (q : tS X W (fun ρ => ((mt ρ).bind truth).bind fun k => if k then ma ρ else mb ρ) σ H Q) :
    tIf (tST X W fun ρ => (mt ρ).bind truth) (tS X W ma) (tS X W mb) σ H Q := by
  obtain ⟨M, ρ, dm, re, o⟩ := q
  refine ⟨M, ρ, dm, re, ?_⟩
  dsimp only at o ⊢
  cases e1 : (mt ρ).bind truth with
  | exc c => rw [e1] at o; exact o
  | stuck => rw [e1] at o; exact o
  | ok b =>
    rw [e1] at o
    intro H1 s1
    cases b with
    | true => rw [if_pos rfl]; exact ⟨M, ρ, dm.mono s1, re.same s1, outE_go s1 o⟩
    | false => rw [if_neg Bool.false_ne_true]; exact ⟨M, ρ, dm.mono s1, re.same s1, outE_go s1 o⟩
def tIfT (t a b : TT) : TT := fun σ H Q => t σ H fun c H1 => if c = true then a σ H1 Q else b σ H1 Q
theorem pt_ifExp {c a b : Expr} {tc ta tb : TT} {pos : Pos} (hc : PT X c tc) (ha : PT X a ta) (hb : PT X b tb) : PT X (.IfExp c a b pos) (tIfT tc ta tb) := by
  refine ⟨fun pins s σ H Q I h => ?_⟩
  show wpAny _ _ (do if ← isTrue c X.env (eval c X.env) then isTrue a X.env (eval a X.env) else isTrue b X.env (eval b X.env)) _ _ _
  refine wpAny_bind (thn (hc.run pins s σ H _ I h) fun d s1 ⟨H1, I1, q1⟩ => ?_)
  cases d with
  | true => exact ha.run pins s1 σ H1 Q I1 q1
  | false => exact hb.run pins s1 σ H1 Q I1 q1
theorem t_ite {mt ma mb : En → Res D} {σ : L2.St} {H : Hp} {Q : Bool → Hp → Prop} (q : tST X W (fun ρ => (((mt ρ).bind truth).bind fun k => if k then ma ρ else mb ρ).bind truth) σ H Q) :
    tIfT (tST X W fun ρ => (mt ρ).bind truth) (tST X W fun ρ => (ma ρ).bind truth) (tST X W fun ρ => (mb ρ).bind truth) σ H Q := by
  obtain ⟨M, ρ, dm, re, o⟩ := q
  refine ⟨M, ρ, dm, re, ?_⟩
  dsimp only at o ⊢
  cases e1 : (mt ρ).bind truth with
  | exc c => rw [e1] at o; exact o
  | stuck => rw [e1] at o; exact o
  | ok b =>
    rw [e1] at o
    intro H1 s1
    cases b with
    | true => rw [if_pos rfl]; exact ⟨M, ρ, dm.mono s1, re.same s1, outT_go s1 o⟩
    | false => rw [if_neg Bool.false_ne_true]; exact ⟨M, ρ, dm.mono s1, re.same s1, outT_go s1 o⟩
theorem isTup_of {t : Expr} (h : isTupE t = true) : ∃ ts kk tp, t = .Tuple ts kk tp := by
  cases t <;> first | exact ⟨_, _, _, rfl⟩ | cases h
theorem notSet_folded {i : Expr} {env : PySem.Env} (h : (match i with | .Set _ _ _ => false | _ => true) = true) (v : Value) : foldedSetIterable i env v = pure v := by
  cases i <;> first | rfl | cases h
theorem opB_eq : ∀ {a b : CmpOp}, opB a b = true → a = b ∧ a ≠ .In ∧ a ≠ .NotIn := by
  intro a b h
  cases a <;> cases b <;> first | exact ⟨rfl, by decide, by decide⟩ | cases h
end
section
variable {X : Cx} {W : WX}
theorem XOk.blk {k : Nat} (xo : XOk X k W) (s : Shared) (H : Hp) (scope : Scope) (cenv : PySem.Env) (fp : List Addr) (hq : cenv.qual = X.env.qual) (hc : cenv.code = X.env.code) : XOk (X.blk s H scope cenv fp) k W0 :=
  ⟨xo.calm, xo.nd, xo.room, takes0, xo.bf, xo.tb, fun n hn e => hc.trans (xo.cd n hn (hq.symm.trans e))⟩
theorem blk_loc {scope : Scope} {s : Shared} {H : Hp} {C : Addr} {cl : List (Str × Addr)} {fp : List Addr} (x : Str) (h : locB scope x = true) :
    Loc (X.blk s H scope (compEnvC scope cl C X.env) fp).env.scope x ∧ ((X.blk s H scope (compEnvC scope cl C X.env) fp).fn x = true ∨ (X.blk s H scope (compEnvC scope cl C X.env) fp).env.scope.names.lookup x = some .local) := by
  rcases loc_of h with h | h
  · have := lookup_relS_keep (sc := X.env.scope) (k := .local) (by decide) h
    exact ⟨.inl this, .inr this⟩
  · have := lookup_relS_keep (sc := X.env.scope) (k := .cell) (by decide) h
    refine ⟨.inr this, .inl ?_⟩
    show (scope.names.lookup x == some .cell) = true
    rw [h]; rfl
end
mutual
theorem snd_e : ∀ (e : E) {X : Cx} {k : Nat} {W : WX}, XOk X k W → good (GoodX X k) (GC (gm X k)) e → ∀ x, chk X.N X.env.scope e x = true → SndE X W e x
  | .v i, X, k, W, xo, g, x, h => by
    cases x with
    | Name y p =>
      have h' : (X.N[i]? = some y ∧ visB X.env.scope y = true) ∧ okName y = true := by simpa [chk] using h
      obtain ⟨⟨h1, h2⟩, h3⟩ := h'
      obtain ⟨h4, h5⟩ := okName_of h3
      have pe : PE X (.Name y p) (tS X W (ev (.v i))) := pe_weak (pe_var h1 (vis_of h2) h4 h5) fun σ H Q q => by
        obtain ⟨M, ρ, dm, re, o⟩ := q
        have o' : OutE X W M σ H Q (getE ρ i) := o
        unfold getE at o'
        split at o'
        · rename_i d e
          obtain ⟨v, h6, h7⟩ := re.get i d e
          exact ⟨v, h6, o' v H (Same.refl H) h7⟩
        · exact o'.elim
      exact ⟨pe, pt_of_pe pe (fun _ => rfl), fun z => nomatch z⟩
    | _ => cases h
  | .atom q, X, k, W, xo, g, x, h => by
    have g' : AtomG (GoodX X k) (GC (gm X k)) q := g
    have h' : q.chk X.N X.env.scope x = true := by simpa [chk] using h
    exact ⟨(g' X k W xo rfl rfl x h').1, (g' X k W xo rfl rfl x h').2, fun z => nomatch z⟩
  | .c c, X, k, W, xo, g, x, h => by
    cases x with
    | Constant kk j p =>
      have h' : chkC c kk = true := h
      have pe : PE X (.Constant kk j p) (tS X W (ev (.c c))) := by
        cases c with
        | non =>
          cases kk with
          | none => exact pe_weak pe_non fun σ H Q ⟨M, ρ, dm, re, o⟩ => o _ H (Same.refl H) .non
          | _ => cases h'
        | bl b =>
          cases kk with
          | bool b' =>
            have e : b = b' := by simpa [chkC] using h'
            subst e
            exact pe_weak pe_bl fun σ H Q ⟨M, ρ, dm, re, o⟩ => o _ H (Same.refl H) (.bl b)
          | _ => cases h'
        | int i =>
          cases kk with
          | int b' =>
            have e : i = b' := by simpa [chkC] using h'
            subst e
            exact pe_weak pe_int fun σ H Q ⟨M, ρ, dm, re, o⟩ => o _ H (Same.refl H) (.int i)
          | _ => cases h'
        | str i =>
          cases kk with
          | str b' =>
            have e : i = b' := by simpa [chkC] using h'
            subst e
            exact pe_weak pe_str fun σ H Q ⟨M, ρ, dm, re, o⟩ => o _ H (Same.refl H) (.str i)
          | _ => cases h'
        | cls d b => cases kk <;> cases h'
        | fact φ => cases kk <;> cases h'
      exact ⟨pe, pt_of_pe pe (fun _ => rfl), fun z => nomatch z⟩
    | _ => cases h
  | .g y c, X, k, W, xo, g, x, h => by
    cases x with
    | Name z p =>
      have h' : ((y = z ∧ glB X.env.scope y = true) ∧ okName y = true) ∧ c.isC = true := by simpa [chk] using h
      obtain ⟨⟨⟨h1, h2⟩, h3⟩, h4⟩ := h'
      subst h1
      obtain ⟨u, g1, g2⟩ := (show GC (gm X k) y c from g).get h4
      have pe : PE X (.Name y p) (tS X W (ev (.g y c))) := pe_weak (pe_glob (gl_of h2) g1 g2 (okName_of h3).1) fun σ H Q ⟨M, ρ, dm, re, o⟩ => o _ H (Same.refl H) (by cases c <;> constructor)
      exact ⟨pe, pt_of_pe pe (fun _ => rfl), fun z => nomatch z⟩
    | _ => cases h
  | .prim p as, X, k, W, xo, g, x, h => by
    have h' : (match p.syn X.env.scope x with | some es => chkL X.N X.env.scope as es | none => false) = true := h
    cases e1 : p.syn X.env.scope x with
    | none => rw [e1] at h'; cases h'
    | some es =>
      rw [e1] at h'
      obtain ⟨ms, hp, he⟩ := snd_L as xo g.2 es h'
      have po := g.1 X k W xo
      have ee : ev (.prim p as) = fun ρ => (seqM ms ρ).bind fun ds => ofO (p.sem ds) := by
        funext ρ
        show (evL as ρ).bind _ = _
        rw [he]
      refine ⟨?_, ?_, ?_⟩
      · rw [ee]; exact po.pe e1 hp
      · rw [ee]; exact po.pt e1 hp
      · intro hf; rw [ee]; exact po.fr hf e1 hp
  | .and a b, X, k, W, xo, g, x, h => by
    match x, h with
    | .BoolOp .And (x1 :: y :: r) pos, h =>
      have sb : SndE X W a x1 ∧ PE X (.BoolOp .And (y :: r) pos) (tS X W (ev b)) ∧ PW X (.BoolOp .And (y :: r) pos) (tST X W fun ρ => (ev b ρ).bind truth) := by
        cases r with
        | nil =>
          have h' : chk X.N X.env.scope a x1 = true ∧ chk X.N X.env.scope b y = true := by simpa [chk] using h
          have sb := snd_e b xo g.2 y h'.2
          exact ⟨snd_e a xo g.1 x1 h'.1, pe_one sb.pe, pw_and1 sb.pt⟩
        | cons z r' =>
          have h' : chk X.N X.env.scope a x1 = true ∧ chk X.N X.env.scope b (.BoolOp .And (y :: z :: r') pos) = true := by simpa [chk] using h
          have sb := snd_e b xo g.2 _ h'.2
          exact ⟨snd_e a xo g.1 x1 h'.1, sb.pe, pw_of_pt sb.pt⟩
      obtain ⟨sa, sb⟩ := sb
      refine ⟨pe_weak (pe_and sa.pe sb.1) fun σ H Q q => s_and q, pt_weak (PW.pt (pw_and sa.pt sb.2)) fun σ H Q q => t_and q, fun z => nomatch z⟩
  | .or a b, X, k, W, xo, g, x, h => by
    match x, h with
    | .BoolOp .Or (x1 :: y :: r) pos, h =>
      have sb : SndE X W a x1 ∧ PE X (.BoolOp .Or (y :: r) pos) (tS X W (ev b)) ∧ PW X (.BoolOp .Or (y :: r) pos) (tST X W fun ρ => (ev b ρ).bind truth) := by
        cases r with
        | nil =>
          have h' : chk X.N X.env.scope a x1 = true ∧ chk X.N X.env.scope b y = true := by simpa [chk] using h
          have sb := snd_e b xo g.2 y h'.2
          exact ⟨snd_e a xo g.1 x1 h'.1, pe_one sb.pe, pw_or1 sb.pt⟩
        | cons z r' =>
          have h' : chk X.N X.env.scope a x1 = true ∧ chk X.N X.env.scope b (.BoolOp .Or (y :: z :: r') pos) = true := by simpa [chk] using h
          have sb := snd_e b xo g.2 _ h'.2
          exact ⟨snd_e a xo g.1 x1 h'.1, sb.pe, pw_of_pt sb.pt⟩
      obtain ⟨sa, sb⟩ := sb
      refine ⟨pe_weak (pe_or sa.pe sb.1) fun σ H Q q => s_or q, pt_weak (PW.pt (pw_or sa.pt sb.2)) fun σ H Q q => t_or q, fun z => nomatch z⟩
  | .not a, X, k, W, xo, g, x, h => by
    match x, h with
    | .UnaryOp .Not x1 pos, h =>
      have sa := snd_e a xo g x1 h
      refine ⟨pe_weak (pe_not sa.pe) fun σ H Q q => s_not q, pt_weak (pt_not sa.pt) fun σ H Q q => t_not q, fun z => nomatch z⟩
  | .ite t a b, X, k, W, xo, g, x, h => by
    match x, h with
    | .IfExp x1 y z pos, h =>
      have h' : (chk X.N X.env.scope t x1 = true ∧ chk X.N X.env.scope a y = true) ∧ chk X.N X.env.scope b z = true := by simpa [chk] using h
      obtain ⟨⟨h1, h2⟩, h3⟩ := h'
      have st := snd_e t xo g.1 x1 h1
      have sa := snd_e a xo g.2.1 y h2
      have sb := snd_e b xo g.2.2 z h3
      refine ⟨pe_weak (pe_ifExp st.pt sa.pe sb.pe) fun σ H Q q => s_ite q, pt_weak (pt_ifExp st.pt sa.pt sb.pt) fun σ H Q q => t_ite q, fun z => nomatch z⟩
  | .chain o1 o2 f1 f2 a b c, X, k, W, xo, g, x, h => by
    match x, h with
    | .Compare x1 [p1, p2] [y, z] pos, h =>
      have h' : (((opB o1 p1 = true ∧ opB o2 p2 = true) ∧ chk X.N X.env.scope a x1 = true) ∧ chk X.N X.env.scope b y = true) ∧ chk X.N X.env.scope c z = true := by simpa [chk] using h
      obtain ⟨⟨⟨⟨h1, h2⟩, h3⟩, h4⟩, h5⟩ := h'
      obtain ⟨e1, n1, n1'⟩ := opB_eq h1
      obtain ⟨e2, n2, n2'⟩ := opB_eq h2
      subst e1 e2
      obtain ⟨g1, g2, g3, g4, g5⟩ := g
      obtain ⟨r1, or1, w1⟩ := g1 X k W xo
      obtain ⟨r2, or2, w2⟩ := g2 X k W xo
      have sa := snd_e a xo g3 x1 h3
      have sb := snd_e b xo g4 y h4
      have sc := snd_e c xo g5 z h5
      have hm : lastMarks [o1, o2] [y, z] = false := nobehind z n2 n2'
      refine ⟨pe_weak (pe_chain or1 or2 sa.pe sb.pe sc.pe hm) fun σ H Q q => s_chain (o1 := o1) (o2 := o2) w1 w2 q, pt_weak (pt_chain or1 or2 sa.pe sb.pe sc.pe hm) fun σ H Q q => ?_, fun z => nomatch z⟩
      exact s_chain (o1 := o1) (o2 := o2) w1 w2 (w_test q)
  | .call f sem as, X, k, W, xo, g, x, h => by
    match x, h with
    | .Call (.Name y p) [] [] pos, h => simp [chk] at h
    | .Call (.Name y p) (e1 :: es) [] pos, h =>
      have h' : ((f = y ∧ glB X.env.scope y = true) ∧ okName y = true) ∧ chkL X.N X.env.scope as (e1 :: es) = true := by simpa [chk] using h
      obtain ⟨⟨⟨h1, h2⟩, h3⟩, h4⟩ := h'
      subst h1
      obtain ⟨ms, hp, he⟩ := snd_L as xo g.2 _ h4
      obtain ⟨fa, fd, ps, F, gm, kp, bd, gl⟩ := g.1
      have ee : ev (.call f sem as) = fun ρ => (seqM ms ρ).bind sem := by
        funext ρ
        show (evL as ρ).bind _ = _
        rw [he]
      have ns : notStar e1 = true := by cases hp with | cons _ n _ => exact n
      have st : (backTo pos (starEach es X.env)).any (·.1) = false := by cases hp with | cons _ _ t => exact stars_of t pos
      have pe : PE X (.Call (.Name f p) (e1 :: es) [] pos) (tS X W (ev (.call f sem as))) := by
        rw [ee]
        refine pe_weak (pe_callS F xo.room (gl_of h2) gm kp bd (fun σ => passAt xo.tk σ) hp.pa (okName_of h3).1 (star_of ns es X.env) st) fun σ H Q q => ?_
        obtain ⟨M, ρ, dm, re, o⟩ := q
        refine ⟨M, ρ, dm, re, ?_⟩
        dsimp only at o
        cases e1 : seqM ms ρ with
        | exc c => rw [e1] at o; exact o
        | stuck => rw [e1] at o; exact o
        | ok ds =>
          rw [e1] at o
          simp only [Res.bind_ok] at o
          intro vs H1 s1 rs
          have ln : sem ds ≠ .stuck := fun z => by rw [z] at o; exact o
          refine ⟨by rw [rs.length]; exact gl ds ln, re.tab.same s1, M, ds, dm.mono s1, rs, ?_⟩
          cases e2 : sem ds with
          | ok d => rw [e2] at o; exact fun v H' s' rv => o v H' (s1.trans s') rv
          | exc c => rw [e2] at o; exact fun H' s' => o H' (s1.trans s')
          | stuck => rw [e2] at o; exact o
      exact ⟨pe, pt_of_pe pe (fun _ => rfl), fun z => nomatch z⟩
  | .comp own tg it cond elt, X, k, W, xo, g, x, h => by
    cases x with
    | ListComp x0 gs scope p =>
      match gs, h with
      | [⟨t, i, ifs, 0⟩], h =>
        have h' : (((((blkC X.N X.env.scope scope own = true ∧ chkTg X.N scope tg t = true) ∧ tgIn (own.map (·.2)) tg = true) ∧ chkI X.N X.env.scope it t i = true) ∧ chkO X.N (relS scope X.env.scope) cond ifs = true) ∧ chk X.N (relS scope X.env.scope) elt x0 = true) := by
          simpa [chk] using h
        obtain ⟨⟨⟨⟨⟨h1, h2⟩, h3⟩, h4⟩, h5⟩, h6⟩ := h'
        have hi := snd_I it xo g.1 t i h4
        have hs : ∀ v, foldedSetIterable i X.env v = pure v := by
          intro v
          refine notSet_folded ?_ v
          cases i with
          | Set a b c =>
            cases it with
            | seq a => simp [chkI] at h4
            | _ => cases h4
          | _ => rfl
        have hg : ∀ (s : Shared) (H : Hp) (C : Addr) (cl : List (Str × Addr)) (fp : List Addr), PG (X.blk s H scope (compEnvC scope cl C X.env) fp) t (gTg X.K tg) := fun s H C cl fp =>
          pg_tg (X := X.blk s H scope (compEnvC scope cl C X.env) fp) (N := X.N) (sc := scope) xo.calm rfl xo.nd blk_loc h2
        have ht : ∀ (s : Shared) (H : Hp) (C : Addr) (cl : List (Str × Addr)) (fp : List Addr), PTs (X.blk s H scope (compEnvC scope cl C X.env) fp) ifs (tST X W0 (evO cond)) := fun s H C cl fp =>
          snd_O cond (X := X.blk s H scope (compEnvC scope cl C X.env) fp) (xo.blk s H scope _ fp rfl rfl) g.2.1 ifs h5
        have he : ∀ (s : Shared) (H : Hp) (C : Addr) (cl : List (Str × Addr)) (fp : List Addr), PE (X.blk s H scope (compEnvC scope cl C X.env) fp) x0 (tS X W0 (ev elt)) := fun s H C cl fp =>
          (snd_e elt (X := X.blk s H scope (compEnvC scope cl C X.env) fp) (xo.blk s H scope _ fp rfl rfl) g.2.2 x0 h6).pe
        have pf : PE X (.ListComp x0 [⟨t, i, ifs, 0⟩] scope p) (tF X W (ev (.comp own tg it cond elt))) :=
          pe_weak (pe_lc xo.calm xo.nd hi (blkOk_by h1) hg ht he hs) (pe_compF xo hi (blkOk_by h1) h3 hg ht he hs)
        have pe := tF_S pf fun ρ d e => by
          have e' : ((evI it ρ).bind fun ds => if ds.length ≤ sizeD then (compM (turnM tg (evO cond) (ev elt) (wipeD ρ (own.map (·.2)))) ds).bind fun out => .ok (.lst out) else .stuck) = .ok d := e
          obtain ⟨ds, _, e'⟩ := Res.bind_eq_ok e'
          split at e'
          · obtain ⟨out, _, e'⟩ := Res.bind_eq_ok e'
            cases e'
            exact ⟨_, rfl⟩
          · cases e'
        exact ⟨pe, pt_of_pe pe (fun _ => rfl), fun _ => pf⟩
    | _ => cases h
theorem snd_L : ∀ (l : EL) {X : Cx} {k : Nat} {W : WX}, XOk X k W → goodL (GoodX X k) (GC (gm X k)) l → ∀ es, chkL X.N X.env.scope l es = true → ∃ ms, PEs X W es ms ∧ ∀ ρ, evL l ρ = seqM ms ρ
  | .nil, X, k, W, xo, g, es, h => by
    cases es with
    | nil => exact ⟨[], .nil, fun _ => rfl⟩
    | cons a b => cases h
  | .cons a r, X, k, W, xo, g, es, h => by
    cases es with
    | nil => cases h
    | cons e es =>
      have h' : (chk X.N X.env.scope a e = true ∧ notStar e = true) ∧ chkL X.N X.env.scope r es = true := by simpa [chkL] using h
      obtain ⟨⟨h1, h2⟩, h3⟩ := h'
      obtain ⟨ms, hp, he⟩ := snd_L r xo g.2 es h3
      refine ⟨ev a :: ms, .cons (snd_e a xo g.1 e h1).pe h2 hp, fun ρ => ?_⟩
      show (ev a ρ).bind (fun d => (evL r ρ).bind fun ds => .ok (d :: ds)) = (ev a ρ).bind (fun d => (seqM ms ρ).bind fun ds => .ok (d :: ds))
      rw [he]
theorem snd_O : ∀ (o : EO) {X : Cx} {k : Nat} {W : WX}, XOk X k W → goodO (GoodX X k) (GC (gm X k)) o → ∀ ifs, chkO X.N X.env.scope o ifs = true → PTs X ifs (tST X W (evO o))
  | .none, X, k, W, xo, g, ifs, h => by
    cases ifs with
    | nil => exact ⟨fun pins s σ H Q I q => pts_nil.run pins s σ H Q I (by obtain ⟨M, ρ, dm, re, o⟩ := q; exact o H (Same.refl H))⟩
    | cons a b => cases h
  | .some a, X, k, W, xo, g, ifs, h => by
    match ifs, h with
    | [e], h => exact pts_one (snd_e a xo g e h).pt
theorem snd_I : ∀ (it : IT) {X : Cx} {k : Nat} {W : WX}, XOk X k W → goodI (GoodX X k) (GC (gm X k)) it → ∀ t i, chkI X.N X.env.scope it t i = true → PI X t i (tIS X W (evI it))
  | .seq a, X, k, W, xo, g, t, i, h => by
    have h' : chk X.N X.env.scope a i = true := by
      have : chk X.N X.env.scope a i && (match i with | .Set _ _ _ => false | _ => true) = true := by cases i <;> exact h
      rw [Bool.and_eq_true] at this
      exact this.1
    exact pi_seq (snd_e a xo g i h').pe
  | .rng as, X, k, W, xo, g, t, i, h => by
    match i, h with
    | .Call (.Name y p) es [] pos, h =>
      have h' : ((((y = "range" ∧ glB X.env.scope y = true) ∧ 1 ≤ es.length) ∧ es.length ≤ 3) ∧ chkL X.N X.env.scope as es = true) := by simpa [chkI] using h
      obtain ⟨⟨⟨⟨h1, h2⟩, h3⟩, h4⟩, h5⟩ := h'
      obtain ⟨ms, hp, he⟩ := snd_L as xo g es h5
      have ee : evI (.rng as) = fun ρ => (seqM ms ρ).bind rngD := by
        funext ρ
        show (evL as ρ).bind _ = _
        rw [he]
      rw [ee]
      exact pi_rng h1 (gl_of h2) (xo.bf _ (by decide)) hp h3 h4
  | .zip a b, X, k, W, xo, g, t, i, h => by
    match i, h with
    | .Call (.Name y p) [e1, e2] [] pos, h =>
      have h' : ((((((y = "zip" ∧ glB X.env.scope y = true) ∧ isTupE t = true) ∧ chk X.N X.env.scope a e1 = true) ∧ notStar e1 = true) ∧ chk X.N X.env.scope b e2 = true) ∧ notStar e2 = true) := by simpa [chkI] using h
      obtain ⟨⟨⟨⟨⟨⟨h1, h2⟩, h0⟩, h3⟩, h4⟩, h5⟩, h6⟩ := h'
      obtain ⟨ts, kk, tp, et⟩ := isTup_of h0
      rw [et]
      exact pi_zipD h1 (gl_of h2) (xo.bf _ (by decide)) (snd_e a xo g.1 e1 h3).pe h4 (snd_e b xo g.2 e2 h5).pe h6
  | .enum a, X, k, W, xo, g, t, i, h => by
    match i, h with
    | .Call (.Name y p) [e1] [] pos, h =>
      have h' : ((((y = "enumerate" ∧ glB X.env.scope y = true) ∧ isTupE t = true) ∧ chk X.N X.env.scope a e1 = true) ∧ notStar e1 = true) := by simpa [chkI] using h
      obtain ⟨⟨⟨⟨h1, h2⟩, h0⟩, h3⟩, h4⟩ := h'
      obtain ⟨ts, kk, tp, et⟩ := isTup_of h0
      rw [et]
      exact pi_enumD h1 (gl_of h2) (xo.bf _ (by decide)) (snd_e a xo g e1 h3).pe h4
end
end PL

namespace PL
open PySem PySem.Spec PyProof.Rows L2
/-! ## what a frame owns: how it stands in the heap -/
structure OP where
  rep : PySem.W.Frag → Mk → Hp → List Addr → V → Prop
  nd : ∀ {K M H as v}, rep K M H as v → as.Nodup
  dom : ∀ {K M H as v}, rep K M H as v → ∀ a ∈ as, ∃ o, H a = some o ∧ MutO o
  keep : ∀ {K M H H' as v}, rep K M H as v → Keep K M H H' → (∀ a ∈ as, H' a = H a) → rep K M H' as v
  weak : ∀ {K M M' H as v}, rep K M H as v → (∀ a, M' a → M a) → rep K M' H as v
  ext : ∀ {K M M' H as v}, rep K M H as v → Ext M M' H → rep K M' H as v
theorem OP.same {q : OP} {K : PySem.W.Frag} {M : Mk} {H H' : Hp} {as : List Addr} {v : V} (r : q.rep K M H as v) (s : Same K H H') : q.rep K M H' as v :=
  q.keep r (Keep.of_same s) fun a ha => by
    obtain ⟨o, e, mu⟩ := q.dom r a ha
    rw [e]; exact s.app a o e (NT.of_mut mu)
def noOP : OP := ⟨fun _ _ _ _ _ => False, fun h => h.elim, fun h => h.elim, fun h => h.elim, fun h => h.elim, fun h => h.elim⟩
/-- one object of a kind, whose parts are plain values -/
def oneOP (mk : List V → HO) (mu : ∀ vs, MutO (mk vs)) (ok : List V → Prop) (l : List D) : OP where
  rep := fun K M H as v => ∃ a vs, as = [a] ∧ v = .ref a ∧ H a = some (mk vs) ∧ ok vs ∧ RepAll K M H vs l
  nd := fun ⟨a, vs, e, _⟩ => by rw [e]; exact List.nodup_cons.mpr ⟨List.not_mem_nil, .nil⟩
  dom := fun ⟨a, vs, e, _, h, _⟩ b hb => by
    rw [e] at hb
    rw [List.mem_singleton.mp hb]
    exact ⟨_, h, mu vs⟩
  keep := fun ⟨a, vs, e, e', h, k, r⟩ kp st => ⟨a, vs, e, e', by rw [st a (by rw [e]; exact List.mem_cons_self)]; exact h, k, RepAll.keep kp _ _ r⟩
  weak := fun ⟨a, vs, e, e', h, k, r⟩ w => ⟨a, vs, e, e', h, k, RepAll.weak w _ _ r⟩
  ext := fun ⟨a, vs, e, e', h, k, r⟩ x => ⟨a, vs, e, e', h, k, RepAll.ext x _ _ r⟩
def lstOP (l : List D) : OP := oneOP (fun vs => .lst vs) (fun _ => trivial) (fun _ => True) l
def dctOP (ks : List Key) (l : List D) : OP := oneOP (fun vs => .dK (ks.zip vs)) (fun _ => trivial) (fun vs => ks.length = vs.length) l
def dcTOP (ks : List (List Key)) (l : List D) : OP := oneOP (fun vs => .dT (ks.zip vs)) (fun _ => trivial) (fun vs => ks.length = vs.length) l
def datOP : D → OP
  | .dct ks l => dctOP ks l
  | .dcT ks l => dcTOP ks l
  | _ => noOP
/-! ### trees of things that are owned -/
inductive OD where
  | ro (d : D) | lst (l : List OD) | dct (ks : List Key) (vs : List D) | ob (c : Str) (ks : List Str) (l : List OD)
mutual
def OD.d : OD → D
  | .ro d => d
  | .lst l => .lst (odAll l)
  | .dct ks vs => .dct ks vs
  | .ob c ks l => .ob c ks (odAll l)
def odAll : List OD → List D
  | [] => []
  | o :: r => o.d :: odAll r
end
theorem odAll_append : ∀ (a b : List OD), odAll (a ++ b) = odAll a ++ odAll b
  | [], _ => rfl
  | o :: r, b => by show o.d :: odAll (r ++ b) = o.d :: (odAll r ++ odAll b); rw [odAll_append r b]
theorem odAll_ro : ∀ l : List D, odAll (l.map OD.ro) = l
  | [] => rfl
  | d :: r => by show d :: odAll (r.map OD.ro) = d :: r; rw [odAll_ro r]
theorem odAll_len : ∀ l : List OD, (odAll l).length = l.length
  | [] => rfl
  | _ :: r => by show (odAll r).length + 1 = r.length + 1; rw [odAll_len r]
mutual
inductive Own (K : PySem.W.Frag) (M : Mk) (H : Hp) : List Addr → V → OD → Prop
  | ro {v : V} {d : D} : Rep K M H v d → Own K M H [] v (.ro d)
  | lst {a : Addr} {as : List Addr} {vs : List V} {l : List OD} : H a = some (.lst vs) → OwnAll K M H as vs l → Own K M H (a :: as) (.ref a) (.lst l)
  | dct {a : Addr} {ks : List Key} {vs : List V} {ds : List D} : H a = some (.dK (ks.zip vs)) → ks.length = vs.length → RepAll K M H vs ds → Own K M H [a] (.ref a) (.dct ks ds)
  | ob {a C dx : Addr} {c : Str} {ks : List Str} {vs : List V} {as : List Addr} {l : List OD} : PySem.W.nsIn K mainGlobals c = some (some (.ref C)) → H a = some (.ins C dx (ks.zip vs)) → ks.length = vs.length → OwnAll K M H as vs l → Own K M H (a :: as) (.ref a) (.ob c ks l)
inductive OwnAll (K : PySem.W.Frag) (M : Mk) (H : Hp) : List Addr → List V → List OD → Prop
  | nil : OwnAll K M H [] [] []
  | cons {as bs : List Addr} {v : V} {vs : List V} {o : OD} {os : List OD} : Own K M H as v o → OwnAll K M H bs vs os → OwnAll K M H (as ++ bs) (v :: vs) (o :: os)
end
section
variable {K : PySem.W.Frag} {M M' : Mk} {H H' : Hp}
mutual
theorem Own.dom : ∀ (o : OD) {as : List Addr} {v : V}, Own K M H as v o → ∀ a ∈ as, ∃ o, H a = some o ∧ MutO o
  | .ro d, _, _, h, a, ha => by cases h; cases ha
  | .lst l, _, _, h, a, ha => by
    cases h with
    | lst e r =>
      rcases List.mem_cons.mp ha with rfl | ha
      · exact ⟨_, e, trivial⟩
      · exact OwnAll.dom l r a ha
  | .dct ks vs, _, _, h, a, ha => by
    cases h with
    | dct e _ _ =>
      rw [List.mem_singleton.mp ha]
      exact ⟨_, e, trivial⟩
  | .ob c ks l, _, _, h, a, ha => by
    cases h with
    | ob n e k r =>
      rcases List.mem_cons.mp ha with rfl | ha
      · exact ⟨_, e, trivial⟩
      · exact OwnAll.dom l r a ha
theorem OwnAll.dom : ∀ (l : List OD) {as : List Addr} {vs : List V}, OwnAll K M H as vs l → ∀ a ∈ as, ∃ o, H a = some o ∧ MutO o
  | [], _, _, h, a, ha => by cases h; cases ha
  | o :: l, _, _, h, a, ha => by
    cases h with
    | cons r s =>
      rcases List.mem_append.mp ha with ha | ha
      · exact Own.dom o r a ha
      · exact OwnAll.dom l s a ha
end
mutual
theorem Own.keep (k : Keep K M H H') : ∀ (o : OD) {as : List Addr} {v : V}, Own K M H as v o → (∀ a ∈ as, H' a = H a) → Own K M H' as v o
  | .ro d, _, _, h, e => by cases h with | ro r => exact .ro (Rep.keep k _ _ r)
  | .lst l, _, _, h, e => by
    cases h with
    | lst h1 r => exact .lst (by rw [e _ List.mem_cons_self]; exact h1) (OwnAll.keep k l r fun a ha => e a (List.mem_cons_of_mem _ ha))
  | .dct ks vs, _, _, h, e => by
    cases h with
    | dct h1 h2 r => exact .dct (by rw [e _ List.mem_cons_self]; exact h1) h2 (RepAll.keep k _ _ r)
  | .ob c ks l, _, _, h, e => by
    cases h with
    | ob n h1 h2 r => exact .ob n (by rw [e _ List.mem_cons_self]; exact h1) h2 (OwnAll.keep k l r fun a ha => e a (List.mem_cons_of_mem _ ha))
theorem OwnAll.keep (k : Keep K M H H') : ∀ (l : List OD) {as : List Addr} {vs : List V}, OwnAll K M H as vs l → (∀ a ∈ as, H' a = H a) → OwnAll K M H' as vs l
  | [], _, _, h, e => by cases h; exact .nil
  | o :: l, _, _, h, e => by
    cases h with
    | cons r s => exact .cons (Own.keep k o r fun a ha => e a (List.mem_append.mpr (.inl ha))) (OwnAll.keep k l s fun a ha => e a (List.mem_append.mpr (.inr ha)))
end
mutual
theorem Own.weak (w : ∀ a, M' a → M a) : ∀ (o : OD) {as : List Addr} {v : V}, Own K M H as v o → Own K M' H as v o
  | .ro d, _, _, h => by cases h with | ro r => exact .ro (Rep.weak w _ _ r)
  | .lst l, _, _, h => by cases h with | lst h1 r => exact .lst h1 (OwnAll.weak w l r)
  | .dct ks vs, _, _, h => by cases h with | dct h1 h2 r => exact .dct h1 h2 (RepAll.weak w _ _ r)
  | .ob c ks l, _, _, h => by cases h with | ob n h1 h2 r => exact .ob n h1 h2 (OwnAll.weak w l r)
theorem OwnAll.weak (w : ∀ a, M' a → M a) : ∀ (l : List OD) {as : List Addr} {vs : List V}, OwnAll K M H as vs l → OwnAll K M' H as vs l
  | [], _, _, h => by cases h; exact .nil
  | o :: l, _, _, h => by cases h with | cons r s => exact .cons (Own.weak w o r) (OwnAll.weak w l s)
end
mutual
theorem Own.ext (x : Ext M M' H) : ∀ (o : OD) {as : List Addr} {v : V}, Own K M H as v o → Own K M' H as v o
  | .ro d, _, _, h => by cases h with | ro r => exact .ro (Rep.ext x _ _ r)
  | .lst l, _, _, h => by cases h with | lst h1 r => exact .lst h1 (OwnAll.ext x l r)
  | .dct ks vs, _, _, h => by cases h with | dct h1 h2 r => exact .dct h1 h2 (RepAll.ext x _ _ r)
  | .ob c ks l, _, _, h => by cases h with | ob n h1 h2 r => exact .ob n h1 h2 (OwnAll.ext x l r)
theorem OwnAll.ext (x : Ext M M' H) : ∀ (l : List OD) {as : List Addr} {vs : List V}, OwnAll K M H as vs l → OwnAll K M' H as vs l
  | [], _, _, h => by cases h; exact .nil
  | o :: l, _, _, h => by cases h with | cons r s => exact .cons (Own.ext x o r) (OwnAll.ext x l s)
end
mutual
/-- seen by others -/
theorem Own.rep (w : ∀ a, M' a → M a) : ∀ (o : OD) {as : List Addr} {v : V}, Own K M H as v o → (∀ a ∈ as, ¬ M' a) → Rep K M' H v o.d
  | .ro d, _, _, h, n => by cases h with | ro r => exact Rep.weak w _ _ r
  | .lst l, _, _, h, n => by cases h with | lst h1 r => exact .lst h1 (n _ List.mem_cons_self) (OwnAll.rep w l r fun a ha => n a (List.mem_cons_of_mem _ ha))
  | .dct ks vs, _, _, h, n => by cases h with | dct h1 h2 r => exact .dct (.inl h1) h2 (n _ List.mem_cons_self) (RepAll.weak w _ _ r)
  | .ob c ks l, _, _, h, n => by cases h with | ob nn h1 h2 r => exact .ob nn h1 h2 (n _ List.mem_cons_self) (OwnAll.rep w l r fun a ha => n a (List.mem_cons_of_mem _ ha))
theorem OwnAll.rep (w : ∀ a, M' a → M a) : ∀ (l : List OD) {as : List Addr} {vs : List V}, OwnAll K M H as vs l → (∀ a ∈ as, ¬ M' a) → RepAll K M' H vs (odAll l)
  | [], _, _, h, n => by cases h; exact .nil
  | o :: l, _, _, h, n => by cases h with | cons r s => exact .cons (Own.rep w o r fun a ha => n a (List.mem_append.mpr (.inl ha))) (OwnAll.rep w l s fun a ha => n a (List.mem_append.mpr (.inr ha)))
end
theorem OwnAll.ros : ∀ {l : List D} {vs : List V}, RepAll K M H vs l → OwnAll K M H [] vs (l.map OD.ro)
  | [], _, h => by cases h; exact .nil
  | _ :: _, _, h => by cases h with | cons a b => exact .cons (as := []) (bs := []) (.ro a) (OwnAll.ros b)
theorem OwnAll.unros : ∀ {l : List D} {as : List Addr} {vs : List V}, OwnAll K M H as vs (l.map OD.ro) → as = [] ∧ RepAll K M H vs l
  | [], _, _, h => by cases h; exact ⟨rfl, .nil⟩
  | _ :: l, _, _, h => by
    cases h with
    | cons a b =>
      cases a with
      | ro a =>
        obtain ⟨rfl, r⟩ := OwnAll.unros (l := l) b
        exact ⟨rfl, .cons a r⟩
theorem OwnAll.append : ∀ {l l' : List OD} {as bs : List Addr} {vs us : List V}, OwnAll K M H as vs l → OwnAll K M H bs us l' → OwnAll K M H (as ++ bs) (vs ++ us) (l ++ l')
  | [], _, _, _, _, _, h, g => by cases h; exact g
  | _ :: _, _, _, _, _, _, h, g => by
    cases h with
    | cons a b => rw [List.append_assoc]; exact .cons a (OwnAll.append b g)
theorem OwnAll.length : ∀ {l : List OD} {as : List Addr} {vs : List V}, OwnAll K M H as vs l → vs.length = l.length
  | [], _, _, h => by cases h; rfl
  | _ :: l, _, _, h => by cases h with | cons a b => rw [List.length_cons, List.length_cons, OwnAll.length b]
theorem Own.same (s : Same K H H') (o : OD) {as : List Addr} {v : V} (h : Own K M H as v o) : Own K M H' as v o :=
  Own.keep (Keep.of_same s) o h fun a ha => by
    obtain ⟨u, e, mu⟩ := Own.dom o h a ha
    rw [e]; exact s.app a u e (NT.of_mut mu)
end
def treOP (p : Option Addr) (o : OD) : OP where
  rep := fun K M H as v => as.Nodup ∧ Own K M H as v o ∧ ∀ a, p = some a → v = .ref a
  nd := fun h => h.1
  dom := fun h => Own.dom o h.2.1
  keep := fun h k e => ⟨h.1, Own.keep k o h.2.1 e, h.2.2⟩
  weak := fun h w => ⟨h.1, Own.weak w o h.2.1, h.2.2⟩
  ext := fun h x => ⟨h.1, Own.ext x o h.2.1, h.2.2⟩
/-- a list that is gone over: it stands at a known place -/
def loanOP (a : Addr) (l : List D) : OP where
  rep := fun K M H as v => (lstOP l).rep K M H as v ∧ v = .ref a
  nd := fun h => (lstOP l).nd h.1
  dom := fun h => (lstOP l).dom h.1
  keep := fun h k e => ⟨(lstOP l).keep h.1 k e, h.2⟩
  weak := fun h k => ⟨(lstOP l).weak h.1 k, h.2⟩
  ext := fun h k => ⟨(lstOP l).ext h.1 k, h.2⟩
/-- an object of the program's own classes; a list on loan -/
def objOP (c : Str) (d : D) : OP := match d with
  | .tup [.int a, .lst l] => loanOP a.toNat l
  | _ => noOP
end PL

namespace PL
open PySem PySem.Spec PyProof.Rows L2

/-! ## a frame's slots: read only, or a thing that is the frame's own -/
inductive Sl where
  | no | ro (d : D) | own (l : List D) | odt (d : D) | obj (c : Str) (d : D) | tre (p : Option Addr) (o : OD)
abbrev SE := List Sl
def datD : D → Option D
  | .dct ks l => some (.dct ks l)
  | .dcT ks l => some (.dcT ks l)
  | _ => none
def Sl.full : Sl → Option D
  | .no => none | .ro d => some d | .own l => some (.lst l) | .odt d => datD d | .obj _ _ => none | .tre _ o => some o.d
def Sl.hid : Sl → Option D
  | .no => none | .ro d => some d | .own _ => none | .odt _ => none | .obj _ _ => none | .tre _ _ => none
def Sl.ow : Sl → Option OP
  | .own l => some (lstOP l) | .odt d => some (datOP d) | .obj c d => some (objOP c d) | .tre p o => some (treOP p o) | _ => none
def full (s : SE) : En := s.map Sl.full
def hid (s : SE) : En := s.map Sl.hid
def see (h : Bool) (s : SE) : En := if h then hid s else full s
def okFor (h : Bool) (d : D) : Bool := h || d.flat
def owAt (s : SE) (i : Nat) : Option OP := (s[i]?).bind Sl.ow
/-- the marks -/
def marks (M0 : Mk) (A : Nat → List Addr) (s : SE) : Mk := fun a => M0 a ∨ ∃ (i : Nat) (q : OP), owAt s i = some q ∧ a ∈ A i
structure RelS (K : PySem.W.Frag) (H0 : Hp) (M0 : Mk) (A : Nat → List Addr) (σ : L2.St) (H : Hp) (s : SE) : Prop where
  len : σ.length = s.length
  same : Same K H0 H
  dm0 : DomM M0 H
  injG : ∀ (i j : Nat) (q q' : OP) (a : Addr), owAt s i = some q → owAt s j = some q' → a ∈ A i → a ∈ A j → i = j
  ownG : ∀ (i : Nat) (q : OP), owAt s i = some q → (∀ a ∈ A i, Fr H0 a ∧ ¬ M0 a) ∧ ∃ v, σ[i]? = some (some v) ∧ q.rep K (marks M0 A s) H (A i) v
  ro : ∀ (i : Nat) (d : D), s[i]? = some (.ro d) → ∃ v, σ[i]? = some (some v) ∧ Rep K (marks M0 A s) H v d
  tab : TabsK K H
/-- what a piece of code may do to the heap -/
structure Frame (K : PySem.W.Frag) (M : Mk) (H : Hp) (M' : Mk) (H' : Hp) : Prop where
  keep : Keep K M H H'
  new : ∀ a, M' a → M a ∨ Fr H a
  dom : DomM M H'
section
variable {K : PySem.W.Frag} {H0 H H1 H2 : Hp} {M0 M M1 M2 : Mk} {A : Nat → List Addr} {σ : L2.St} {s : SE}
theorem owAt_of {i : Nat} {x : Sl} {q : OP} (e : s[i]? = some x) (h : x.ow = some q) : owAt s i = some q := by unfold owAt; rw [e]; exact h
theorem owAt_own {i : Nat} {l : List D} (e : s[i]? = some (.own l)) : owAt s i = some (lstOP l) := owAt_of e rfl
theorem owAt_set_ne {i j : Nat} {x : Sl} (h : i ≠ j) : owAt (s.set i x) j = owAt s j := by unfold owAt; rw [List.getElem?_set_ne h]
theorem owAt_set_self {i : Nat} {x : Sl} (h : i < s.length) : owAt (s.set i x) i = x.ow := by unfold owAt; rw [List.getElem?_set_self h]; rfl
theorem owAt_lt {i : Nat} {q : OP} (e : owAt s i = some q) : i < s.length := by
  unfold owAt at e
  cases h : s[i]? with
  | none => rw [h] at e; cases e
  | some x => exact (List.getElem?_eq_some_iff.mp h).1
theorem owAt_set {i j : Nat} {x : Sl} {q : OP} (hx : x.ow = none) (e : owAt (s.set i x) j = some q) : i ≠ j ∧ owAt s j = some q := by
  by_cases hj : i = j
  · subst hj
    have := owAt_lt e
    rw [List.length_set] at this
    rw [owAt_set_self this, hx] at e; cases e
  · rw [owAt_set_ne hj] at e; exact ⟨hj, e⟩
theorem RelS.dm (r : RelS K H0 M0 A σ H s) : DomM (marks M0 A s) H := fun a m => by
  rcases m with m | ⟨i, q, e, ha⟩
  · exact r.dm0 a m
  · obtain ⟨_, v, _, rp⟩ := r.ownG i q e
    exact q.dom rp a ha
theorem RelS.dmM0 (r : RelS K H0 M0 A σ H s) : DomM M0 H := r.dm0
/-- the list at a slot -/
theorem RelS.ownL (r : RelS K H0 M0 A σ H s) (i : Nat) (l : List D) (e : s[i]? = some (.own l)) : ∃ a, A i = [a] ∧ Fr H0 a ∧ ¬ M0 a ∧ σ[i]? = some (some (.ref a)) ∧ ∃ vs, H a = some (.lst vs) ∧ RepAll K (marks M0 A s) H vs l := by
  obtain ⟨f, v, h1, a, vs, eA, rfl, h2, _, h3⟩ := r.ownG i _ (owAt_own e)
  obtain ⟨f1, f2⟩ := f a (by rw [eA]; exact List.mem_cons_self)
  exact ⟨a, eA, f1, f2, h1, vs, h2, h3⟩
theorem datD_is {d d' : D} (h : datD d = some d') : d' = d ∧ ((∃ ks l, d = .dct ks l) ∨ ∃ ks l, d = .dcT ks l) := by
  cases d with
  | dct ks l => cases h; exact ⟨rfl, .inl ⟨ks, l, rfl⟩⟩
  | dcT ks l => cases h; exact ⟨rfl, .inr ⟨ks, l, rfl⟩⟩
  | _ => cases h
theorem get_full {i : Nat} {d : D} (h : (full s)[i]? = some (some d)) : s[i]? = some (.ro d) ∨ (∃ l, s[i]? = some (.own l) ∧ d = .lst l) ∨ (s[i]? = some (.odt d) ∧ ((∃ ks l, d = .dct ks l) ∨ ∃ ks l, d = .dcT ks l)) ∨ (∃ p o, s[i]? = some (.tre p o) ∧ d = o.d) := by
  unfold full at h
  rw [List.getElem?_map] at h
  cases e : s[i]? with
  | none => rw [e] at h; cases h
  | some x =>
    rw [e] at h
    cases x with
    | no => cases h
    | ro d' => cases h; exact .inl rfl
    | own l => cases h; exact .inr (.inl ⟨l, rfl, rfl⟩)
    | odt d' =>
      have h' : datD d' = some d := Option.some.inj h
      obtain ⟨rfl, k⟩ := datD_is h'
      exact .inr (.inr (.inl ⟨rfl, k⟩))
    | obj c d' => cases h
    | tre p o => cases h; exact .inr (.inr (.inr ⟨p, o, rfl, rfl⟩))
theorem get_hid {i : Nat} {d : D} (h : (hid s)[i]? = some (some d)) : s[i]? = some (.ro d) := by
  unfold hid at h
  rw [List.getElem?_map] at h
  cases e : s[i]? with
  | none => rw [e] at h; cases h
  | some x =>
    rw [e] at h
    cases x with
    | ro d' => cases h; rfl
    | _ => cases h
theorem RelS.full (r : RelS K H0 M0 A σ H s) : Rel K M0 σ H (full s) := ⟨by unfold PL.full; rw [List.length_map]; exact r.len, fun i d e => by
  rcases get_full e with e2 | ⟨l, e2, rfl⟩ | ⟨e2, k⟩ | ⟨p, o, e2, rfl⟩
  · obtain ⟨v, h1, h2⟩ := r.ro i d e2
    exact ⟨v, h1, Rep.weak (fun _ m => .inl m) _ _ h2⟩
  · obtain ⟨a, _, h0, hm0, h1, vs, h2, h3⟩ := r.ownL i l e2
    exact ⟨_, h1, .lst h2 hm0 (RepAll.weak (fun _ m => .inl m) _ _ h3)⟩
  · obtain ⟨f, v, h1, rp⟩ := r.ownG i _ (owAt_of e2 rfl)
    rcases k with ⟨ks, l, rfl⟩ | ⟨ks, l, rfl⟩
    · obtain ⟨a, vs, eA, rfl, h2, hk, h3⟩ := rp
      exact ⟨_, h1, .dct (.inl h2) hk (f a (by rw [eA]; exact List.mem_cons_self)).2 (RepAll.weak (fun _ m => .inl m) _ _ h3)⟩
    · obtain ⟨a, vs, eA, rfl, h2, hk, h3⟩ := rp
      exact ⟨_, h1, .dcT (.inl h2) hk (f a (by rw [eA]; exact List.mem_cons_self)).2 (RepAll.weak (fun _ m => .inl m) _ _ h3)⟩
  · obtain ⟨f, v, h1, rp⟩ := r.ownG i _ (owAt_of e2 rfl)
    exact ⟨v, h1, Own.rep (fun _ m => .inl m) o rp.2.1 fun a ha => (f a ha).2⟩, r.tab⟩
theorem RelS.hid (r : RelS K H0 M0 A σ H s) : Rel K (marks M0 A s) σ H (hid s) := ⟨by unfold PL.hid; rw [List.length_map]; exact r.len, fun i d e => r.ro i d (get_hid e), r.tab⟩
theorem RelS.grow (r : RelS K H0 M0 A σ H s) (g : Same K H H1) : RelS K H0 M0 A σ H1 s :=
  ⟨r.len, r.same.trans g, r.dm0.mono g, r.injG, fun i q e => by
    obtain ⟨f, v, h1, h2⟩ := r.ownG i q e
    exact ⟨f, v, h1, OP.same h2 g⟩, fun i d e => by
    obtain ⟨v, h1, h2⟩ := r.ro i d e
    exact ⟨v, h1, h2.same g⟩, r.tab.same g⟩
theorem Frame.refl (d : DomM M H) : Frame K M H M H := ⟨Keep.refl M H, fun _ m => .inl m, d⟩
theorem Frame.grow (d : DomM M H) (g : Same K H H1) (sub : ∀ a, M1 a → M a) : Frame K M H M1 H1 := ⟨Keep.of_same g, fun a m => .inl (sub a m), d.mono g⟩
theorem Frame.trans (a : Frame K M H M1 H1) (b : Frame K M1 H1 M2 H2) : Frame K M H M2 H2 := by
  have notM1 : ∀ x o, H x = some o → NT o → ¬ M x → ¬ M1 x := fun x o e t n m => (a.new x m).elim n fun z => z o e t
  refine ⟨⟨fun x o e n t => b.keep.app x o (a.keep.app x o e n t) (notM1 x o e t n) t, fun h => b.keep.tab (a.keep.tab h)⟩, fun x m => ?_, fun x m => ?_⟩
  · rcases b.new x m with m | z
    · exact a.new x m
    · by_cases hm : M x
      · exact .inl hm
      · exact .inr fun o ho t => z o (a.keep.app x o ho hm t) t
  · obtain ⟨o, e, mu⟩ := a.dom x m
    by_cases h1 : M1 x
    · exact b.dom x h1
    · exact ⟨o, b.keep.app x o e h1 (NT.of_mut mu), mu⟩
theorem marks_set_no {i : Nat} {x : Sl} (hx : x.ow = none) (a : Addr) (h : marks M0 A (s.set i x) a) : marks M0 A s a := by
  rcases h with h | ⟨j, q, e, ha⟩
  · exact .inl h
  · exact .inr ⟨j, q, (owAt_set hx e).2, ha⟩
theorem marks_set_sub {i : Nat} {d : D} (a : Addr) (h : marks M0 A (s.set i (.ro d)) a) : marks M0 A s a := marks_set_no rfl a h
theorem get_set_ro {i j : Nat} {x : Sl} {d : D} (hx : ∀ d, x ≠ .ro d) (e : (s.set i x)[j]? = some (.ro d)) : i ≠ j ∧ s[j]? = some (.ro d) := by
  by_cases hj : i = j
  · subst hj
    rw [List.getElem?_set] at e
    simp only [if_true] at e
    split at e
    · exact absurd (Option.some.inj e) (hx d)
    · cases e
  · rw [List.getElem?_set_ne hj] at e
    exact ⟨hj, e⟩
theorem RelS.setRo {i : Nat} {v : V} {d : D} (r : RelS K H0 M0 A σ H s) (q : Rep K (marks M0 A s) H v d) : RelS K H0 M0 A (σ.set i (some v)) H (s.set i (.ro d)) := by
  have sub : ∀ a, marks M0 A (s.set i (.ro d)) a → marks M0 A s a := fun a => marks_set_sub a
  refine ⟨by rw [List.length_set, List.length_set]; exact r.len, r.same, r.dm0, fun j k l l' a e e' => ?_, fun j p e => ?_, fun j d' e => ?_, r.tab⟩
  · exact r.injG j k l l' a (owAt_set rfl e).2 (owAt_set rfl e').2
  · obtain ⟨hj, e⟩ := owAt_set rfl e
    obtain ⟨f, u, h1, h2⟩ := r.ownG j p e
    exact ⟨f, u, by rw [List.getElem?_set_ne hj]; exact h1, p.weak h2 sub⟩
  · by_cases hj : i = j
    · subst hj
      have hl : i < s.length := by
        have := (List.getElem?_eq_some_iff.mp e).1
        rwa [List.length_set] at this
      rw [List.getElem?_set_self hl] at e
      cases e
      exact ⟨v, List.getElem?_set_self (by rw [r.len]; exact hl), Rep.weak sub _ _ q⟩
    · rw [List.getElem?_set_ne hj] at e
      obtain ⟨u, h1, h2⟩ := r.ro j d' e
      exact ⟨u, by rw [List.getElem?_set_ne hj]; exact h1, Rep.weak sub _ _ h2⟩
def setA (A : Nat → List Addr) (i : Nat) (ps : List Addr) : Nat → List Addr := fun j => if j = i then ps else A j
theorem setA_same {i : Nat} {p : List Addr} : setA A i p i = p := by unfold setA; rw [if_pos rfl]
theorem setA_ne {i j : Nat} {p : List Addr} (h : i ≠ j) : setA A i p j = A j := by unfold setA; rw [if_neg (fun z => h z.symm)]
theorem own_not_ro {x : Sl} {q : OP} (h : x.ow = some q) : ∀ d, x ≠ .ro d := fun d e => by rw [e] at h; cases h
/-- a new thing of the frame's own: the heap has grown -/
theorem RelS.setNew {i : Nat} {ps : List Addr} {v : V} {x : Sl} {q : OP} (r : RelS K H0 M0 A σ H s) (g : Same K H H1) (hx : x.ow = some q) (n : ∀ p ∈ ps, Fr H p) (rp : q.rep K (fun a => marks M0 A s a ∨ a ∈ ps) H1 ps v) :
    RelS K H0 M0 (setA A i ps) (σ.set i (some v)) H1 (s.set i x) ∧ ∀ a, marks M0 (setA A i ps) (s.set i x) a → marks M0 A s a ∨ a ∈ ps := by
  have sub : ∀ a, marks M0 (setA A i ps) (s.set i x) a → marks M0 A s a ∨ a ∈ ps := fun a h => by
    rcases h with h | ⟨j, p, e, ha⟩
    · exact .inl (.inl h)
    · by_cases hj : i = j
      · subst hj; rw [setA_same] at ha; exact .inr ha
      · rw [owAt_set_ne hj] at e
        rw [setA_ne hj] at ha
        exact .inl (.inr ⟨j, p, e, ha⟩)
  have ext : Ext (marks M0 A s) (fun a => marks M0 A s a ∨ a ∈ ps) H := ⟨fun a m => .inl m, fun a m => m.elim .inl fun z => .inr (n a z)⟩
  have nA : ∀ j p a, owAt s j = some p → a ∈ A j → a ∉ ps := fun j p a e ha z => by
    obtain ⟨_, u, _, h2⟩ := r.ownG j p e
    obtain ⟨o, eo, mu⟩ := p.dom h2 a ha
    exact n a z o eo (NT.of_mut mu)
  refine ⟨⟨by rw [List.length_set, List.length_set]; exact r.len, r.same.trans g, r.dm0.mono g, fun j k l1 l2 a e1 e2 a1 a2 => ?_, fun j p e => ?_, fun j d' e' => ?_, r.tab.same g⟩, sub⟩
  · by_cases hj : i = j
    · by_cases hk : i = k
      · exact hj.symm.trans hk
      · subst hj
        rw [owAt_set_ne hk] at e2
        rw [setA_same] at a1
        rw [setA_ne hk] at a2
        exact absurd a1 (nA k l2 a e2 a2)
    · rw [owAt_set_ne hj] at e1
      rw [setA_ne hj] at a1
      by_cases hk : i = k
      · subst hk
        rw [setA_same] at a2
        exact absurd a2 (nA j l1 a e1 a1)
      · rw [owAt_set_ne hk] at e2
        rw [setA_ne hk] at a2
        exact r.injG j k l1 l2 a e1 e2 a1 a2
  · by_cases hj : i = j
    · subst hj
      have hl : i < s.length := by
        have := owAt_lt e
        rwa [List.length_set] at this
      rw [owAt_set_self hl, hx] at e
      cases e
      rw [setA_same]
      exact ⟨fun a ha => ⟨r.same.free (n a ha), r.dm0.fresh (n a ha)⟩, v, List.getElem?_set_self (by rw [r.len]; exact hl), q.weak rp sub⟩
    · rw [owAt_set_ne hj] at e
      obtain ⟨f, u, h1, h2⟩ := r.ownG j p e
      rw [setA_ne hj]
      exact ⟨f, u, by rw [List.getElem?_set_ne hj]; exact h1, p.weak (OP.same (p.ext h2 ext) g) sub⟩
  · obtain ⟨hj, e'⟩ := get_set_ro (own_not_ro hx) e'
    obtain ⟨u, h1, h2⟩ := r.ro j d' e'
    exact ⟨u, by rw [List.getElem?_set_ne hj]; exact h1, Rep.weak sub _ _ ((Rep.ext ext _ _ h2).same g)⟩
theorem RelS.setOwn {i : Nat} {p : Addr} {vs : List V} {l : List D} (r : RelS K H0 M0 A σ H s) (g : Same K H H1) (n : Fr H p) (e : H1 p = some (.lst vs)) (q : RepAll K (mark (marks M0 A s) p) H1 vs l) :
    RelS K H0 M0 (setA A i [p]) (σ.set i (some (.ref p))) H1 (s.set i (.own l)) ∧ ∀ a, marks M0 (setA A i [p]) (s.set i (.own l)) a → marks M0 A s a ∨ a = p := by
  obtain ⟨r2, sub⟩ := r.setNew (i := i) (ps := [p]) (v := .ref p) (x := .own l) (q := lstOP l) g rfl (fun b hb => by rw [List.mem_singleton.mp hb]; exact n) ⟨p, vs, rfl, rfl, e, trivial, RepAll.weak (fun a m => m.elim .inl fun z => .inr (List.mem_singleton.mp z)) _ _ q⟩
  exact ⟨r2, fun a m => (sub a m).elim .inl fun z => .inr (List.mem_singleton.mp z)⟩
/-- the frame's own thing is changed: what it owns may grow -/
theorem RelS.changeW {i : Nat} {x : Sl} {q q' : OP} {ps : List Addr} {v : V} (r : RelS K H0 M0 A σ H s) (e : owAt s i = some q) (hx : x.ow = some q') (k : Keep K (fun a => a ∈ A i) H H1) (n : ∀ p ∈ ps, p ∈ A i ∨ Fr H p) (dmn : ∀ a, marks M0 A s a → ∃ o, H1 a = some o ∧ MutO o) (hv : σ[i]? = some (some v)) (rp : q'.rep K (marks M0 (setA A i ps) (s.set i x)) H1 ps v) :
    RelS K H0 M0 (setA A i ps) σ H1 (s.set i x) ∧ Frame K (marks M0 A s) H (marks M0 (setA A i ps) (s.set i x)) H1 := by
  have hl := owAt_lt e
  obtain ⟨f0, v0, _, rq⟩ := r.ownG i q e
  have kM : Keep K (marks M0 A s) H H1 := ⟨fun a o h nm t => k.app a o h (fun z => nm (.inr ⟨i, q, e, z⟩)) t, k.tab⟩
  have sub : ∀ a, marks M0 (setA A i ps) (s.set i x) a → marks M0 A s a ∨ a ∈ ps := fun a h => by
    rcases h with h | ⟨j, p, e', ha⟩
    · exact .inl (.inl h)
    · by_cases hj : i = j
      · subst hj; rw [setA_same] at ha; exact .inr ha
      · rw [owAt_set_ne hj] at e'
        rw [setA_ne hj] at ha
        exact .inl (.inr ⟨j, p, e', ha⟩)
  have sub2 : ∀ a, marks M0 A s a ∨ a ∈ ps → marks M0 A s a ∨ Fr H a := fun a m => m.elim .inl fun z => (n a z).elim (fun y => .inl (.inr ⟨i, q, e, y⟩)) .inr
  have ext : Ext (marks M0 A s) (fun a => marks M0 A s a ∨ a ∈ ps) H := ⟨fun a m => .inl m, sub2⟩
  have out : ∀ j p a, i ≠ j → owAt s j = some p → a ∈ A j → a ∉ ps := fun j p a hj e' ha z => by
    rcases n a z with y | y
    · exact hj (r.injG i j q p a e e' y ha)
    · obtain ⟨_, u, _, h2⟩ := r.ownG j p e'
      obtain ⟨o, eo, mu⟩ := p.dom h2 a ha
      exact y o eo (NT.of_mut mu)
  refine ⟨⟨by rw [List.length_set]; exact r.len, ⟨fun b o hb t => ?_, fun t => k.tab (r.same.tab t)⟩, fun a m => dmn a (.inl m), fun j k' l1 l2 a e1 e2 a1 a2 => ?_, fun j p e' => ?_, fun j d' e' => ?_, k.tab r.tab⟩, ⟨kM, fun a m => sub2 a (sub a m), dmn⟩⟩
  · refine k.app b o (r.same.app b o hb t) (fun z => ?_) t
    exact (f0 b z).1 o hb t
  · by_cases hj : i = j
    · by_cases hk : i = k'
      · exact hj.symm.trans hk
      · subst hj
        rw [owAt_set_ne hk] at e2
        rw [setA_same] at a1
        rw [setA_ne hk] at a2
        exact absurd a1 (out k' l2 a hk e2 a2)
    · rw [owAt_set_ne hj] at e1
      rw [setA_ne hj] at a1
      by_cases hk : i = k'
      · subst hk
        rw [setA_same] at a2
        exact absurd a2 (out j l1 a hj e1 a1)
      · rw [owAt_set_ne hk] at e2
        rw [setA_ne hk] at a2
        exact r.injG j k' l1 l2 a e1 e2 a1 a2
  · by_cases hj : i = j
    · subst hj
      rw [owAt_set_self hl, hx] at e'
      cases e'
      rw [setA_same]
      refine ⟨fun a ha => ?_, v, hv, rp⟩
      rcases n a ha with y | y
      · exact f0 a y
      · exact ⟨r.same.free y, r.dm0.fresh y⟩
    · rw [owAt_set_ne hj] at e'
      obtain ⟨f, u, h1, h2⟩ := r.ownG j p e'
      rw [setA_ne hj]
      refine ⟨f, u, h1, p.weak (p.keep (p.ext h2 ext) ⟨fun a o h nm t => k.app a o h (fun z => nm (.inl (.inr ⟨i, q, e, z⟩))) t, k.tab⟩ fun a ha => ?_) sub⟩
      obtain ⟨o, eo, mu⟩ := p.dom h2 a ha
      rw [eo]
      exact k.app a o eo (fun z => hj (r.injG i j q p a e e' z ha)) (NT.of_mut mu)
  · obtain ⟨hj, e'⟩ := get_set_ro (own_not_ro hx) e'
    obtain ⟨u, h1, h2⟩ := r.ro j d' e'
    exact ⟨u, h1, Rep.weak sub _ _ (Rep.keep ⟨fun a o h nm t => k.app a o h (fun z => nm (.inl (.inr ⟨i, q, e, z⟩))) t, k.tab⟩ _ _ (Rep.ext ext _ _ h2))⟩
theorem RelS.change {i : Nat} {x : Sl} {q q' : OP} {ps : List Addr} {v : V} (r : RelS K H0 M0 A σ H s) (e : owAt s i = some q) (hx : x.ow = some q') (k : Keep K (fun a => a ∈ A i) H H1) (n : ∀ p ∈ ps, p ∈ A i ∨ Fr H p) (dmn : ∀ a, marks M0 A s a → ∃ o, H1 a = some o ∧ MutO o) (hv : σ[i]? = some (some v)) (rp : q'.rep K (fun a => marks M0 A s a ∨ a ∈ ps) H1 ps v) :
    RelS K H0 M0 (setA A i ps) σ H1 (s.set i x) ∧ Frame K (marks M0 A s) H (marks M0 (setA A i ps) (s.set i x)) H1 :=
  r.changeW e hx k n dmn hv (q'.weak rp fun a h => by
    rcases h with h | ⟨j, p, e', ha⟩
    · exact .inl (.inl h)
    · by_cases hj : i = j
      · subst hj; rw [setA_same] at ha; exact .inr ha
      · rw [owAt_set_ne hj] at e'
        rw [setA_ne hj] at ha
        exact .inl (.inr ⟨j, p, e', ha⟩))
/-- several of the frame's own things are changed: what they own may grow, or pass from one to another -/
theorem RelS.changeG {I : Nat → Prop} {A' : Nat → List Addr} {s' : SE} (r : RelS K H0 M0 A σ H s) (hl : s'.length = s.length) (hA : ∀ j, ¬ I j → A' j = A j ∧ s'[j]? = s[j]?) (hI : ∀ j, I j → (∃ q, owAt s j = some q) ∧ ∃ q', owAt s' j = some q')
    (k : Keep K (fun a => ∃ i, I i ∧ a ∈ A i) H H1) (n : ∀ i, I i → ∀ p ∈ A' i, (∃ j, I j ∧ p ∈ A j) ∨ Fr H p) (inj : ∀ i j, I i → I j → ∀ a, a ∈ A' i → a ∈ A' j → i = j) (dmn : ∀ a, marks M0 A s a → ∃ o, H1 a = some o ∧ MutO o)
    (rp : ∀ i q', I i → owAt s' i = some q' → ∃ v, σ[i]? = some (some v) ∧ q'.rep K (marks M0 A' s') H1 (A' i) v) :
    RelS K H0 M0 A' σ H1 s' ∧ Frame K (marks M0 A s) H (marks M0 A' s') H1 := by
  have mI : ∀ a i, I i → a ∈ A i → marks M0 A s a := fun a i hi ha => by
    obtain ⟨⟨q, e⟩, _⟩ := hI i hi
    exact .inr ⟨i, q, e, ha⟩
  have kM : Keep K (marks M0 A s) H H1 := ⟨fun a o h nm t => k.app a o h (fun ⟨i, hi, z⟩ => nm (mI a i hi z)) t, k.tab⟩
  have ow : ∀ j, ¬ I j → owAt s' j = owAt s j := fun j hj => by unfold owAt; rw [(hA j hj).2]
  have sub : ∀ a, marks M0 A' s' a → marks M0 A s a ∨ ∃ j, I j ∧ a ∈ A' j := fun a h => by
    rcases h with h | ⟨j, p, e', ha⟩
    · exact .inl (.inl h)
    · by_cases hj : I j
      · exact .inr ⟨j, hj, ha⟩
      · rw [ow j hj] at e'
        rw [(hA j hj).1] at ha
        exact .inl (.inr ⟨j, p, e', ha⟩)
  have sub2 : ∀ a, (marks M0 A s a ∨ ∃ j, I j ∧ a ∈ A' j) → marks M0 A s a ∨ Fr H a := fun a m => by
    rcases m with m | ⟨j, hj, ha⟩
    · exact .inl m
    · rcases n j hj a ha with ⟨i, hi, z⟩ | z
      · exact .inl (mI a i hi z)
      · exact .inr z
  have ext : Ext (marks M0 A s) (fun a => marks M0 A s a ∨ ∃ j, I j ∧ a ∈ A' j) H := ⟨fun a m => .inl m, sub2⟩
  have out : ∀ j p a, ¬ I j → owAt s j = some p → a ∈ A j → ∀ i, I i → a ∉ A' i := fun j p a hj e' ha i hi z => by
    rcases n i hi a z with ⟨i', hi', y⟩ | y
    · obtain ⟨⟨q, e⟩, _⟩ := hI i' hi'
      have := r.injG i' j q p a e e' y ha
      exact hj (this ▸ hi')
    · obtain ⟨_, u, _, h2⟩ := r.ownG j p e'
      obtain ⟨o, eo, mu⟩ := p.dom h2 a ha
      exact y o eo (NT.of_mut mu)
  have k2 : Keep K (fun a => marks M0 A s a ∨ ∃ j, I j ∧ a ∈ A' j) H H1 := ⟨fun a o h nm t => k.app a o h (fun ⟨i, hi, z⟩ => nm (.inl (mI a i hi z))) t, k.tab⟩
  refine ⟨⟨by rw [hl]; exact r.len, ⟨fun b o hb t => ?_, fun t => k.tab (r.same.tab t)⟩, fun a m => dmn a (.inl m), fun j k' l1 l2 a e1 e2 a1 a2 => ?_, fun j p e' => ?_, fun j d' e' => ?_, k.tab r.tab⟩, ⟨kM, fun a m => sub2 a (sub a m), dmn⟩⟩
  · refine k.app b o (r.same.app b o hb t) (fun ⟨i, hi, z⟩ => ?_) t
    obtain ⟨⟨q, e⟩, _⟩ := hI i hi
    obtain ⟨f0, _⟩ := r.ownG i q e
    exact (f0 b z).1 o hb t
  · by_cases hj : I j
    · by_cases hk : I k'
      · exact inj j k' hj hk a a1 a2
      · rw [ow k' hk] at e2
        rw [(hA k' hk).1] at a2
        exact absurd a1 (out k' l2 a hk e2 a2 j hj)
    · rw [ow j hj] at e1
      rw [(hA j hj).1] at a1
      by_cases hk : I k'
      · exact absurd a2 (out j l1 a hj e1 a1 k' hk)
      · rw [ow k' hk] at e2
        rw [(hA k' hk).1] at a2
        exact r.injG j k' l1 l2 a e1 e2 a1 a2
  · by_cases hj : I j
    · obtain ⟨v, hv, h2⟩ := rp j p hj e'
      refine ⟨fun a ha => ?_, v, hv, h2⟩
      rcases n j hj a ha with ⟨i, hi, y⟩ | y
      · obtain ⟨⟨q, e⟩, _⟩ := hI i hi
        exact (r.ownG i q e).1 a y
      · exact ⟨r.same.free y, r.dm0.fresh y⟩
    · rw [ow j hj] at e'
      obtain ⟨f, u, h1, h2⟩ := r.ownG j p e'
      rw [(hA j hj).1]
      refine ⟨f, u, h1, p.weak (p.keep (p.ext h2 ext) k2 fun a ha => ?_) sub⟩
      obtain ⟨o, eo, mu⟩ := p.dom h2 a ha
      rw [eo]
      refine k.app a o eo (fun ⟨i, hi, z⟩ => ?_) (NT.of_mut mu)
      obtain ⟨⟨q, e⟩, _⟩ := hI i hi
      have := r.injG i j q p a e e' z ha
      exact hj (this ▸ hi)
  · by_cases hj : I j
    · obtain ⟨_, q', e2⟩ := hI j hj
      unfold owAt at e2
      rw [e'] at e2
      cases e2
    · rw [(hA j hj).2] at e'
      obtain ⟨u, h1, h2⟩ := r.ro j d' e'
      exact ⟨u, h1, Rep.weak sub _ _ (Rep.keep k2 _ _ (Rep.ext ext _ _ h2))⟩
/-- one object of it is changed -/
theorem RelS.change1 {i : Nat} {x : Sl} {q q' : OP} {a : Addr} {o o' : HO} (r : RelS K H0 M0 A σ H s) (e : owAt s i = some q) (eA : A i = [a]) (ho : H a = some o) (mo : MutO o) (mo' : MutO o') (hx : x.ow = some q') (hv : σ[i]? = some (some (.ref a))) (rp : q'.rep K (marks M0 A s) (L2.upd H a o') [a] (.ref a)) :
    RelS K H0 M0 A σ (L2.upd H a o') (s.set i x) ∧ Frame K (marks M0 A s) H (marks M0 A (s.set i x)) (L2.upd H a o') := by
  have ma : a ∈ A i := by rw [eA]; exact List.mem_cons_self
  have hm : marks M0 A s a := .inr ⟨i, q, e, ma⟩
  have k : Keep K (fun b => b ∈ A i) H (L2.upd H a o') := keep_upd (M := fun b => b ∈ A i) ma ho mo
  have z := r.change (x := x) (q' := q') (ps := [a]) (v := .ref a) e hx k (fun p hp => .inl (by rw [eA]; exact hp)) (r.dm.upd mo') hv (q'.weak rp fun b m => m.elim (fun y => y) fun y => by rw [List.mem_singleton.mp y]; exact hm)
  have eS : setA A i [a] = A := by
    funext j
    by_cases hj : i = j
    · subst hj; rw [setA_same, eA]
    · rw [setA_ne hj]
  rw [eS] at z
  exact z
theorem marks_same {i : Nat} {x : Sl} {q q' : OP} (e : owAt s i = some q) (hx : x.ow = some q') (a : Addr) : marks M0 A (s.set i x) a ↔ marks M0 A s a := by
  have hl := owAt_lt e
  constructor
  · rintro (h | ⟨j, k, e', ha⟩)
    · exact .inl h
    · by_cases hj : i = j
      · subst hj; exact .inr ⟨i, q, e, ha⟩
      · rw [owAt_set_ne hj] at e'; exact .inr ⟨j, k, e', ha⟩
  · rintro (h | ⟨j, k, e', ha⟩)
    · exact .inl h
    · by_cases hj : i = j
      · subst hj; exact .inr ⟨i, q', by rw [owAt_set_self hl]; exact hx, ha⟩
      · exact .inr ⟨j, k, by rw [owAt_set_ne hj]; exact e', ha⟩
theorem marks_own {i : Nat} {l l' : List D} (e : s[i]? = some (.own l)) (a : Addr) : marks M0 A (s.set i (.own l')) a ↔ marks M0 A s a := marks_same (owAt_own e) rfl a
/-- the frame's own list is changed -/
theorem RelS.upd {i : Nat} {l l' : List D} {vs : List V} {a : Addr} (r : RelS K H0 M0 A σ H s) (e : s[i]? = some (.own l)) (eA : A i = [a]) (q : RepAll K (marks M0 A s) H vs l') :
    RelS K H0 M0 A σ (L2.upd H a (.lst vs)) (s.set i (.own l')) ∧ Frame K (marks M0 A s) H (marks M0 A (s.set i (.own l'))) (L2.upd H a (.lst vs)) := by
  obtain ⟨b, eA', h0, hm0, h1, us, h2, h3⟩ := r.ownL i l e
  obtain rfl : a = b := by rw [eA] at eA'; exact (List.cons.inj eA').1
  have hm : marks M0 A s a := .inr ⟨i, _, owAt_own e, by rw [eA]; exact List.mem_cons_self⟩
  have k : Keep K (marks M0 A s) H (L2.upd H a (.lst vs)) := keep_upd hm h2 trivial
  exact r.change1 (x := .own l') (q' := lstOP l') (owAt_own e) eA h2 trivial trivial rfl h1 ⟨a, vs, rfl, rfl, upd_same, trivial, RepAll.keep k _ _ q⟩
/-- it is the frame's own no more -/
theorem RelS.thaw {i : Nat} {q : OP} {d : D} {v : V} (r : RelS K H0 M0 A σ H s) (e : owAt s i = some q) (hv : σ[i]? = some (some v)) (rp : ∀ M', (∀ a, M' a → marks M0 A s a) → (∀ a ∈ A i, ¬ M' a) → Rep K M' H v d) : RelS K H0 M0 A σ H (s.set i (.ro d)) := by
  obtain ⟨f, _, _, rq⟩ := r.ownG i q e
  have hl := owAt_lt e
  have sub : ∀ a, marks M0 A (s.set i (.ro d)) a → marks M0 A s a := fun a => marks_set_sub a
  have nm : ∀ a ∈ A i, ¬ marks M0 A (s.set i (.ro d)) a := fun a ha => by
    rintro (m | ⟨j, k, e', hb⟩)
    · exact (f a ha).2 m
    · obtain ⟨hj, e'⟩ := owAt_set rfl e'
      exact hj (r.injG i j _ _ a e e' ha hb)
  refine ⟨by rw [List.length_set]; exact r.len, r.same, r.dm0, fun j k l1 l2 a e1 e2 => ?_, fun j p e' => ?_, fun j d' e' => ?_, r.tab⟩
  · exact r.injG j k l1 l2 a (owAt_set rfl e1).2 (owAt_set rfl e2).2
  · obtain ⟨hj, e'⟩ := owAt_set rfl e'
    obtain ⟨g, u, h1, h2⟩ := r.ownG j p e'
    exact ⟨g, u, h1, p.weak h2 sub⟩
  · by_cases hj : i = j
    · subst hj
      rw [List.getElem?_set_self hl] at e'
      cases e'
      exact ⟨v, hv, rp _ sub nm⟩
    · rw [List.getElem?_set_ne hj] at e'
      obtain ⟨u, h1, h2⟩ := r.ro j d' e'
      exact ⟨u, h1, Rep.weak sub _ _ h2⟩
theorem RelS.freeze {i : Nat} {l : List D} (r : RelS K H0 M0 A σ H s) (e : s[i]? = some (.own l)) : RelS K H0 M0 A σ H (s.set i (.ro (.lst l))) := by
  obtain ⟨a, eA, h0, hm0, h1, vs, h2, h3⟩ := r.ownL i l e
  exact r.thaw (owAt_own e) h1 fun M' sub nm => .lst h2 (nm a (by rw [eA]; exact List.mem_cons_self)) (RepAll.weak sub _ _ h3)
theorem RelS.freezeD {i : Nat} {d : D} (r : RelS K H0 M0 A σ H s) (e : s[i]? = some (.odt d)) : RelS K H0 M0 A σ H (s.set i (.ro d)) := by
  obtain ⟨f, v, h1, rp⟩ := r.ownG i _ (owAt_of e rfl)
  refine r.thaw (owAt_of e rfl) h1 fun M' sub nm => ?_
  cases d with
  | dct ks l =>
    obtain ⟨a, vs, eA, rfl, h2, hk, h3⟩ := rp
    exact .dct (.inl h2) hk (nm a (by rw [eA]; exact List.mem_cons_self)) (RepAll.weak sub _ _ h3)
  | dcT ks l =>
    obtain ⟨a, vs, eA, rfl, h2, hk, h3⟩ := rp
    exact .dcT (.inl h2) hk (nm a (by rw [eA]; exact List.mem_cons_self)) (RepAll.weak sub _ _ h3)
  | _ => exact rp.elim
theorem RelS.freezeT {i : Nat} {p : Option Addr} {o : OD} (r : RelS K H0 M0 A σ H s) (e : s[i]? = some (.tre p o)) : RelS K H0 M0 A σ H (s.set i (.ro o.d)) := by
  obtain ⟨f, v, h1, rp⟩ := r.ownG i _ (owAt_of e rfl)
  exact r.thaw (owAt_of e rfl) h1 fun M' sub nm => Own.rep sub o rp.2.1 nm
/-- a list that waits to be the frame's own -/
theorem RelS.pend {P : List Addr} (r : RelS K H0 M0 A σ H s) (g : Same K H H1) (n : ∀ p ∈ P, Fr H p) (d : ∀ p ∈ P, ∃ o, H1 p = some o ∧ MutO o) : RelS K H0 (fun a => M0 a ∨ a ∈ P) A σ H1 s := by
  have ext : Ext (marks M0 A s) (marks (fun a => M0 a ∨ a ∈ P) A s) H := ⟨fun a m => m.elim (fun z => .inl (.inl z)) .inr, fun a m => by
    rcases m with (m | m) | m
    · exact .inl (.inl m)
    · exact .inr (n a m)
    · exact .inl (.inr m)⟩
  refine ⟨r.len, r.same.trans g, fun a m => m.elim (r.dm0.mono g a) (d a), r.injG, fun i q e => ?_, fun i d e => ?_, r.tab.same g⟩
  · obtain ⟨f, v, h1, h2⟩ := r.ownG i q e
    refine ⟨fun a ha => ⟨(f a ha).1, fun m => m.elim (f a ha).2 fun z => ?_⟩, v, h1, OP.same (q.ext h2 ext) g⟩
    obtain ⟨o, eo, mu⟩ := q.dom h2 a ha
    exact n _ z o eo (NT.of_mut mu)
  · obtain ⟨v, h1, h2⟩ := r.ro i d e
    exact ⟨v, h1, (Rep.ext ext _ _ h2).same g⟩
theorem RelS.takeP {P : List Addr} {i : Nat} {p : Addr} {vs : List V} {l : List D} (r : RelS K H0 (fun a => M0 a ∨ a ∈ p :: P) A σ H s) (np : p ∉ P) (n0 : Fr H0 p) (nm : ¬ M0 p) (e : H p = some (.lst vs)) (q : RepAll K (marks (fun a => M0 a ∨ a ∈ p :: P) A s) H vs l) :
    RelS K H0 (fun a => M0 a ∨ a ∈ P) (setA A i [p]) (σ.set i (some (.ref p))) H (s.set i (.own l)) ∧ ∀ a, marks (fun a => M0 a ∨ a ∈ P) (setA A i [p]) (s.set i (.own l)) a → marks (fun a => M0 a ∨ a ∈ p :: P) A s a := by
  have sub : ∀ a, marks (fun a => M0 a ∨ a ∈ P) (setA A i [p]) (s.set i (.own l)) a → marks (fun a => M0 a ∨ a ∈ p :: P) A s a := fun a h => by
    rcases h with (h | h) | ⟨j, l', e', ha⟩
    · exact .inl (.inl h)
    · exact .inl (.inr (List.mem_cons_of_mem _ h))
    · by_cases hj : i = j
      · subst hj; rw [setA_same] at ha; rw [List.mem_singleton.mp ha]; exact .inl (.inr List.mem_cons_self)
      · rw [owAt_set_ne hj] at e'
        rw [setA_ne hj] at ha
        exact .inr ⟨j, l', e', ha⟩
  have nA : ∀ j l', owAt s j = some l' → p ∉ A j := fun j l' e' z => by
    obtain ⟨f, _⟩ := r.ownG j l' e'
    exact (f p z).2 (.inr List.mem_cons_self)
  refine ⟨⟨by rw [List.length_set, List.length_set]; exact r.len, r.same, fun a m => r.dm0 a (m.elim .inl fun z => .inr (List.mem_cons_of_mem _ z)), fun j k l1 l2 a e1 e2 a1 a2 => ?_, fun j l' e' => ?_, fun j d' e' => ?_, r.tab⟩, sub⟩
  · by_cases hj : i = j
    · by_cases hk : i = k
      · exact hj.symm.trans hk
      · subst hj
        rw [owAt_set_ne hk] at e2
        rw [setA_same] at a1
        rw [setA_ne hk] at a2
        rw [List.mem_singleton.mp a1] at a2
        exact absurd a2 (nA k l2 e2)
    · rw [owAt_set_ne hj] at e1
      rw [setA_ne hj] at a1
      by_cases hk : i = k
      · subst hk
        rw [setA_same] at a2
        rw [List.mem_singleton.mp a2] at a1
        exact absurd a1 (nA j l1 e1)
      · rw [owAt_set_ne hk] at e2
        rw [setA_ne hk] at a2
        exact r.injG j k l1 l2 a e1 e2 a1 a2
  · by_cases hj : i = j
    · subst hj
      have hl : i < s.length := by
        have := owAt_lt e'
        rwa [List.length_set] at this
      rw [owAt_set_self hl] at e'
      cases e'
      rw [setA_same]
      refine ⟨fun a ha => ?_, .ref p, List.getElem?_set_self (by rw [r.len]; exact hl), p, vs, rfl, rfl, e, trivial, RepAll.weak sub _ _ q⟩
      rw [List.mem_singleton.mp ha]
      exact ⟨n0, fun m => m.elim nm np⟩
    · rw [owAt_set_ne hj] at e'
      obtain ⟨f, u, h1, h2⟩ := r.ownG j l' e'
      rw [setA_ne hj]
      exact ⟨fun a ha => ⟨(f a ha).1, fun m => (f a ha).2 (m.elim .inl fun z => .inr (List.mem_cons_of_mem _ z))⟩, u, by rw [List.getElem?_set_ne hj]; exact h1, l'.weak h2 sub⟩
  · obtain ⟨hj, e'⟩ := get_set_ro (own_not_ro (x := .own l) (q := lstOP l) rfl) e'
    obtain ⟨u, h1, h2⟩ := r.ro j d' e'
    exact ⟨u, by rw [List.getElem?_set_ne hj]; exact h1, Rep.weak sub _ _ h2⟩
theorem RelS.unP (r : RelS K H0 (fun a => M0 a ∨ a ∈ ([] : List Addr)) A σ H s) : RelS K H0 M0 A σ H s := by
  have sub : ∀ a, marks M0 A s a → marks (fun a => M0 a ∨ a ∈ ([] : List Addr)) A s a := fun a m => m.elim (fun z => .inl (.inl z)) .inr
  exact ⟨r.len, r.same, fun a m => r.dm0 a (.inl m), r.injG, fun i l e => by
    obtain ⟨f, v, h1, h2⟩ := r.ownG i l e
    exact ⟨fun a ha => ⟨(f a ha).1, fun m => (f a ha).2 (.inl m)⟩, v, h1, l.weak h2 sub⟩, fun i d e => by
    obtain ⟨v, h1, h2⟩ := r.ro i d e
    exact ⟨v, h1, Rep.weak sub _ _ h2⟩, r.tab⟩
end
end PL

namespace PL
open PySem PySem.Spec PyProof.Rows L2

/-! ## statements -/
inductive Out where
  | nx (s : SE) | rt (d : D) | exc (c : Str) | stuck
/-- a statement read by a rule of its own -/
structure AtomS where
  chk : List Str → Scope → Stmt → Bool
  run : SE → Out
mutual
inductive S where
  | nil
  | cons (a : S1) (r : S)
  | frz (i : Nat) (r : S)
inductive S1 where
  | set (h : Bool) (i : Nat) (e : E)
  | own (h : Bool) (i : Nat) (e : E)
  | unp (h : Bool) (is : List Nat) (e : E)
  | par (h : Bool) (ts : List (Bool × Nat)) (as : EL)
  | expr (e : E)
  | app (h : Bool) (i : Nat) (e : E)
  | extd (h : Bool) (i : Nat) (e : E)
  | six (h : Bool) (i : Nat) (x e : E)
  | pop (i : Nat)
  | ret (e : E)
  | ite (c : E) (a b : S)
  | for_ (tg : Tg) (it : IT) (b : S)
  | while_ (n : Nat) (c : E) (b : S)
  | raise (c : Str)
  | never
  | atom (q : AtomS)
end
def outE {α : Type} : Res α → (α → Out) → Out
  | .ok a, f => f a
  | .exc c, _ => .exc c
  | .stuck, _ => .stuck
def seqO : Out → (SE → Out) → Out
  | .nx s, f => f s
  | .rt d, _ => .rt d
  | .exc c, _ => .exc c
  | .stuck, _ => .stuck
def setAllS : List Nat → List D → SE → Option SE
  | [], [], s => some s
  | i :: is, d :: ds, s => setAllS is ds (s.set i (.ro d))
  | _, _, _ => none
def setTgS : Tg → D → SE → Option SE
  | .name i, d, s => some (s.set i (.ro d))
  | .tup is, .tup ds, s => setAllS is ds s
  | .pr i is, .tup [d, .tup ds], s => setAllS is ds (s.set i (.ro d))
  | _, _, _ => none
def ofS : Option SE → Out
  | some s => .nx s
  | none => .stuck
def forM (f : SE → Out) (tg : Tg) : List D → SE → Out
  | [], s => .nx s
  | d :: ds, s => match setTgS tg d s with
    | some s1 => seqO (f s1) (forM f tg ds)
    | none => .stuck
def whileM (c : SE → Res Bool) (f : SE → Out) : Nat → SE → Out
  | 0, _ => .stuck
  | n + 1, s => outE (c s) fun t => if t then seqO (f s) (whileM c f n) else .nx s
def parS (h : Bool) : List (Bool × Nat) → List D → SE → Out
  | [], [], s => .nx s
  | (false, i) :: ts, d :: ds, s => if okFor h d then parS h ts ds (s.set i (.ro d)) else .stuck
  | (true, i) :: ts, .lst l :: ds, s => if h || flatAll l then parS h ts ds (s.set i (.own l)) else .stuck
  | _, _, _ => .stuck
def ownS (h : Bool) (i : Nat) (s : SE) : D → Out
  | .lst l => if h || flatAll l then .nx (s.set i (.own l)) else .stuck
  | _ => .stuck
def unpS (h : Bool) (is : List Nat) (s : SE) : D → Out
  | .tup ds => if h || flatAll ds then ofS (setAllS is ds s) else .stuck
  | .lst ds => if h || flatAll ds then ofS (setAllS is ds s) else .stuck
  | _ => .stuck
def appD (h : Bool) (i : Nat) (s : SE) (l : List D) (d : D) : Out := if okFor h d && decide (l.length < sizeD) then .nx (s.set i (.own (l ++ [d]))) else .stuck
def extD (h : Bool) (i : Nat) (s : SE) (l : List D) : D → Out
  | .lst es => if (h || flatAll es) && decide (l.length + es.length < sizeD) then .nx (s.set i (.own (l ++ es))) else .stuck
  | _ => .stuck
def sixD (h : Bool) (i : Nat) (s : SE) (l : List D) (d : D) : D → Out
  | .int k => match ixN l.length k with
    | some j => if okFor h d then .nx (s.set i (.own (l.set j d))) else .stuck
    | none => .stuck
  | _ => .stuck
/-- the frame's own list at a slot -/
def withOwn (s : SE) (i : Nat) (f : List D → Out) : Out := match s[i]? with
  | some (.own l) => f l
  | _ => .stuck
def popD (i : Nat) (s : SE) (l : List D) : Out := if l.isEmpty then .stuck else .nx (s.set i (.own l.dropLast))
mutual
def run : S → SE → Out
  | .nil, s => .nx s
  | .cons a r, s => seqO (run1 a s) (fun s => run r s)
  | .frz i r, s => match s[i]? with | some (.own l) => run r (s.set i (.ro (.lst l))) | some (.odt d) => run r (s.set i (.ro d)) | some (.tre _ o) => run r (s.set i (.ro o.d)) | _ => run r s
def run1 : S1 → SE → Out
  | .set h i e, s => outE (ev e (see h s)) fun d => if okFor h d then .nx (s.set i (.ro d)) else .stuck
  | .own h i e, s => outE (ev e (see h s)) fun d => ownS h i s d
  | .unp h is e, s => outE (ev e (see h s)) fun d => unpS h is s d
  | .par h ts as, s => outE (noExc (evL as (see h s))) fun ds => parS h ts ds s
  | .expr e, s => outE (ev e (full s)) fun _ => .nx s
  | .app h i e, s => withOwn s i fun l => outE (ev e (see h s)) fun d => appD h i s l d
  | .extd h i e, s => withOwn s i fun l => outE (ev e (see h s)) fun d => extD h i s l d
  | .six h i x e, s => withOwn s i fun l => outE (ev e (see h s)) fun d => outE (noExc (ev x (full s))) fun k => sixD h i s l d k
  | .pop i, s => withOwn s i fun l => popD i s l
  | .ret e, s => outE (ev e (full s)) fun d => .rt d
  | .ite c a b, s => outE ((ev c (full s)).bind truth) fun t => if t then run a s else run b s
  | .for_ tg it b, s => outE (evI it (hid s)) fun ds => forM (fun s => run b s) tg ds s
  | .while_ n c b, s => whileM (fun s => (ev c (full s)).bind truth) (fun s => run b s) n s
  | .raise c, _ => .exc c
  | .never, _ => .stuck
  | .atom q, s => q.run s
end
/-! ### their text -/
def isComp : E → Bool
  | .comp _ _ _ _ _ => true
  | _ => false
def notComp : Expr → Bool
  | .ListComp _ _ _ _ => false | .SetComp _ _ _ _ => false | .DictComp _ _ _ _ _ => false
  | _ => true
def notTup : Expr → Bool
  | .Tuple _ _ _ => false
  | _ => true
def lclB (sc : Scope) (x : Str) : Bool := match sc.names.lookup x with | some .local => true | _ => false
def nameOf : Expr → Option (Str × Pos)
  | .Name x p => some (x, p)
  | _ => none
/-- two or three plain local names on one line, stored from the right -/
def swapB (sc : Scope) (ts vs : List Expr) : Bool :=
  match ts with
  | [.Name x p, .Name y q] => lclB sc x && lclB sc y && (p.line == q.line) && !(x == y) && !(vs.all (foldedForSure 8)) && !(vs.all (constantsAlone 8)) && vs.all notStar && decide (vs.length = 2)
  | [.Name x p, .Name y q, .Name z r] => lclB sc x && lclB sc y && lclB sc z && (p.line == q.line) && (p.line == r.line) && !(x == y) && !(x == z) && !(y == z) && !(vs.all (foldedForSure 8)) && !(vs.all (constantsAlone 8)) && vs.all notStar && decide (vs.length = 3)
  | _ => false
/-- the stores go from the left -/
def noLcl (sc : Scope) : Expr → Bool
  | .Name x _ => !lclB sc x
  | _ => true
def noSwapB (sc : Scope) (ts vs : List Expr) : Bool := vs.all (foldedForSure 8) || !(ts.length == 2 || ts.length == 3) || ts.any (noLcl sc)
def parOk : List (Bool × Nat) → EL → Bool
  | [], .nil => true
  | (b, _) :: ts, .cons e r => (!b || freshE e) && parOk ts r
  | _, _ => false
def asName : Stmt → Option (Str × Pos × Expr)
  | .Assign [.Name x p] v _ => some (x, p, v)
  | _ => none
def asTup : Stmt → Option (List Expr × Expr)
  | .Assign [.Tuple ts _ _] v _ => some (ts, v)
  | _ => none
def asSub : Stmt → Option (Str × Pos × Expr × Expr)
  | .Assign [.Subscript (.Name x p) y _] v _ => some (x, p, y, v)
  | _ => none
def asMeth : Stmt → Option (Str × Pos × Str × Pos × List Expr × Pos)
  | .Expr (.Call (.Attribute (.Name x p) m ap) as [] cp) _ => some (x, p, m, ap, as, cp)
  | _ => none
def asExpr : Stmt → Option Expr
  | .Expr v _ => some v
  | _ => none
def asRet : Stmt → Option Expr
  | .Return (some v) _ => some v
  | _ => none
def asIf : Stmt → Option (Expr × List Stmt × List Stmt)
  | .If c a b _ => some (c, a, b)
  | _ => none
def asFor : Stmt → Option (Expr × Expr × List Stmt)
  | .For t i b [] _ => some (t, i, b)
  | _ => none
def asWhile : Stmt → Option (Expr × List Stmt)
  | .While c b [] _ => some (c, b)
  | _ => none
def asRaise : Stmt → Option Str
  | .Raise (some (.Call (.Name x _) [.Constant (.str _) _ _] [] _)) none _ => some x
  | _ => none
def tupE : Expr → Option (List Expr)
  | .Tuple vs _ _ => some vs
  | _ => none
def notSlice : Expr → Bool
  | .Slice _ _ _ _ => false
  | _ => true
def chkV (N : List Str) (sc : Scope) (i : Nat) (x : Str) : Bool := decide (N[i]? = some x) && visB sc x && okName x
def chkM (N : List Str) (sc : Scope) (i : Nat) (e : E) (name : Str) (st : Stmt) : Bool := match asMeth st with
  | some (x, _, m, ap, [v], cp) => chkV N sc i x && decide (m = name) && chk N sc e v && notStar v && (ap.endLine == cp.line)
  | _ => false
def oB {α : Type} (o : Option α) (f : α → Bool) : Bool := match o with | some a => f a | none => false
mutual
def chkS (N : List Str) (sc : Scope) : S → List Stmt → Bool
  | .nil, [] => true
  | .cons a r, st :: sts => chkS1 N sc a st && chkS N sc r sts
  | .frz _ r, sts => chkS N sc r sts
  | _, _ => false
def chkS1 (N : List Str) (sc : Scope) : S1 → Stmt → Bool
  | .set _ i e, st => oB (asName st) fun t => chkNm N sc i (.Name t.1 t.2.1) && chk N sc e t.2.2 && (isComp e || notComp t.2.2)
  | .own _ i e, st => oB (asName st) fun t => chkNm N sc i (.Name t.1 t.2.1) && chk N sc e t.2.2 && (isComp e || notComp t.2.2) && freshE e
  | .unp _ is e, st => oB (asTup st) fun t => chkNms N sc is t.1 && chk N sc e t.2 && notTup t.2
  | .par _ ts as, st => oB (asTup st) fun t => oB (tupE t.2) fun vs => chkNms N sc (ts.map fun x => x.2) t.1 && chkL N sc as vs && parOk ts as && decide ((ts.map fun x => x.2).Nodup) && (swapB sc t.1 vs || noSwapB sc t.1 vs) && decide (ts.length ≤ 1000)
  | .expr e, st => oB (asExpr st) fun v => chk N sc e v && notComp v
  | .app _ i e, st => chkM N sc i e "append" st
  | .extd _ i e, st => chkM N sc i e "extend" st
  | .six _ i ix e, st => oB (asSub st) fun t => chkV N sc i t.1 && chk N sc ix t.2.2.1 && chk N sc e t.2.2.2 && notSlice t.2.2.1
  | .pop i, st => oB (asMeth st) fun t => chkV N sc i t.1 && decide (t.2.2.1 = "pop") && (t.2.2.2.1.endLine == t.2.2.2.2.2.line) && t.2.2.2.2.1.isEmpty
  | .ret e, st => oB (asRet st) fun v => chk N sc e v
  | .ite c a b, st => oB (asIf st) fun t => chk N sc c t.1 && chkS N sc a t.2.1 && chkS N sc b t.2.2
  | .for_ tg it b, st => oB (asFor st) fun t => chkTg N sc tg t.1 && chkI N sc it t.1 t.2.1 && chkS N sc b t.2.2
  | .while_ _ c b, st => oB (asWhile st) fun t => chk N sc c t.1 && chkS N sc b t.2
  | .raise c, st => oB (asRaise st) fun x => decide (c = x) && glB sc x && okName x
  | .never, _ => true
  | .atom q, st => q.chk N sc st
end
theorem asName_eq {st : Stmt} {x : Str} {p : Pos} {v : Expr} (h : asName st = some (x, p, v)) : ∃ pos, st = .Assign [.Name x p] v pos := by
  unfold asName at h
  split at h
  · cases h; exact ⟨_, rfl⟩
  · cases h
theorem asTup_eq {st : Stmt} {ts : List Expr} {v : Expr} (h : asTup st = some (ts, v)) : ∃ k p pos, st = .Assign [.Tuple ts k p] v pos := by
  unfold asTup at h
  split at h
  · cases h; exact ⟨_, _, _, rfl⟩
  · cases h
theorem asSub_eq {st : Stmt} {x : Str} {p : Pos} {y v : Expr} (h : asSub st = some (x, p, y, v)) : ∃ q pos, st = .Assign [.Subscript (.Name x p) y q] v pos := by
  unfold asSub at h
  split at h
  · cases h; exact ⟨_, _, rfl⟩
  · cases h
theorem asMeth_eq {st : Stmt} {x m : Str} {p ap cp : Pos} {as : List Expr} (h : asMeth st = some (x, p, m, ap, as, cp)) : ∃ pos, st = .Expr (.Call (.Attribute (.Name x p) m ap) as [] cp) pos := by
  unfold asMeth at h
  split at h
  · cases h; exact ⟨_, rfl⟩
  · cases h
theorem asExpr_eq {st : Stmt} {v : Expr} (h : asExpr st = some v) : ∃ pos, st = .Expr v pos := by
  unfold asExpr at h
  split at h
  · cases h; exact ⟨_, rfl⟩
  · cases h
theorem asRet_eq {st : Stmt} {v : Expr} (h : asRet st = some v) : ∃ pos, st = .Return (some v) pos := by
  unfold asRet at h
  split at h
  · cases h; exact ⟨_, rfl⟩
  · cases h
theorem asIf_eq {st : Stmt} {c : Expr} {a b : List Stmt} (h : asIf st = some (c, a, b)) : ∃ pos, st = .If c a b pos := by
  unfold asIf at h
  split at h
  · cases h; exact ⟨_, rfl⟩
  · cases h
theorem asFor_eq {st : Stmt} {t i : Expr} {b : List Stmt} (h : asFor st = some (t, i, b)) : ∃ pos, st = .For t i b [] pos := by
  unfold asFor at h
  split at h
  · cases h; exact ⟨_, rfl⟩
  · cases h
theorem asWhile_eq {st : Stmt} {c : Expr} {b : List Stmt} (h : asWhile st = some (c, b)) : ∃ pos, st = .While c b [] pos := by
  unfold asWhile at h
  split at h
  · cases h; exact ⟨_, rfl⟩
  · cases h
theorem asRaise_eq {st : Stmt} {x : Str} (h : asRaise st = some x) : ∃ p m j p2 p3 pos, st = .Raise (some (.Call (.Name x p) [.Constant (.str m) j p2] [] p3)) none pos := by
  unfold asRaise at h
  split at h
  · cases h; exact ⟨_, _, _, _, _, _, rfl⟩
  · cases h
theorem tupE_eq {e : Expr} {vs : List Expr} (h : tupE e = some vs) : ∃ k p, e = .Tuple vs k p := by
  unfold tupE at h
  split at h
  · cases h; exact ⟨_, _, rfl⟩
  · cases h
/-! ### what is taken for granted -/
structure RaiseC (K : PySem.W.Frag) (mg : Str → Option Value) (c : Str) : Prop where
  ex : ∃ C, mg c = some (.ref C) ∧ PySem.W.excIn K C [.type "ValueError", .type "Exception", .type "BaseException", .type "object"] "ValueError.__new__" = true ∧ PySem.W.keepIn K (.ref C) = true ∧ PySem.W.subIn K (.ref C) (.type "BaseException") = some true ∧ PySem.W.typeIn K (.ref C) = some (.type "type")
structure XOkS (X : Cx) (k : Nat) (W : WX) : Prop extends XOk X k W where
  fnA : ∀ x, X.fn x = true
  po : PassesOwn (model X.prog X.w) X.A X.env X.xe
  kind : X.env.scope.kind = .function
  ex0 : X.ex = []
  stk : X.stack = X.env :: X.outer
  frm : X.env.frame = some X.env.locals
/-! ### readings -/
def OutS (X : Cx) (W : WX) (H0 : Hp) (M0 : Mk) (M : Mk) (H : Hp) (Dn : Ends) : Out → Prop
  | .nx s' => ∀ σ' H' A', RelS X.K H0 M0 A' σ' H' s' → Frame X.K M H (marks M0 A' s') H' → Dn.nx σ' H'
  | .rt d => ∀ v H', Same X.K H0 H' → Rep X.K M0 H' v d → Dn.rt v H'
  | .exc c => ∀ σ' H', Same X.K H0 H' → Frame X.K M H M0 H' → W (excV X.mg c) none σ' H'
  | .stuck => False
def tSS (X : Cx) (W : WX) (H0 : Hp) (M0 : Mk) (m : SE → Out) : TS := fun Dn σ H => ∃ A s, RelS X.K H0 M0 A σ H s ∧ OutS X W H0 M0 (marks M0 A s) H Dn (m s)
def AtomSG (P : Str → (List D → Res D) → Prop) (C : Str → Cn → Prop) (R : Str → Prop) (q : AtomS) : Prop := ∀ X k W H0 M0, XOkS X k W → P = GoodX X k → C = GC (gm X k) → R = RaiseC X.K X.mg → ∀ st, q.chk X.N X.env.scope st = true → PS X st (tSS X W H0 M0 q.run)
mutual
def goodS (P : Str → (List D → Res D) → Prop) (C : Str → Cn → Prop) (R : Str → Prop) : S → Prop
  | .nil => True
  | .cons a r => goodS1 P C R a ∧ goodS P C R r
  | .frz _ r => goodS P C R r
def goodS1 (P : Str → (List D → Res D) → Prop) (C : Str → Cn → Prop) (R : Str → Prop) : S1 → Prop
  | .set _ _ e => good P C e
  | .own _ _ e => good P C e
  | .unp _ _ e => good P C e
  | .par _ _ as => goodL P C as
  | .expr e => good P C e
  | .app _ _ e => good P C e
  | .extd _ _ e => good P C e
  | .six _ _ x e => good P C x ∧ good P C e
  | .pop _ => True
  | .ret e => good P C e
  | .ite c a b => good P C c ∧ goodS P C R a ∧ goodS P C R b
  | .for_ _ it b => goodI P C it ∧ goodS P C R b
  | .while_ _ c b => good P C c ∧ goodS P C R b
  | .raise c => R c
  | .never => True
  | .atom q => AtomSG P C R q
end
section
variable {X : Cx} {W : WX} {H0 : Hp} {M0 : Mk}
theorem ps_weak {st : Stmt} {t t' : TS} (h : PS X st t) (w : ∀ Dn σ H, t' Dn σ H → t Dn σ H) : PS X st t' := ⟨fun pins s σ H Dn I q => h.run pins s σ H Dn I (w Dn σ H q)⟩
theorem pss_weak {st : List Stmt} {t t' : TS} (h : PSs X st t) (w : ∀ Dn σ H, t' Dn σ H → t Dn σ H) : PSs X st t' := ⟨fun pins s σ H Dn I q => h.run pins s σ H Dn I (w Dn σ H q)⟩
/-- an expression inside a statement -/
theorem see_out {h : Bool} {A : Nat → List Addr} {s : SE} {σ : L2.St} {H : Hp} {Dn : Ends} {m : En → Res D} {f : D → Out} {Q : VK} (r : RelS X.K H0 M0 A σ H s) (o : OutS X W H0 M0 (marks M0 A s) H Dn (outE (m (see h s)) f))
    (hq : ∀ d v H', m (see h s) = .ok d → Same X.K H H' → Rep X.K (if h then marks M0 A s else M0) H' v d → RelS X.K H0 M0 A σ H' s → OutS X W H0 M0 (marks M0 A s) H Dn (f d) → Q v H') : tS X W m σ H Q := by
  refine ⟨if h then marks M0 A s else M0, see h s, ?_, ?_, ?_⟩
  · cases h
    · exact r.dmM0
    · exact r.dm
  · cases h
    · exact r.full
    · exact r.hid
  · cases e : m (see h s) with
    | ok d =>
      rw [e] at o
      exact fun v H' s' rv => hq d v H' e s' rv (r.grow s') o
    | exc c =>
      rw [e] at o
      exact fun H' s' => o σ H' (r.same.trans s') (Frame.grow r.dm s' fun a => .inl)
    | stuck => rw [e] at o; exact o
theorem full_out {A : Nat → List Addr} {s : SE} {σ : L2.St} {H : Hp} {Dn : Ends} {m : En → Res D} {f : D → Out} {Q : VK} (r : RelS X.K H0 M0 A σ H s) (o : OutS X W H0 M0 (marks M0 A s) H Dn (outE (m (full s)) f))
    (hq : ∀ d v H', m (full s) = .ok d → Same X.K H H' → Rep X.K M0 H' v d → RelS X.K H0 M0 A σ H' s → OutS X W H0 M0 (marks M0 A s) H Dn (f d) → Q v H') : tS X W m σ H Q :=
  see_out (h := false) r o fun d v H' e s' rv => hq d v H' e s' rv
theorem rep_ok {h : Bool} {A : Nat → List Addr} {s : SE} {σ : L2.St} {H : Hp} {d : D} {v : V} (r : RelS X.K H0 M0 A σ H s) (q : Rep X.K (if h then marks M0 A s else M0) H v d) (k : okFor h d = true) : Rep X.K (marks M0 A s) H v d := by
  cases h with
  | true => exact q
  | false => exact Rep.flat r.dm d v (by simpa [okFor] using k) q
theorem repAll_ok {h : Bool} {A : Nat → List Addr} {s : SE} {σ : L2.St} {H : Hp} {ds : List D} {vs : List V} (r : RelS X.K H0 M0 A σ H s) (q : RepAll X.K (if h then marks M0 A s else M0) H vs ds) (k : (h || flatAll ds) = true) : RepAll X.K (marks M0 A s) H vs ds := by
  cases h with
  | true => exact q
  | false => exact RepAll.flat r.dm ds vs (by simpa using k) q
theorem OutS.mono {M M1 : Mk} {H H1 : Hp} {Dn : Ends} {o : Out} (q : OutS X W H0 M0 M H Dn o) (f : Frame X.K M H M1 H1) : OutS X W H0 M0 M1 H1 Dn o := by
  cases o with
  | nx s => exact fun σ' H' A' r g => q σ' H' A' r (f.trans g)
  | rt d => exact q
  | exc c => exact fun σ' H' s' g => q σ' H' s' (f.trans g)
  | stuck => exact q
theorem s_seq {m1 m2 : SE → Out} {Dn : Ends} {σ : L2.St} {H : Hp} (q : tSS X W H0 M0 (fun s => seqO (m1 s) m2) Dn σ H) : tSeq (tSS X W H0 M0 m1) (tSS X W H0 M0 m2) Dn σ H := by
  obtain ⟨A, s, r, o⟩ := q
  refine ⟨A, s, r, ?_⟩
  dsimp only at o
  cases e : m1 s with
  | nx s1 =>
    rw [e] at o
    intro σ1 H1 A1 r1 f1
    exact ⟨A1, s1, r1, OutS.mono o f1⟩
  | rt d => rw [e] at o; exact o
  | exc c => rw [e] at o; exact o
  | stuck => rw [e] at o; exact o
end
end PL

namespace PL
open PySem PySem.Spec PyProof.Rows L2

section
variable {X : Cx} {W : WX} {H0 : Hp} {M0 : Mk} {k : Nat}
theorem XOkS.hf (xo : XOkS X k W) : ∀ x, locB X.env.scope x = true → Loc X.env.scope x ∧ (X.fn x = true ∨ X.env.scope.names.lookup x = some .local) := fun x h => ⟨loc_of h, .inl (xo.fnA x)⟩
theorem swaps_no {v : Expr} {t : Option Expr} {l : Nat} {env : PySem.Env} (h : notComp v = true) : swapsWith v t l env = pure false := by
  cases v <;> first | rfl | cases h
/-- x = v, whatever v is -/
theorem ps_setG {i : Nat} {x : Str} {p : Pos} {v : Expr} {pos : Pos} {e : E} (xo : XOkS X k W) (hn : chkNm X.N X.env.scope i (.Name x p) = true) (g : good (GoodX X k) (GC (gm X k)) e) (hc : chk X.N X.env.scope e v = true) (hk : (isComp e || notComp v) = true) :
    PS X (.Assign [.Name x p] v pos) (tAsg (tS X W (ev e)) (gName i)) ∧ (freshE e = true → PS X (.Assign [.Name x p] v pos) (tAsg (tF X W (ev e)) (gName i))) := by
  have hn' : X.N[i]? = some x ∧ locB X.env.scope x = true := by simpa [chkNm] using hn
  obtain ⟨h1, h2⟩ := hn'
  have se := snd_e e xo.toXOk g v hc
  by_cases hv : notComp v = true
  · exact ⟨ps_set xo.nd h1 (loc_of h2) se.pe (swaps_no hv) (.inl (xo.fnA x)), fun f => ps_set xo.nd h1 (loc_of h2) (se.fr f) (swaps_no hv) (.inl (xo.fnA x))⟩
  · have hk' : isComp e = true := by
      cases q : isComp e with
      | true => rfl
      | false => rw [q] at hk; exact absurd (by simpa using hk) hv
    cases e with
    | comp own tg it cond elt =>
      match v, hc with
      | .ListComp x0 [⟨t, it', ifs, 0⟩] scope p', hc =>
        have h' : (((((blkC X.N X.env.scope scope own = true ∧ chkTg X.N scope tg t = true) ∧ tgIn (own.map (·.2)) tg = true) ∧ chkI X.N X.env.scope it t it' = true) ∧ chkO X.N (relS scope X.env.scope) cond ifs = true) ∧ chk X.N (relS scope X.env.scope) elt x0 = true) := by
          simpa [chk] using hc
        obtain ⟨⟨⟨⟨⟨g1, g2⟩, g3⟩, g4⟩, g5⟩, g6⟩ := h'
        have xo' := xo.toXOk
        have hi := snd_I it xo' g.1 t it' g4
        have hs : ∀ v, foldedSetIterable it' X.env v = pure v := by
          intro v
          refine notSet_folded ?_ v
          cases it' with
          | Set a b c =>
            cases it with
            | seq a => simp [chkI] at g4
            | _ => cases g4
          | _ => rfl
        have hg : ∀ (s : Shared) (H : Hp) (C : Addr) (cl : List (Str × Addr)) (fp : List Addr), PG (X.blk s H scope (compEnvC scope cl C X.env) fp) t (gTg X.K tg) := fun s H C cl fp =>
          pg_tg (X := X.blk s H scope (compEnvC scope cl C X.env) fp) (N := X.N) (sc := scope) xo.calm rfl xo.nd blk_loc g2
        have ht : ∀ (s : Shared) (H : Hp) (C : Addr) (cl : List (Str × Addr)) (fp : List Addr), PTs (X.blk s H scope (compEnvC scope cl C X.env) fp) ifs (tST X W0 (evO cond)) := fun s H C cl fp =>
          snd_O cond (X := X.blk s H scope (compEnvC scope cl C X.env) fp) (xo'.blk s H scope _ fp rfl rfl) g.2.1 ifs g5
        have he : ∀ (s : Shared) (H : Hp) (C : Addr) (cl : List (Str × Addr)) (fp : List Addr), PE (X.blk s H scope (compEnvC scope cl C X.env) fp) x0 (tS X W0 (ev elt)) := fun s H C cl fp =>
          (snd_e elt (X := X.blk s H scope (compEnvC scope cl C X.env) fp) (xo'.blk s H scope _ fp rfl rfl) g.2.2 x0 g6).pe
        have rd := pe_compF (mi := evI it) (mc := evO cond) (me := ev elt) xo' hi (blkOk_by g1) g3 hg ht he hs
        have pf : PS X (.Assign [.Name x p] (.ListComp x0 [⟨t, it', ifs, 0⟩] scope p') pos) (tAsg (tF X W (ev (.comp own tg it cond elt))) (gName i)) := by
          have sw : ∃ b : Bool, swapsWith (.ListComp x0 [⟨t, it', ifs, 0⟩] scope p') (some (.Name x p)) pos.line X.env = pure b ∧ (b = true → X.env.scope.names.lookup x = some .local) := by
            refine ⟨X.env.blockKind == .function && X.env.kindOf x == some .local && p.line == (Expr.ListComp x0 [⟨t, it', ifs, 0⟩] scope p').pos.line
              && !(scope.names.any fun (n, k) => n == x && (k == .local || k == .cell)), rfl, fun h => ?_⟩
            simp only [Bool.and_eq_true] at h
            have := h.1.1.2
            exact eq_of_beq this
          obtain ⟨b, eb, hb⟩ := sw
          cases b with
          | false => exact ps_set xo.nd h1 (loc_of h2) (se.fr rfl) eb (.inl (xo.fnA x))
          | true =>
            refine ps_weak (ps_setLc xo.calm xo.nd h1 (hb rfl) eb hi (blkOk_by g1) hg ht he hs) fun Dn σ H q => ?_
            exact rd σ H _ q
        refine ⟨ps_weak pf fun Dn σ H q => ?_, fun _ => pf⟩
        obtain ⟨M, ρ, dm, r, o⟩ := q
        refine ⟨M, ρ, dm, r, OutE.of_F dm o fun d e => ?_⟩
        have e' : ((evI it ρ).bind fun ds => if ds.length ≤ sizeD then (compM (turnM tg (evO cond) (ev elt) (wipeD ρ (own.map (·.2)))) ds).bind fun out => .ok (.lst out) else .stuck) = .ok d := e
        obtain ⟨ds, _, e'⟩ := Res.bind_eq_ok e'
        split at e'
        · obtain ⟨out, _, e'⟩ := Res.bind_eq_ok e'
          cases e'
          exact ⟨_, rfl⟩
        · cases e'
    | _ => cases hk'
theorem st_set {h : Bool} {i : Nat} {e : E} {Dn : Ends} {σ : L2.St} {H : Hp} (q : tSS X W H0 M0 (run1 (.set h i e)) Dn σ H) : tAsg (tS X W (ev e)) (gName i) Dn σ H := by
  obtain ⟨A, s, r, o⟩ := q
  refine see_out (h := h) r (show OutS X W H0 M0 (marks M0 A s) H Dn (outE (ev e (see h s)) fun d => if okFor h d then .nx (s.set i (.ro d)) else .stuck) from o) fun d v H' e1 s' rv r' o' => ?_
  by_cases ho : okFor h d = true
  · rw [if_pos ho] at o'
    exact o' _ H' A (r'.setRo (rep_ok r' rv ho)) (Frame.grow r.dm s' fun a => marks_set_sub a)
  · rw [if_neg ho] at o'; exact o'.elim
theorem see_outF {h : Bool} {A : Nat → List Addr} {s : SE} {σ : L2.St} {H : Hp} {Dn : Ends} {m : En → Res D} {f : D → Out} {Q : VK} (r : RelS X.K H0 M0 A σ H s) (o : OutS X W H0 M0 (marks M0 A s) H Dn (outE (m (see h s)) f))
    (hl : ∀ d, ¬ (∃ l, d = .lst l) → ¬ OutS X W H0 M0 (marks M0 A s) H Dn (f d))
    (hq : ∀ l p vs H', m (see h s) = .ok (.lst l) → Same X.K H H' → Fr H p → H' p = some (.lst vs) → RepAll X.K (mark (if h then marks M0 A s else M0) p) H' vs l → RelS X.K H0 M0 A σ H' s → OutS X W H0 M0 (marks M0 A s) H Dn (f (.lst l)) → Q (.ref p) H') : tF X W m σ H Q := by
  refine ⟨if h then marks M0 A s else M0, see h s, ?_, ?_, ?_⟩
  · cases h
    · exact r.dmM0
    · exact r.dm
  · cases h
    · exact r.full
    · exact r.hid
  · cases e : m (see h s) with
    | ok d =>
      rw [e] at o
      by_cases hd : ∃ l, d = .lst l
      · obtain ⟨l, rfl⟩ := hd
        exact ⟨l, rfl, fun p vs H' s' n ep rv => hq l p vs H' e s' n ep rv (r.grow s') o⟩
      · exact (hl d hd o).elim
    | exc c =>
      rw [e] at o
      exact fun H' s' => o σ H' (r.same.trans s') (Frame.grow r.dm s' fun a => .inl)
    | stuck => rw [e] at o; exact o
/-- items of a new list, whatever was seen -/
theorem repAll_okF {h : Bool} {A : Nat → List Addr} {s : SE} {σ : L2.St} {H H' : Hp} {p : Addr} {ds : List D} {vs us : List V} (r : RelS X.K H0 M0 A σ H s) (s' : Same X.K H H') (n : Fr H p) (ep : H' p = some (.lst us)) (q : RepAll X.K (mark (if h then marks M0 A s else M0) p) H' vs ds) (k : (h || flatAll ds) = true) : RepAll X.K (mark (marks M0 A s) p) H' vs ds := by
  cases h with
  | true => exact q
  | false => exact RepAll.flat ((r.dm.mono s').mark ep trivial) ds vs (by simpa using k) q
theorem st_own {h : Bool} {i : Nat} {e : E} {Dn : Ends} {σ : L2.St} {H : Hp} (q : tSS X W H0 M0 (run1 (.own h i e)) Dn σ H) : tAsg (tF X W (ev e)) (gName i) Dn σ H := by
  obtain ⟨A, s, r, o⟩ := q
  refine see_outF (h := h) r (show OutS X W H0 M0 (marks M0 A s) H Dn (outE (ev e (see h s)) fun d => ownS h i s d) from o) (fun d hd o' => ?_) fun l p vs H' e1 s' n ep rv r' o' => ?_
  · cases d with
    | lst l => exact hd ⟨l, rfl⟩
    | _ => exact o'
  · by_cases ho : (h || flatAll l) = true
    · have o2 : OutS X W H0 M0 (marks M0 A s) H Dn (if (h || flatAll l) = true then .nx (s.set i (.own l)) else .stuck) := o'
      rw [if_pos ho] at o2
      obtain ⟨r2, sub⟩ := r.setOwn (i := i) s' n ep (repAll_okF r s' n ep rv ho)
      exact o2 _ H' _ r2 ⟨Keep.of_same s', fun a m => (sub a m).elim .inl fun z => .inr (by rw [z]; exact n), r.dm.mono s'⟩
    · have o2 : OutS X W H0 M0 (marks M0 A s) H Dn (if (h || flatAll l) = true then .nx (s.set i (.own l)) else .stuck) := o'
      rw [if_neg ho] at o2; exact o2.elim
theorem gNamesS : ∀ {is : List Nat} {ds : List D} {vs : List V} {σ : L2.St} {s s2 : SE} {A : Nat → List Addr} {H : Hp} {Q : L2.St → Hp → Prop}, setAllS is ds s = some s2 → RelS X.K H0 M0 A σ H s → RepAll X.K (marks M0 A s) H vs ds →
    (∀ σ2, RelS X.K H0 M0 A σ2 H s2 → (∀ a, marks M0 A s2 a → marks M0 A s a) → Q σ2 H) → gNames is vs σ H Q
  | [], [], _, σ, s, s2, A, H, Q, e, r, q, h => by
    cases q
    cases e
    exact ⟨rfl, h σ r fun _ m => m⟩
  | i :: is, d :: ds, _, σ, s, s2, A, H, Q, e, r, q, h => by
    cases q with
    | cons q1 q2 =>
      refine ⟨_, _, rfl, ?_⟩
      exact gNamesS (is := is) e (r.setRo q1) (RepAll.weak (fun a => marks_set_sub a) _ _ q2) fun σ2 r2 sub => h σ2 r2 fun a m => marks_set_sub a (sub a m)
  | [], _ :: _, _, _, _, _, _, _, _, e, _, _, _ => by cases e
  | _ :: _, [], _, _, _, _, _, _, _, e, _, _, _ => by cases e
theorem setAllS_len : ∀ {is : List Nat} {ds : List D} {s s2 : SE}, setAllS is ds s = some s2 → ds.length = is.length
  | [], [], _, _, _ => rfl
  | _ :: is, _ :: ds, _, _, e => by rw [List.length_cons, List.length_cons, setAllS_len (is := is) e]
  | [], _ :: _, _, _, e => by cases e
  | _ :: _, [], _, _, e => by cases e
theorem gTgS {tg : Tg} {d : D} {v : V} {σ : L2.St} {s s2 : SE} {A : Nat → List Addr} {H : Hp} {Q : L2.St → Hp → Prop} (e : setTgS tg d s = some s2) (r : RelS X.K H0 M0 A σ H s) (q : Rep X.K (marks M0 A s) H v d)
    (h : ∀ σ2, RelS X.K H0 M0 A σ2 H s2 → (∀ a, marks M0 A s2 a → marks M0 A s a) → Q σ2 H) : gTg X.K tg v σ H Q := by
  cases tg with
  | name i =>
    cases e
    exact h _ (r.setRo q) fun a => marks_set_sub a
  | tup is =>
    cases d with
    | tup ds =>
      cases q with
      | tup sq m ra => exact ⟨_, _, rfl, SqT.of sq, by rw [ra.length]; exact setAllS_len e, gNamesS e r ra h⟩
    | _ => cases e
  | pr i is =>
    match d, e with
    | .tup [d1, .tup ds], e =>
      cases q with
      | tup sq m ra =>
        cases ra with
        | cons r1 ra =>
          cases ra with
          | cons r2 ra =>
            cases ra
            cases r2 with
            | tup s2 m2 ra2 =>
              refine ⟨_, _, rfl, SqT.of sq, rfl, _, _, rfl, _, _, rfl, ⟨_, _, rfl, SqT.of s2, by rw [ra2.length]; exact setAllS_len e, ?_⟩⟩
              exact gNamesS e (r.setRo r1) (RepAll.weak (fun a => marks_set_sub a) _ _ ra2) fun σ2 re2 w => ⟨rfl, h σ2 re2 fun a ma => marks_set_sub a (w a ma)⟩
def gOr (a b : TG) : TG := fun v σ H Q => a v σ H Q ∨ b v σ H Q
theorem pg_or {e : Expr} {a b : TG} (h : PG X e a) (h' : PG X e b) : PG X e (gOr a b) := ⟨fun pins s σ H v u Q I r q => q.elim (h.run pins s σ H v u Q I r) (h'.run pins s σ H v u Q I r)⟩
theorem st_unp {h : Bool} {is : List Nat} {e : E} {Dn : Ends} {σ : L2.St} {H : Hp} (q : tSS X W H0 M0 (run1 (.unp h is e)) Dn σ H) : tAsg (tS X W (ev e)) (gOr (gTup X.K is.length (gNames is)) (gLst X.K is.length (gNames is))) Dn σ H := by
  obtain ⟨A, s, r, o⟩ := q
  refine see_out (h := h) r (show OutS X W H0 M0 (marks M0 A s) H Dn (outE (ev e (see h s)) fun d => unpS h is s d) from o) fun d v H' e1 s' rv r' o' => ?_
  cases d with
  | tup ds =>
    by_cases ho : (h || flatAll ds) = true
    · have o2 : OutS X W H0 M0 (marks M0 A s) H Dn (if (h || flatAll ds) = true then ofS (setAllS is ds s) else .stuck) := o'
      rw [if_pos ho] at o2
      cases e2 : setAllS is ds s with
      | none => rw [e2] at o2; exact o2.elim
      | some s2 =>
        rw [e2] at o2
        cases rv with
        | tup sq m ra =>
          refine .inl ⟨_, _, rfl, SqT.of sq, by rw [ra.length]; exact setAllS_len e2, ?_⟩
          exact gNamesS e2 r' (repAll_ok r' ra ho) fun σ2 r2 sub => o2 σ2 H' A r2 (Frame.grow r.dm s' sub)
    · have o2 : OutS X W H0 M0 (marks M0 A s) H Dn (if (h || flatAll ds) = true then ofS (setAllS is ds s) else .stuck) := o'
      rw [if_neg ho] at o2; exact o2.elim
  | lst ds =>
    by_cases ho : (h || flatAll ds) = true
    · have o2 : OutS X W H0 M0 (marks M0 A s) H Dn (if (h || flatAll ds) = true then ofS (setAllS is ds s) else .stuck) := o'
      rw [if_pos ho] at o2
      cases e2 : setAllS is ds s with
      | none => rw [e2] at o2; exact o2.elim
      | some s2 =>
        rw [e2] at o2
        cases rv with
        | lst sq m ra =>
          refine .inr ⟨_, _, rfl, SqL.of sq, by rw [ra.length]; exact setAllS_len e2, ?_⟩
          exact gNamesS e2 r' (repAll_ok r' ra ho) fun σ2 r2 sub => o2 σ2 H' A r2 (Frame.grow r.dm s' sub)
    · have o2 : OutS X W H0 M0 (marks M0 A s) H Dn (if (h || flatAll ds) = true then ofS (setAllS is ds s) else .stuck) := o'
      rw [if_neg ho] at o2; exact o2.elim
  | _ => exact o'.elim
theorem st_expr {e : E} {Dn : Ends} {σ : L2.St} {H : Hp} (q : tSS X W H0 M0 (run1 (.expr e)) Dn σ H) : tDrop (tS X W (ev e)) Dn σ H := by
  obtain ⟨A, s, r, o⟩ := q
  exact full_out r (show OutS X W H0 M0 (marks M0 A s) H Dn (outE (ev e (full s)) fun _ => .nx s) from o) fun d v H' e1 s' rv r' o' => o' σ H' A r' (Frame.grow r.dm s' fun _ m => m)
theorem st_ret {e : E} {Dn : Ends} {σ : L2.St} {H : Hp} (q : tSS X W H0 M0 (run1 (.ret e)) Dn σ H) : tRet (tS X W (ev e)) Dn σ H := by
  obtain ⟨A, s, r, o⟩ := q
  exact full_out r (show OutS X W H0 M0 (marks M0 A s) H Dn (outE (ev e (full s)) fun d => .rt d) from o) fun d v H' e1 s' rv r' o' => o' v H' (r.same.trans s') rv
theorem full_outT {A : Nat → List Addr} {s : SE} {σ : L2.St} {H : Hp} {Dn : Ends} {m : En → Res Bool} {f : Bool → Out} {Q : Bool → Hp → Prop} (r : RelS X.K H0 M0 A σ H s) (o : OutS X W H0 M0 (marks M0 A s) H Dn (outE (m (full s)) f))
    (hq : ∀ d H', m (full s) = .ok d → Same X.K H H' → RelS X.K H0 M0 A σ H' s → OutS X W H0 M0 (marks M0 A s) H Dn (f d) → Q d H') : tST X W m σ H Q := by
  refine ⟨M0, full s, r.dmM0, r.full, ?_⟩
  cases e : m (full s) with
  | ok d =>
    rw [e] at o
    exact fun H' s' => hq d H' e s' (r.grow s') o
  | exc c =>
    rw [e] at o
    exact fun H' s' => o σ H' (r.same.trans s') (Frame.grow r.dm s' fun a => .inl)
  | stuck => rw [e] at o; exact o
theorem st_ite {c : E} {a b : S} {Dn : Ends} {σ : L2.St} {H : Hp} (q : tSS X W H0 M0 (run1 (.ite c a b)) Dn σ H) :
    tIfS (tST X W fun ρ => (ev c ρ).bind truth) (tSS X W H0 M0 (run a)) (tSS X W H0 M0 (run b)) Dn σ H := by
  obtain ⟨A, s, r, o⟩ := q
  refine full_outT r (m := fun ρ => (ev c ρ).bind truth) (show OutS X W H0 M0 (marks M0 A s) H Dn (outE ((ev c (full s)).bind truth) fun t => if t then run a s else run b s) from o) fun d H' e1 s' r' o' => ?_
  have f : Frame X.K (marks M0 A s) H (marks M0 A s) H' := Frame.grow r.dm s' fun _ m => m
  cases d with
  | true =>
    rw [if_pos rfl] at o' ⊢
    exact ⟨A, s, r', OutS.mono o' f⟩
  | false =>
    rw [if_neg Bool.false_ne_true] at o' ⊢
    exact ⟨A, s, r', OutS.mono o' f⟩
/-- the loop over what is known -/
theorem st_for {tg : Tg} {it : IT} {b : S} {Dn : Ends} {σ : L2.St} {H : Hp} (q : tSS X W H0 M0 (run1 (.for_ tg it b)) Dn σ H) :
    tFor (tIS X W (evI it)) (gTg X.K tg) (tSS X W H0 M0 (run b)) Dn σ H := by
  obtain ⟨A, s, r, o⟩ := q
  have o1 : OutS X W H0 M0 (marks M0 A s) H Dn (outE (evI it (hid s)) fun ds => forM (fun s => run b s) tg ds s) := o
  refine ⟨marks M0 A s, hid s, r.dm, r.hid, ?_⟩
  cases e : evI it (hid s) with
  | exc c => rw [e] at o1; exact fun H' s' => o1 σ H' (r.same.trans s') (Frame.grow r.dm s' fun a => .inl)
  | stuck => rw [e] at o1; exact o1
  | ok ds =>
    rw [e] at o1
    intro J H1 s1 wk
    have f1 : Frame X.K (marks M0 A s) H (marks M0 A s) H1 := Frame.grow r.dm s1 fun _ m => m
    have o2 : OutS X W H0 M0 (marks M0 A s) H1 Dn (forM (fun s => run b s) tg ds s) := OutS.mono o1 f1
    refine ⟨fun i m σ' H' => m + i = ds.length ∧ ∃ A' s', RelS X.K H0 M0 A' σ' H' s' ∧ Frame X.K (marks M0 A s) H1 (marks M0 A' s') H' ∧ OutS X W H0 M0 (marks M0 A' s') H' Dn (forM (fun s => run b s) tg (ds.drop i) s'),
      ⟨ds.length, rfl, A, s, r.grow s1, Frame.refl (r.dm.mono s1), o2⟩, ?_⟩
    rintro i m σ' H' ⟨em, A', s', r', f', o'⟩
    have acc : ∃ Ac : Mk, Ext (marks M0 A s) Ac H1 ∧ DomM Ac H' ∧ Keep X.K Ac H1 H' ∧ ∀ a, marks M0 A' s' a → Ac a := by
      refine ⟨fun a => marks M0 A s a ∨ marks M0 A' s' a, ⟨fun a m => .inl m, fun a m => m.elim .inl (f'.new a)⟩, fun a m => m.elim (f'.dom a) (r'.dm a), ⟨fun a o e n t => f'.keep.app a o e (fun z => n (.inl z)) t, f'.keep.tab⟩, fun a m => .inr m⟩
    obtain ⟨Ac, x, dA, kA, sub⟩ := acc
    cases ei : ds[i]? with
    | none =>
      left
      refine ⟨wk.stop Ac i H' x dA kA ei, ?_⟩
      have hd : ds.drop i = [] := List.drop_eq_nil_of_le (List.getElem?_eq_none_iff.mp ei)
      rw [hd] at o'
      exact o' σ' H' A' r' (Frame.refl r'.dm)
    | some d =>
      right
      have hi' : i < ds.length := (List.getElem?_eq_some_iff.mp ei).1
      obtain ⟨g1, g2⟩ := wk.go Ac i d H' x dA kA ei
      have hdrop : ds.drop i = d :: ds.drop (i + 1) := by
        rw [List.drop_eq_getElem_cons hi']
        rw [List.getElem?_eq_getElem hi'] at ei
        cases ei; rfl
      rw [hdrop] at o'
      refine ⟨g1, fun σ2 H2 => ∃ A2 s2, RelS X.K H0 M0 A2 σ2 H2 s2 ∧ Frame X.K (marks M0 A s) H1 (marks M0 A2 s2) H2 ∧ OutS X W H0 M0 (marks M0 A2 s2) H2 Dn (forM (fun s => run b s) tg (ds.drop (i + 1)) s2),
        fun σ2 H2 hN => ⟨m - 1, by omega, by omega, hN⟩, fun xv H2 hy => ?_⟩
      obtain ⟨s2, rx⟩ := g2 xv H2 hy
      have o3 : OutS X W H0 M0 (marks M0 A' s') H' Dn (match setTgS tg d s' with | some s1 => seqO (run b s1) (forM (fun s => run b s) tg (ds.drop (i + 1))) | none => .stuck) := o'
      cases e3 : setTgS tg d s' with
      | none => rw [e3] at o3; exact o3.elim
      | some s3 =>
        rw [e3] at o3
        refine gTgS e3 (r'.grow s2) (Rep.weak sub _ _ rx) fun σ3 r3 sub3 => ?_
        have f3 : Frame X.K (marks M0 A' s') H' (marks M0 A' s3) H2 := Frame.grow r'.dm s2 sub3
        refine ⟨A', s3, r3, ?_⟩
        have o4 := OutS.mono o3 f3
        have o5 : OutS X W H0 M0 (marks M0 A' s3) H2 Dn (seqO (run b s3) (forM (fun s => run b s) tg (ds.drop (i + 1)))) := o4
        cases e4 : run b s3 with
        | nx s4 =>
          rw [e4] at o5
          intro σ4 H4 A4 r4 f4
          exact ⟨A4, s4, r4, (f'.trans f3).trans f4, OutS.mono o5 f4⟩
        | rt d => rw [e4] at o5; exact o5
        | exc c => rw [e4] at o5; exact o5
        | stuck => rw [e4] at o5; exact o5
theorem st_while {n : Nat} {c : E} {b : S} {Dn : Ends} {σ : L2.St} {H : Hp} (q : tSS X W H0 M0 (run1 (.while_ n c b)) Dn σ H) :
    tWhile (tST X W fun ρ => (ev c ρ).bind truth) (tSS X W H0 M0 (run b)) Dn σ H := by
  obtain ⟨A, s, r, o⟩ := q
  have o1 : OutS X W H0 M0 (marks M0 A s) H Dn (whileM (fun s => (ev c (full s)).bind truth) (fun s => run b s) n s) := o
  refine ⟨fun m σ' H' => ∃ A' s', RelS X.K H0 M0 A' σ' H' s' ∧ OutS X W H0 M0 (marks M0 A' s') H' Dn (whileM (fun s => (ev c (full s)).bind truth) (fun s => run b s) m s'), ⟨n, A, s, r, o1⟩, ?_⟩
  rintro m σ' H' ⟨A', s', r', o'⟩
  cases m with
  | zero => exact o'.elim
  | succ m =>
    refine full_outT r' (m := fun ρ => (ev c ρ).bind truth) (show OutS X W H0 M0 (marks M0 A' s') H' Dn (outE ((ev c (full s')).bind truth) fun t => if t then seqO (run b s') (whileM (fun s => (ev c (full s)).bind truth) (fun s => run b s) m) else .nx s') from o') fun d H2 e1 s2 r2 o2 => ?_
    have f : Frame X.K (marks M0 A' s') H' (marks M0 A' s') H2 := Frame.grow r'.dm s2 fun _ m => m
    cases d with
    | false =>
      rw [if_neg Bool.false_ne_true] at o2 ⊢
      exact o2 σ' H2 A' r2 f
    | true =>
      rw [if_pos rfl] at o2 ⊢
      refine ⟨fun σ3 H3 => ∃ A3 s3, RelS X.K H0 M0 A3 σ3 H3 s3 ∧ OutS X W H0 M0 (marks M0 A3 s3) H3 Dn (whileM (fun s => (ev c (full s)).bind truth) (fun s => run b s) m s3), fun σ3 H3 hN => ⟨m, Nat.lt_succ_self m, hN⟩, ?_⟩
      refine ⟨A', s', r2, ?_⟩
      have o3 := OutS.mono o2 f
      cases e4 : run b s' with
      | nx s4 =>
        rw [e4] at o3
        intro σ4 H4 A4 r4 f4
        exact ⟨A4, s4, r4, OutS.mono o3 f4⟩
      | rt d => rw [e4] at o3; exact o3
      | exc c => rw [e4] at o3; exact o3
      | stuck => rw [e4] at o3; exact o3
end
end PL

namespace PL
open PySem PySem.Spec PyProof.Rows L2

section
variable {X : Cx} {W : WX} {H0 : Hp} {M0 : Mk} {k : Nat}
/-! ## a, b = x, y -/
def tArgs (X : Cx) (W : WX) : List (Bool × Nat) → EL → TA
  | [], .nil => tNil
  | (b, _) :: ts, .cons e r => tCons (if b then tF X W (ev e) else tS X W (ev e)) (tArgs X W ts r)
  | _, _ => fun _ _ _ => False
theorem pa_args : ∀ {ts : List (Bool × Nat)} {as : EL} {vs : List Expr}, XOk X k W → goodL (GoodX X k) (GC (gm X k)) as → chkL X.N X.env.scope as vs = true → parOk ts as = true → PA X vs (tArgs X W ts as) ∧ ∀ v ∈ vs, notStar v = true
  | [], .nil, [], xo, g, h, hp => ⟨pa_nil, fun _ z => nomatch z⟩
  | (b, i) :: ts, .cons e r, v :: vs, xo, g, h, hp => by
    have h' : (chk X.N X.env.scope e v = true ∧ notStar v = true) ∧ chkL X.N X.env.scope r vs = true := by simpa [chkL] using h
    have hp' : ((!b || freshE e) = true) ∧ parOk ts r = true := by
      have : ((!b || freshE e) && parOk ts r) = true := hp
      rwa [Bool.and_eq_true] at this
    obtain ⟨⟨h1, h2⟩, h3⟩ := h'
    have se := snd_e e xo g.1 v h1
    obtain ⟨ih, ihs⟩ := pa_args (ts := ts) xo g.2 h3 hp'.2
    refine ⟨?_, fun u hu => ?_⟩
    · cases b with
      | true => exact pa_cons (se.fr (by simpa using hp'.1)) ih (star_of h2 vs X.env)
      | false => exact pa_cons se.pe ih (star_of h2 vs X.env)
    · rcases List.mem_cons.mp hu with z | z
      · rw [z]; exact h2
      · exact ihs u z
  | [], .nil, _ :: _, _, _, h, _ => by cases h
  | [], .cons _ _, _, _, _, _, hp => by cases hp
  | _ :: _, .nil, _, _, _, _, hp => by cases hp
  | _ :: _, .cons _ _, [], _, _, h, _ => by cases h
/-- what the arguments left -/
inductive AR (K : PySem.W.Frag) (M' : Mk) (H' : Hp) : List (Bool × Nat) → List V → List D → List Addr → Prop
  | nil : AR K M' H' [] [] [] []
  | ro {i : Nat} {ts : List (Bool × Nat)} {v : V} {vs : List V} {d : D} {ds : List D} {ps : List Addr} : Rep K M' H' v d → AR K M' H' ts vs ds ps → AR K M' H' ((false, i) :: ts) (v :: vs) (d :: ds) ps
  | own {i : Nat} {ts : List (Bool × Nat)} {p : Addr} {us : List V} {l : List D} {vs : List V} {ds : List D} {ps : List Addr} : H' p = some (.lst us) → RepAll K M' H' us l → AR K M' H' ts vs ds ps → AR K M' H' ((true, i) :: ts) (.ref p :: vs) (.lst l :: ds) (p :: ps)
def plus (M : Mk) (ps : List Addr) : Mk := fun a => M a ∨ a ∈ ps
theorem AR.length {K : PySem.W.Frag} {M' : Mk} {H' : Hp} {ts : List (Bool × Nat)} {vs : List V} {ds : List D} {ps : List Addr} (a : AR K M' H' ts vs ds ps) : vs.length = ts.length := by
  induction a with
  | nil => rfl
  | ro _ _ ih => rw [List.length_cons, List.length_cons, ih]
  | own _ _ _ ih => rw [List.length_cons, List.length_cons, ih]
theorem AR.keep {K : PySem.W.Frag} {M' : Mk} {H1 H2 : Hp} {ts : List (Bool × Nat)} {vs : List V} {ds : List D} {ps : List Addr} (s : Same K H1 H2) (a : AR K M' H1 ts vs ds ps) : AR K M' H2 ts vs ds ps := by
  induction a with
  | nil => exact .nil
  | ro h _ ih => exact .ro (h.same s) ih
  | own e h _ ih => exact .own (s.get _ _ e) (h.same s) ih
theorem args_run {ρ : En} {σ : L2.St} : ∀ {ts : List (Bool × Nat)} {as : EL} {M : Mk} {H : Hp} {ds : List D} {Q : List V → Hp → Prop}, parOk ts as = true → DomM M H → Rel X.K M σ H ρ → evL as ρ = .ok ds → (∀ (i : Nat) j d, ts[i]? = some (true, j) → ds[i]? = some d → ∃ l, d = .lst l) →
    (∀ vs H' ps, Same X.K H H' → (∀ p ∈ ps, Fr H p) → ps.Nodup → (∀ p ∈ ps, ∃ o, H' p = some o ∧ MutO o) → AR X.K (plus M ps) H' ts vs ds ps → Q vs H') → tArgs X W ts as σ H Q
  | [], .nil, M, H, ds, Q, hp, dm, re, e, hl, q => by
    have e' : Res.ok [] = Res.ok ds := e
    cases e'
    exact q [] H [] (Same.refl H) (fun _ z => nomatch z) List.nodup_nil (fun _ z => nomatch z) .nil
  | (b, i) :: ts, .cons a r, M, H, ds, Q, hp, dm, re, e, hl, q => by
    have hp' : ((!b || freshE a) = true) ∧ parOk ts r = true := by
      have : ((!b || freshE a) && parOk ts r) = true := hp
      rwa [Bool.and_eq_true] at this
    have e' : ((ev a ρ).bind fun d => (evL r ρ).bind fun ds => .ok (d :: ds)) = .ok ds := e
    obtain ⟨d, ed, e'⟩ := Res.bind_eq_ok e'
    obtain ⟨ds', eds, e'⟩ := Res.bind_eq_ok e'
    cases e'
    have hl' : ∀ (i : Nat) j d', ts[i]? = some (true, j) → ds'[i]? = some d' → ∃ l, d' = .lst l := fun i j d' h1 h2 => hl (i + 1) j d' (by simpa using h1) (by simpa using h2)
    cases b with
    | false =>
      show tS X W (ev a) σ H _
      refine ⟨M, ρ, dm, re, ?_⟩
      rw [ed]
      intro v H1 s1 r1
      refine args_run (ts := ts) hp'.2 (dm.mono s1) (re.same s1) eds hl' fun vs H' ps s2 np nd dp ar => ?_
      have ext : Ext M (plus M ps) H1 := ⟨fun _ m => .inl m, fun a m => m.elim .inl fun z => .inr (np a z)⟩
      exact q (v :: vs) H' ps (s1.trans s2) (fun p hp => s1.free (np p hp)) nd dp (.ro ((Rep.ext ext _ _ r1).same s2) ar)
    | true =>
      show tF X W (ev a) σ H _
      refine ⟨M, ρ, dm, re, ?_⟩
      rw [ed]
      obtain ⟨l, rfl⟩ := hl 0 i d rfl rfl
      refine ⟨l, rfl, fun p us H1 s1 n ep ra => ?_⟩
      have em : Ext M (mark M p) H := Ext.mark n
      refine args_run (ts := ts) (M := mark M p) hp'.2 ((dm.mono s1).mark ep trivial) ((re.ext em).same s1) eds hl' fun vs H' ps s2 np nd dp ar => ?_
      have ext : Ext (mark M p) (plus (mark M p) ps) H1 := ⟨fun _ m => .inl m, fun a m => m.elim .inl fun z => .inr (np a z)⟩
      have eqv : plus (mark M p) ps = plus M (p :: ps) := by
        funext a
        apply propext
        constructor
        · rintro ((m | m) | m)
          · exact .inl m
          · exact .inr (by rw [m]; exact List.mem_cons_self)
          · exact .inr (List.mem_cons_of_mem _ m)
        · rintro (m | m)
          · exact .inl (.inl m)
          · rcases List.mem_cons.mp m with m | m
            · exact .inl (.inr m)
            · exact .inr m
      have npp : p ∉ ps := fun z => np p z _ ep nt_lst
      refine q (.ref p :: vs) H' (p :: ps) (s1.trans s2) (fun a ha => ?_) (List.nodup_cons.mpr ⟨npp, nd⟩) (fun a ha => ?_) ?_
      · rcases List.mem_cons.mp ha with z | z
        · rw [z]; exact n
        · exact s1.free (np a z)
      · rcases List.mem_cons.mp ha with z | z
        · exact ⟨.lst us, by rw [z]; exact s2.get _ _ ep, trivial⟩
        · exact dp a z
      · rw [eqv] at ar ext
        exact .own (s2.get _ _ ep) ((RepAll.ext ext _ _ ra).same s2) ar
  | [], .cons _ _, _, _, _, _, hp, _, _, _, _, _ => by cases hp
  | _ :: _, .nil, _, _, _, _, hp, _, _, _, _, _ => by cases hp
/-- the stores -/
def setVs : List (Bool × Nat) → List V → L2.St → L2.St
  | (_, i) :: ts, v :: vs, σ => setVs ts vs (σ.set i (some v))
  | _, _, σ => σ
theorem AR.weak {K : PySem.W.Frag} {M M' : Mk} {H' : Hp} {ts : List (Bool × Nat)} {vs : List V} {ds : List D} {ps : List Addr} (w : ∀ a, M' a → M a) (a : AR K M H' ts vs ds ps) : AR K M' H' ts vs ds ps := by
  induction a with
  | nil => exact .nil
  | ro h _ ih => exact .ro (Rep.weak w _ _ h) ih
  | own e h _ ih => exact .own e (RepAll.weak w _ _ h) ih
theorem par_store {h : Bool} {H : Hp} (ts : List (Bool × Nat)) : ∀ {vs : List V} {ds : List D} {ps : List Addr} {σ : L2.St} {s s2 : SE} {A : Nat → List Addr}, parS h ts ds s = .nx s2 → ps.Nodup → (∀ p ∈ ps, Fr H0 p ∧ ¬ M0 p) →
    AR X.K (marks (fun a => M0 a ∨ a ∈ ps) A s) H ts vs ds ps → RelS X.K H0 (fun a => M0 a ∨ a ∈ ps) A σ H s →
    ∃ A2, RelS X.K H0 M0 A2 (setVs ts vs σ) H s2 ∧ ∀ a, marks M0 A2 s2 a → marks (fun a => M0 a ∨ a ∈ ps) A s a := by
  induction ts with
  | nil =>
    intro vs ds ps σ s s2 A e nd np ar r
    cases ar
    cases e
    exact ⟨A, r.unP, fun a m => m.elim (fun z => .inl (.inl z)) .inr⟩
  | cons t ts ih =>
    intro vs ds ps σ s s2 A e nd np ar r
    cases ar with
    | @ro i _ v vs d ds _ rv ar =>
      have e' : (if okFor h d then parS h ts ds (s.set i (.ro d)) else .stuck) = .nx s2 := e
      by_cases ho : okFor h d = true
      · rw [if_pos ho] at e'
        have r1 := r.setRo (i := i) rv
        have sub : ∀ a, marks (fun a => M0 a ∨ a ∈ ps) A (s.set i (.ro d)) a → marks (fun a => M0 a ∨ a ∈ ps) A s a := fun a => marks_set_sub a
        obtain ⟨A2, r2, sub2⟩ := ih e' nd np (ar.weak sub) r1
        exact ⟨A2, r2, fun a m => sub a (sub2 a m)⟩
      · rw [if_neg ho] at e'; cases e'
    | @own i _ p us l vs ds ps ep ra ar =>
      have e' : (if (h || flatAll l) = true then parS h ts ds (s.set i (.own l)) else .stuck) = .nx s2 := e
      by_cases ho : (h || flatAll l) = true
      · rw [if_pos ho] at e'
        have nd' := List.nodup_cons.mp nd
        obtain ⟨n0, nm⟩ := np p List.mem_cons_self
        obtain ⟨r1, sub⟩ := r.takeP (i := i) nd'.1 n0 nm ep ra
        obtain ⟨A2, r2, sub2⟩ := ih e' nd'.2 (fun q hq => np q (List.mem_cons_of_mem _ hq)) (ar.weak sub) r1
        exact ⟨A2, r2, fun a m => sub a (sub2 a m)⟩
      · rw [if_neg ho] at e'; cases e'
/-- the values' marks: what was seen, or everything -/
theorem AR.flatten {h : Bool} {A : Nat → List Addr} {s : SE} {H : Hp} {ps : List Addr} (dmm : DomM (marks (fun a => M0 a ∨ a ∈ ps) A s) H) {ts : List (Bool × Nat)} : ∀ {vs : List V} {ds : List D} {qs : List Addr} {s1 s2 : SE}, parS h ts ds s1 = .nx s2 → AR X.K (plus (if h then marks M0 A s else M0) ps) H ts vs ds qs →
    AR X.K (marks (fun a => M0 a ∨ a ∈ ps) A s) H ts vs ds qs := by
  induction ts with
  | nil =>
    intro vs ds qs s1 s2 e ar
    cases ar
    exact .nil
  | cons t ts ih =>
    intro vs ds qs s1 s2 e ar
    have wk : ∀ a, marks (fun a => M0 a ∨ a ∈ ps) A s a → plus (marks M0 A s) ps a := fun a m => by
      rcases m with (m | m) | m
      · exact .inl (.inl m)
      · exact .inr m
      · exact .inl (.inr m)
    cases ar with
    | @ro i _ v vs d ds _ rv ar =>
      have e' : (if okFor h d then parS h ts ds (s1.set i (.ro d)) else .stuck) = .nx s2 := e
      by_cases ho : okFor h d = true
      · rw [if_pos ho] at e'
        refine .ro ?_ (ih e' ar)
        cases h with
        | true => exact Rep.weak wk _ _ rv
        | false => exact Rep.flat dmm d v (by simpa [okFor] using ho) rv
      · rw [if_neg ho] at e'; cases e'
    | @own i _ p us l vs ds qs ep ra ar =>
      have e' : (if (h || flatAll l) = true then parS h ts ds (s1.set i (.own l)) else .stuck) = .nx s2 := e
      by_cases ho : (h || flatAll l) = true
      · rw [if_pos ho] at e'
        refine .own ep ?_ (ih e' ar)
        cases h with
        | true => exact RepAll.weak wk _ _ ra
        | false => exact RepAll.flat dmm l us (by simpa using ho) ra
      · rw [if_neg ho] at e'; cases e'
theorem parS_own {h : Bool} : ∀ {ts : List (Bool × Nat)} {ds : List D} {s s2 : SE}, parS h ts ds s = .nx s2 → ∀ (i : Nat) j d, ts[i]? = some (true, j) → ds[i]? = some d → ∃ l, d = .lst l
  | [], _, _, _, _, i, j, d, h1, _ => by simp at h1
  | (false, k) :: ts, [], _, _, e, i, j, d, _, h2 => by simp at h2
  | (false, k) :: ts, d0 :: ds, s, s2, e, i, j, d, h1, h2 => by
    have e' : (if okFor h d0 then parS h ts ds (s.set k (.ro d0)) else .stuck) = .nx s2 := e
    by_cases ho : okFor h d0 = true
    · rw [if_pos ho] at e'
      cases i with
      | zero => simp at h1
      | succ i => exact parS_own e' i j d (by simpa using h1) (by simpa using h2)
    · rw [if_neg ho] at e'; cases e'
  | (true, k) :: ts, [], _, _, e, i, j, d, _, h2 => by simp at h2
  | (true, k) :: ts, .lst l :: ds, s, s2, e, i, j, d, h1, h2 => by
    have e' : (if (h || flatAll l) = true then parS h ts ds (s.set k (.own l)) else .stuck) = .nx s2 := e
    by_cases ho : (h || flatAll l) = true
    · rw [if_pos ho] at e'
      cases i with
      | zero => simp at h2; exact ⟨l, h2.symm⟩
      | succ i => exact parS_own e' i j d (by simpa using h1) (by simpa using h2)
    · rw [if_neg ho] at e'; cases e'
  | (true, k) :: ts, .non :: ds, s, s2, e, i, j, d, h1, h2 => by cases e
  | (true, k) :: ts, .bl _ :: ds, s, s2, e, i, j, d, h1, h2 => by cases e
  | (true, k) :: ts, .int _ :: ds, s, s2, e, i, j, d, h1, h2 => by cases e
  | (true, k) :: ts, .str _ :: ds, s, s2, e, i, j, d, h1, h2 => by cases e
  | (true, k) :: ts, .tup _ :: ds, s, s2, e, i, j, d, h1, h2 => by cases e
  | (true, k) :: ts, .scr _ :: ds, s, s2, e, i, j, d, h1, h2 => by cases e
  | (true, k) :: ts, .dct _ _ :: ds, s, s2, e, i, j, d, h1, h2 => by cases e
  | (true, k) :: ts, .dcT _ _ :: ds, s, s2, e, i, j, d, h1, h2 => by cases e
  | (true, k) :: ts, .ob _ _ _ :: ds, s, s2, e, i, j, d, h1, h2 => by cases e
  | (true, k) :: ts, .exc _ :: ds, s, s2, e, i, j, d, h1, h2 => by cases e
theorem parS_cases {h : Bool} : ∀ (ts : List (Bool × Nat)) (ds : List D) (s : SE), (∃ s2, parS h ts ds s = .nx s2) ∨ parS h ts ds s = .stuck
  | [], [], s => .inl ⟨s, rfl⟩
  | [], _ :: _, _ => .inr rfl
  | (false, k) :: ts, [], _ => .inr rfl
  | (false, k) :: ts, d0 :: ds, s => by
    show (∃ s2, (if okFor h d0 then parS h ts ds (s.set k (.ro d0)) else .stuck) = .nx s2) ∨ (if okFor h d0 then parS h ts ds (s.set k (.ro d0)) else .stuck) = .stuck
    by_cases ho : okFor h d0 = true
    · rw [if_pos ho]; exact parS_cases ts ds _
    · rw [if_neg ho]; exact .inr rfl
  | (true, k) :: ts, [], _ => .inr rfl
  | (true, k) :: ts, .lst l :: ds, s => by
    show (∃ s2, (if (h || flatAll l) = true then parS h ts ds (s.set k (.own l)) else .stuck) = .nx s2) ∨ (if (h || flatAll l) = true then parS h ts ds (s.set k (.own l)) else .stuck) = .stuck
    by_cases ho : (h || flatAll l) = true
    · rw [if_pos ho]; exact parS_cases ts ds _
    · rw [if_neg ho]; exact .inr rfl
  | (true, k) :: ts, .non :: ds, s => .inr rfl
  | (true, k) :: ts, .bl _ :: ds, s => .inr rfl
  | (true, k) :: ts, .int _ :: ds, s => .inr rfl
  | (true, k) :: ts, .str _ :: ds, s => .inr rfl
  | (true, k) :: ts, .tup _ :: ds, s => .inr rfl
  | (true, k) :: ts, .scr _ :: ds, s => .inr rfl
  | (true, k) :: ts, .dct _ _ :: ds, s => .inr rfl
  | (true, k) :: ts, .dcT _ _ :: ds, s => .inr rfl
  | (true, k) :: ts, .ob _ _ _ :: ds, s => .inr rfl
  | (true, k) :: ts, .exc _ :: ds, s => .inr rfl
/-- the arguments are reckoned, then stored -/
theorem st_par {h : Bool} {ts : List (Bool × Nat)} {as : EL} {Dn : Ends} {σ : L2.St} {H : Hp} (hp : parOk ts as = true) (q : tSS X W H0 M0 (run1 (.par h ts as)) Dn σ H) :
    tArgs X W ts as σ H fun vs H1 => vs.length = ts.length ∧ ∀ H2, Same X.K H1 H2 → Dn.nx (setVs ts vs σ) H2 := by
  obtain ⟨A, s, r, o⟩ := q
  have o1 : OutS X W H0 M0 (marks M0 A s) H Dn (outE (noExc (evL as (see h s))) fun ds => parS h ts ds s) := o
  cases e : evL as (see h s) with
  | exc c => rw [e] at o1; exact o1.elim
  | stuck => rw [e] at o1; exact o1.elim
  | ok ds =>
    rw [e] at o1
    rcases parS_cases (h := h) ts ds s with ⟨s2, e2⟩ | e2
    · have o2 : OutS X W H0 M0 (marks M0 A s) H Dn (parS h ts ds s) := o1
      rw [e2] at o2
      refine args_run (M := if h then marks M0 A s else M0) (ρ := see h s) hp ?_ ?_ e (parS_own e2) fun vs H' ps s' np nd dp ar => ⟨ar.length, fun H2 s3 => ?_⟩
      · cases h
        · exact r.dmM0
        · exact r.dm
      · cases h
        · exact r.full
        · exact r.hid
      · have rp := r.pend (P := ps) (s'.trans s3) np (fun p hp => by
          obtain ⟨o, e3, mu⟩ := dp p hp
          exact ⟨o, s3.app _ _ e3 (NT.of_mut mu), mu⟩)
        have ar2 := AR.flatten rp.dm e2 (ar.keep s3)
        obtain ⟨A2, r2, sub⟩ := par_store (X := X) ts e2 nd (fun p hp => ⟨r.same.free (np p hp), r.dm0.fresh (np p hp)⟩) ar2 rp
        refine o2 _ H2 A2 r2 ⟨Keep.of_same (s'.trans s3), fun a m => ?_, r.dm.mono (s'.trans s3)⟩
        rcases sub a m with (m | m) | m
        · exact .inl (.inl m)
        · exact .inr (np a m)
        · exact .inl (.inr m)
    · have o2 : OutS X W H0 M0 (marks M0 A s) H Dn (parS h ts ds s) := o1
      rw [e2] at o2
      exact o2.elim
theorem tArgs_mono {σ : L2.St} : ∀ {ts : List (Bool × Nat)} {as : EL} {H : Hp} {Q Q' : List V → Hp → Prop}, tArgs X W ts as σ H Q → (∀ vs H', Q vs H' → Q' vs H') → tArgs X W ts as σ H Q'
  | [], .nil, H, Q, Q', q, w => w _ _ q
  | (b, i) :: ts, .cons a r, H, Q, Q', q, w => by
    cases b with
    | false =>
      obtain ⟨M, ρ, dm, re, o⟩ := (show tS X W (ev a) σ H fun x H1 => tArgs X W ts r σ H1 fun xs H2 => Q (x :: xs) H2 from q)
      refine (show tS X W (ev a) σ H fun x H1 => tArgs X W ts r σ H1 fun xs H2 => Q' (x :: xs) H2 from ⟨M, ρ, dm, re, ?_⟩)
      cases e : ev a ρ with
      | ok d => rw [e] at o; exact fun v H' s' rv => tArgs_mono (o v H' s' rv) fun vs H'' z => w _ _ z
      | exc c => rw [e] at o; exact o
      | stuck => rw [e] at o; exact o
    | true =>
      obtain ⟨M, ρ, dm, re, o⟩ := (show tF X W (ev a) σ H fun x H1 => tArgs X W ts r σ H1 fun xs H2 => Q (x :: xs) H2 from q)
      refine (show tF X W (ev a) σ H fun x H1 => tArgs X W ts r σ H1 fun xs H2 => Q' (x :: xs) H2 from ⟨M, ρ, dm, re, ?_⟩)
      cases e : ev a ρ with
      | ok d =>
        rw [e] at o
        obtain ⟨l, el, o⟩ := o
        exact ⟨l, el, fun p vs H' s' n ep rv => tArgs_mono (o p vs H' s' n ep rv) fun vs H'' z => w _ _ z⟩
      | exc c => rw [e] at o; exact o
      | stuck => rw [e] at o; exact o
  | [], .cons _ _, _, _, _, q, _ => q
  | _ :: _, .nil, _, _, _, q, _ => q
/-! ### the two roads of a, b = x, y -/
theorem lcl_of {sc : Scope} {x : Str} (h : lclB sc x = true) : sc.names.lookup x = some .local := by
  unfold lclB at h
  split at h
  · assumption
  · cases h
theorem blk_fn (xo : XOkS X k W) : X.env.blockKind = .function := by unfold Env.blockKind; rw [xo.kind]; rfl
theorem lcl_not {sc : Scope} {x : Str} (h : lclB sc x = false) : ¬ sc.names.lookup x = some .local := fun e => by
  unfold lclB at h; rw [e] at h; cases h
theorem any_star {vs : List Expr} (h : vs.all notStar = true) : (vs.any fun | .Starred .. => true | _ => false) = false := by
  induction vs with
  | nil => rfl
  | cons v vs ih =>
    rw [List.all_cons, Bool.and_eq_true] at h
    rw [List.any_cons, ih h.2]
    have := h.1
    cases v <;> first | rfl | cases this
theorem star_no {vs : List Expr} (hs : vs.all notStar = true) : ∀ x ∈ vs, (match x with | Expr.Starred _ _ => true | _ => false) = true → False := fun x hx h => by
  have := List.all_eq_true.mp hs x hx
  cases x <;> first | (cases this; done) | (cases h; done)
theorem sw2 {x y : Str} {p q : Pos} {vs : List Expr} {k1 k2 : Nat} {p1 p2 : Pos} {env : PySem.Env} (hb : env.blockKind = .function) (hx : env.kindOf x = some .local) (hy : env.kindOf y = some .local) (hl : p.line = q.line) (hne : ¬ x = y)
    (hf : vs.all (foldedForSure 8) = false) (hc : vs.all (constantsAlone 8) = false) (hs : vs.all notStar = true) (hlen : vs.length = 2) :
    swappedStores [.Tuple [.Name x p, .Name y q] k1 p1] (.Tuple vs k2 p2) env = pure (some [x, y]) := by
  unfold swappedStores
  have hne' : ¬ y = x := fun e => hne e.symm
  have dd : ([x, y] : List Str).eraseDups.length = 2 := by
    simp [List.eraseDups_cons, hne, hne']
  simp [hb, hx, hy, hl, hf, hc, hlen, Expr.pos, dd]
  exact fun v hv h => (star_no hs v hv h).elim
theorem sw3 {x y z : Str} {p q r : Pos} {vs : List Expr} {k1 k2 : Nat} {p1 p2 : Pos} {env : PySem.Env} (hb : env.blockKind = .function) (hx : env.kindOf x = some .local) (hy : env.kindOf y = some .local) (hz : env.kindOf z = some .local) (hl : p.line = q.line) (hl2 : p.line = r.line) (hne : ¬ x = y) (hne2 : ¬ x = z) (hne3 : ¬ y = z)
    (hf : vs.all (foldedForSure 8) = false) (hc : vs.all (constantsAlone 8) = false) (hs : vs.all notStar = true) (hlen : vs.length = 3) :
    swappedStores [.Tuple [.Name x p, .Name y q, .Name z r] k1 p1] (.Tuple vs k2 p2) env = pure (some [x, y, z]) := by
  unfold swappedStores
  have hne' : ¬ y = x := fun e => hne e.symm
  have hne2' : ¬ z = x := fun e => hne2 e.symm
  have hne3' : ¬ z = y := fun e => hne3 e.symm
  have dd : ([x, y, z] : List Str).eraseDups.length = 3 := by
    simp [List.eraseDups_cons, hne, hne', hne2, hne2', hne3, hne3']
  simp [hb, hx, hy, hz, hl, ← hl2, hf, hc, hlen, Expr.pos, dd]
  exact fun v hv h => (star_no hs v hv h).elim
theorem fm_lt {α β : Type} {f : α → Option β} : ∀ {l : List α}, (∃ a ∈ l, f a = none) → (l.filterMap f).length < l.length
  | [], ⟨_, h, _⟩ => by cases h
  | b :: l, ⟨a, h, e⟩ => by
    rw [List.filterMap_cons]
    rcases List.mem_cons.mp h with z | z
    · subst z
      rw [e]
      exact Nat.lt_succ_of_le (List.length_filterMap_le f l)
    · have ih := fm_lt (f := f) (l := l) ⟨a, z, e⟩
      cases f b with
      | none => exact Nat.lt_succ_of_lt ih
      | some c => exact Nat.succ_lt_succ ih
theorem sw_none {ns vs : List Expr} {k1 k2 : Nat} {p1 p2 : Pos} {env : PySem.Env} (h : noSwapB env.scope ns vs = true) : swappedStores [.Tuple ns k1 p1] (.Tuple vs k2 p2) env = pure none := by
  unfold noSwapB at h
  rw [Bool.or_eq_true, Bool.or_eq_true] at h
  unfold swappedStores
  dsimp only
  split
  · rfl
  · rename_i hl
    split
    · rfl
    · split
      · rfl
      · rename_i hn
        split
        · rfl
        · rename_i hf
          exfalso
          rcases h with (h | h) | h
          · exact hf h
          · refine hl ?_
            rw [h]; rfl
          · obtain ⟨e, hm, he⟩ := List.any_eq_true.mp h
            refine hn ?_
            rw [Bool.or_eq_true]
            left
            rw [bne_iff_ne]
            refine Nat.ne_of_lt (fm_lt ⟨e, hm, ?_⟩)
            cases e with
            | Name x p =>
              have hk : lclB env.scope x = false := by simpa [noLcl] using he
              have hk' : ¬ env.kindOf x = some .local := lcl_not hk
              simp [hk']
            | _ => rfl
theorem gNames_vs : ∀ {ts : List (Bool × Nat)} {vs : List V} {σ : L2.St} {H : Hp} {Q : L2.St → Hp → Prop}, vs.length = ts.length → Q (setVs ts vs σ) H → gNames (ts.map fun x => x.2) vs σ H Q
  | [], [], σ, H, Q, _, q => ⟨rfl, q⟩
  | (b, i) :: ts, v :: vs, σ, H, Q, l, q => ⟨v, vs, rfl, gNames_vs (ts := ts) (by simpa using l) q⟩
  | [], _ :: _, _, _, _, l, _ => by simp at l
  | _ :: _, [], _, _, _, l, _ => by simp at l
theorem ps_parG {ts : List (Bool × Nat)} {as : EL} {ns vs : List Expr} {k1 k2 : Nat} {p1 p2 pos : Pos} (xo : XOkS X k W) (g : goodL (GoodX X k) (GC (gm X k)) as) (hn : chkNms X.N X.env.scope (ts.map fun x => x.2) ns = true) (hv : chkL X.N X.env.scope as vs = true) (hp : parOk ts as = true)
    (hd : (ts.map fun x => x.2).Nodup) (hs : (swapB X.env.scope ns vs || noSwapB X.env.scope ns vs) = true) (hz : ts.length ≤ 1000) :
    PS X (.Assign [.Tuple ns k1 p1] (.Tuple vs k2 p2) pos) (fun Dn σ H => tArgs X W ts as σ H fun ws H1 => ws.length = ts.length ∧ ∀ H2, Same X.K H1 H2 → Dn.nx (setVs ts ws σ) H2) := by
  obtain ⟨pa, ns0⟩ := pa_args xo.toXOk g hv hp
  have hss : swapsWithSole [.Tuple ns k1 p1] (.Tuple vs k2 p2) pos.line X.env = pure false := rfl
  by_cases hno : swappedStores [.Tuple ns k1 p1] (.Tuple vs k2 p2) X.env = pure none
  · obtain ⟨a, b⟩ := assign_names (X := X) hn
    refine ps_weak (ps_asg (pe_tup pa) (pg_tup xo.calm (pgs_nms rfl xo.nd xo.hf hn) a b) hss hno rfl) fun Dn σ H q => ?_
    refine tArgs_mono q fun ws H1 z => ?_
    obtain ⟨l, z⟩ := z
    refine ⟨?_, fun p n => ?_⟩
    · rw [l]; exact Nat.le_of_lt (small1000 hz)
    · refine ⟨p, ws, rfl, SqT.of upd_same, by rw [l, List.length_map], ?_⟩
      exact gNames_vs l (z _ (same_new n))
  · have hsw : swapB X.env.scope ns vs = true := by
      cases hb : swapB X.env.scope ns vs with
      | true => rfl
      | false =>
        exfalso
        rw [hb] at hs
        exact hno (sw_none (by simpa using hs))
    match ns, hn, hsw with
    | [.Name x p, .Name y q], hn, hsw =>
      match ts, hn, pa, hd with
      | [(b1, i), (b2, j)], hn, pa, hd =>
        have hn' : (X.N[i]? = some x ∧ locB X.env.scope x = true) ∧ X.N[j]? = some y ∧ locB X.env.scope y = true := by simpa [chkNms, chkNm] using hn
        have hsw' : ((((((lclB X.env.scope x = true ∧ lclB X.env.scope y = true) ∧ p.line = q.line) ∧ ¬ x = y) ∧ vs.all (foldedForSure 8) = false) ∧ vs.all (constantsAlone 8) = false) ∧ vs.all notStar = true) ∧ vs.length = 2 := by
          simp only [swapB, Bool.and_eq_true, Bool.not_eq_true', beq_iff_eq, decide_eq_true_eq, beq_eq_false_iff_ne] at hsw
          exact hsw
        obtain ⟨⟨⟨⟨⟨⟨⟨l1, l2⟩, ln⟩, ne⟩, hf⟩, hc⟩, hst⟩, hlen⟩ := hsw'
        have hw := sw2 (k1 := k1) (k2 := k2) (p1 := p1) (p2 := p2) (blk_fn xo) (lcl_of l1) (lcl_of l2) ln ne hf hc hst hlen
        have hij : i ≠ j := by
          intro e
          subst e
          simp at hd
        match vs, hw, pa with
        | [a, b], hw, pa =>
          refine ps_weak (ps_par xo.calm xo.nd hn'.1.1 hn'.2.1 hij (lcl_of l1) (lcl_of l2) pa hw hss) fun Dn σ H q => ?_
          refine tArgs_mono q fun ws H1 z => ?_
          obtain ⟨l, z⟩ := z
          match ws, l with
          | [v, w], _ => exact ⟨v, w, rfl, z H1 (Same.refl H1)⟩
        | [], hw, pa => simp at hlen
        | [_], hw, pa => simp at hlen
        | _ :: _ :: _ :: _, hw, pa => simp at hlen
      | [], hn, _, _ => cases hn
      | [_], hn, _, _ => simp [chkNms] at hn
      | _ :: _ :: _ :: _, hn, _, _ => simp [chkNms] at hn
    | [.Name x p, .Name y q, .Name z r], hn, hsw =>
      match ts, hn, pa, hd with
      | [(b1, i), (b2, j), (b3, m)], hn, pa, hd =>
        have hn' : (X.N[i]? = some x ∧ locB X.env.scope x = true) ∧ (X.N[j]? = some y ∧ locB X.env.scope y = true) ∧ X.N[m]? = some z ∧ locB X.env.scope z = true := by simpa [chkNms, chkNm] using hn
        have hsw' : ((((((((((lclB X.env.scope x = true ∧ lclB X.env.scope y = true) ∧ lclB X.env.scope z = true) ∧ p.line = q.line) ∧ p.line = r.line) ∧ ¬ x = y) ∧ ¬ x = z) ∧ ¬ y = z) ∧ vs.all (foldedForSure 8) = false) ∧ vs.all (constantsAlone 8) = false) ∧ vs.all notStar = true) ∧ vs.length = 3 := by
          simp only [swapB, Bool.and_eq_true, Bool.not_eq_true', beq_iff_eq, decide_eq_true_eq, beq_eq_false_iff_ne] at hsw
          exact hsw
        obtain ⟨⟨⟨⟨⟨⟨⟨⟨⟨⟨⟨l1, l2⟩, l3⟩, ln⟩, ln2⟩, ne⟩, ne2⟩, ne3⟩, hf⟩, hc⟩, hst⟩, hlen⟩ := hsw'
        have hw := sw3 (k1 := k1) (k2 := k2) (p1 := p1) (p2 := p2) (blk_fn xo) (lcl_of l1) (lcl_of l2) (lcl_of l3) ln ln2 ne ne2 ne3 hf hc hst hlen
        have hd' : (i ≠ j ∧ i ≠ m) ∧ j ≠ m := by simpa using hd
        match vs, hw, pa with
        | [a, b, c], hw, pa =>
          refine ps_weak (ps_par3 xo.calm xo.nd hn'.1.1 hn'.2.1.1 hn'.2.2.1 hd'.1.1 hd'.1.2 hd'.2 (lcl_of l1) (lcl_of l2) (lcl_of l3) pa hw hss) fun Dn σ H q => ?_
          refine tArgs_mono q fun ws H1 z => ?_
          obtain ⟨l, z⟩ := z
          match ws, l with
          | [v, w, u], _ => exact ⟨v, w, u, rfl, z H1 (Same.refl H1)⟩
        | [], hw, pa => simp at hlen
        | [_], hw, pa => simp at hlen
        | [_, _], hw, pa => simp at hlen
        | _ :: _ :: _ :: _ :: _, hw, pa => simp at hlen
      | [], hn, _, _ => cases hn
      | [_], hn, _, _ => simp [chkNms] at hn
      | [_, _], hn, _, _ => simp [chkNms] at hn
      | _ :: _ :: _ :: _ :: _, hn, _, _ => simp [chkNms] at hn
end
end PL

namespace PL
open PySem PySem.Spec PyProof.Rows L2

section
variable {X : Cx} {W : WX} {H0 : Hp} {M0 : Mk} {k : Nat}
theorem few1 {v : Expr} {cp : Pos} (hv : notStar v = true) : ((backTo cp (starEach (v :: []) X.env)).all (fun x => !x.1) && (backToKw cp (keywordEach [] X.env)).all (fun x => x.1.isSome)
      && decide ((v :: ([] : List Expr)).length + ([] : List Keyword).length + (if ([] : List Keyword).isEmpty then 0 else 1) < 30)) = true := by
  rw [star_of hv]; rfl
/-- x.m(v), x a name -/
theorem pe_meth1 {x : Str} {p ap cp : Pos} {i : Nat} {name : Str} {id : String} {r : V → List V → Hp → VK → Prop} {v : Expr} {tv : TE} (slot : Slot "list" name id) (hty : typeOf (.builtin id) = pure (.type "method_descriptor")) (hm : MtR X id r)
    (hN : X.N[i]? = some x) (hvx : Vis X.env.scope x) (hok : okName x = true) (hv : PE X v tv) (ns : notStar v = true) (hl : (ap.endLine == cp.line) = true) :
    PE X (.Call (.Attribute (.Name x p) name ap) [v] [] cp) (tBM X.K "list" r (tVar i) (tCons tv tNil)) :=
  pe_bm PySem.F.plainAttrs_list slot hty hm (pe_var hN hvx (okName_of hok).1 (okName_of hok).2) (pa_cons hv pa_nil (star_of ns [] X.env)) rfl (few1 ns) hl (star_of ns [] X.env) rfl
theorem own_len {K : PySem.W.Frag} {H : Hp} {M : Mk} {vs : List V} {l : List D} (r : RepAll K M H vs l) (h : l.length < sizeD) : vs.length < sizeLine := by
  rw [r.length]; exact Nat.lt_trans h sizeD_lt
theorem own_of {s : SE} {i : Nat} {f : List D → Out} {M : Mk} {H : Hp} {Dn : Ends} (o : OutS X W H0 M0 M H Dn (withOwn s i f)) : ∃ l, s[i]? = some (.own l) ∧ OutS X W H0 M0 M H Dn (f l) := by
  unfold withOwn at o
  split at o
  · rename_i l e; exact ⟨l, e, o⟩
  · exact o.elim
theorem st_app {h : Bool} {i : Nat} {e : E} {Dn : Ends} {σ : L2.St} {H : Hp} (q : tSS X W H0 M0 (run1 (.app h i e)) Dn σ H) : tDrop (tBM X.K "list" rAppend (tVar i) (tCons (tS X W (ev e)) tNil)) Dn σ H := by
  obtain ⟨A, s, r, o⟩ := q
  obtain ⟨l, es, o⟩ := own_of o
  obtain ⟨ai, eA, n0, nm, ev1, vs, hl, ra⟩ := r.ownL i l es
  refine ⟨_, ev1, .inl ⟨rfl, _, SqL.of hl⟩, ?_⟩
  refine see_out (h := h) r o fun d v H' e1 s' rv r' o' => ?_
  unfold appD at o'
  by_cases hc : (okFor h d && decide (l.length < sizeD)) = true
  · rw [if_pos hc] at o'
    rw [Bool.and_eq_true] at hc
    refine ⟨ai, vs, v, rfl, rfl, s'.get _ _ hl, own_len ra (of_decide_eq_true hc.2), ?_⟩
    obtain ⟨r2, f2⟩ := r'.upd (vs := vs ++ [v]) (l' := l ++ [d]) es eA ((ra.same s').append (.cons (rep_ok r' rv hc.1) .nil))
    exact o' σ _ A r2 ((Frame.grow r.dm s' fun _ m => m).trans f2)
  · rw [if_neg hc] at o'; exact o'.elim
theorem st_extd {h : Bool} {i : Nat} {e : E} {Dn : Ends} {σ : L2.St} {H : Hp} (q : tSS X W H0 M0 (run1 (.extd h i e)) Dn σ H) : tDrop (tBM X.K "list" rExtend (tVar i) (tCons (tS X W (ev e)) tNil)) Dn σ H := by
  obtain ⟨A, s, r, o⟩ := q
  obtain ⟨l, es, o⟩ := own_of o
  obtain ⟨ai, eA, n0, nm, ev1, vs, hl, ra⟩ := r.ownL i l es
  refine ⟨_, ev1, .inl ⟨rfl, _, SqL.of hl⟩, ?_⟩
  refine see_out (h := h) r o fun d v H' e1 s' rv r' o' => ?_
  cases d with
  | lst ds =>
    have o2 : OutS X W H0 M0 (marks M0 A s) H Dn (if ((h || flatAll ds) && decide (l.length + ds.length < sizeD)) = true then .nx (s.set i (.own (l ++ ds))) else .stuck) := o'
    by_cases hc : ((h || flatAll ds) && decide (l.length + ds.length < sizeD)) = true
    · rw [if_pos hc] at o2
      rw [Bool.and_eq_true] at hc
      cases rv with
      | @lst b zs _ sq m rb =>
        refine ⟨ai, b, vs, zs, rfl, rfl, s'.get _ _ hl, sq, ?_, ?_⟩
        · rw [ra.length, rb.length]
          exact Nat.le_of_lt (Nat.lt_trans (of_decide_eq_true hc.2) sizeD_lt)
        · obtain ⟨r2, f2⟩ := r'.upd (vs := vs ++ zs) (l' := l ++ ds) es eA ((ra.same s').append (repAll_ok r' rb hc.1))
          exact o2 σ _ A r2 ((Frame.grow r.dm s' fun _ m => m).trans f2)
    · rw [if_neg hc] at o2; exact o2.elim
  | _ => exact o'.elim
theorem st_six {h : Bool} {i : Nat} {x e : E} {Dn : Ends} {σ : L2.St} {H : Hp} (q : tSS X W H0 M0 (run1 (.six h i x e)) Dn σ H) : tAsg (tS X W (ev e)) (gSub (tVar i) (tS X W (ev x)) rSetL) Dn σ H := by
  obtain ⟨A, s, r, o⟩ := q
  obtain ⟨l, es, o⟩ := own_of o
  obtain ⟨ai, eA, n0, nm, ev1, vs, hl, ra⟩ := r.ownL i l es
  refine see_out (h := h) r o fun d v H' e1 s' rv r' o' => ?_
  refine ⟨_, ev1, ?_⟩
  refine ⟨M0, full s, r'.dmM0, r'.full, ?_⟩
  cases e2 : ev x (full s) with
  | exc c => rw [e2] at o'; exact o'.elim
  | stuck => rw [e2] at o'; exact o'.elim
  | ok kd =>
    rw [e2] at o'
    intro kv H2 s2 rk
    cases kd with
    | int n =>
      cases rk
      have o2 : OutS X W H0 M0 (marks M0 A s) H Dn (match ixN l.length n with | some j => if okFor h d then .nx (s.set i (.own (l.set j d))) else .stuck | none => .stuck) := o'
      cases e3 : ixN l.length n with
      | none => rw [e3] at o2; exact o2.elim
      | some j =>
        rw [e3] at o2
        by_cases hc : okFor h d = true
        · dsimp only at o2
          rw [if_pos hc] at o2
          have s12 := s'.trans s2
          refine ⟨ai, vs, n, j, rfl, rfl, s12.get _ _ hl, by rw [ra.length]; exact e3, ?_⟩
          have r2 := r'.grow s2
          obtain ⟨r3, f3⟩ := r2.upd (vs := vs.set j v) (l' := l.set j d) es eA ((ra.same s12).set ((rep_ok r' rv hc).same s2) j)
          exact o2 σ _ A r3 ((Frame.grow r.dm s12 fun _ m => m).trans f3)
        · dsimp only at o2
          rw [if_neg hc] at o2; exact o2.elim
    | _ => exact o'.elim
theorem st_pop {i : Nat} {Dn : Ends} {σ : L2.St} {H : Hp} (q : tSS X W H0 M0 (run1 (.pop i)) Dn σ H) : tDrop (tBM0 X.K "list" rPop (tVar i)) Dn σ H := by
  obtain ⟨A, s, r, o⟩ := q
  obtain ⟨l, es, o⟩ := own_of o
  obtain ⟨ai, eA, n0, nm, ev1, vs, hl, ra⟩ := r.ownL i l es
  unfold popD at o
  by_cases hc : l.isEmpty = true
  · rw [if_pos hc] at o; exact o.elim
  · rw [if_neg hc] at o
    have hne : 0 < vs.length := by
      rw [ra.length]
      cases l with
      | nil => exact absurd rfl hc
      | cons a b => exact Nat.succ_pos _
    refine ⟨_, ev1, .inl ⟨rfl, _, SqL.of hl⟩, ai, vs, vs[vs.length - 1], rfl, rfl, hl, List.getElem?_eq_getElem (by omega), ?_⟩
    obtain ⟨r2, f2⟩ := r.upd (vs := vs.dropLast) (l' := l.dropLast) es eA ra.dropLast
    exact o σ _ A r2 f2
theorem st_raise {c : Str} {Dn : Ends} {σ : L2.St} {H : Hp} {C : Addr} (g : X.mg c = some (.ref C)) (q : tSS X W H0 M0 (run1 (.raise c)) Dn σ H) : W (.ref C) none σ H := by
  obtain ⟨A, s, r, o⟩ := q
  have := o σ H r.same (Frame.grow r.dm (Same.refl H) fun a => .inl)
  unfold excV at this
  rw [g] at this
  exact this
theorem assign_sub {o i : Expr} {pos : Pos} (h : notSlice i = true) : ∀ u, assign (.Subscript o i pos) X.env u = (do
      let ov ← holding [u] (eval o X.env)
      let iv ← holding [u, ov] (eval i X.env)
      standAt pos
      holding [u, ov, iv] (setItem ov iv u)
      release [u, ov, iv] []) := by intro _; cases i <;> first | rfl | cases h
end
end PL

namespace PL
open PySem PySem.Spec PyProof.Rows L2
theorem optM {α : Type} {o : Option α} {f : α → Bool} (h : oB o f = true) : ∃ a, o = some a ∧ f a = true := by
  cases o with
  | none => cases h
  | some a => exact ⟨a, rfl, h⟩
theorem chkV_of {N : List Str} {sc : Scope} {i : Nat} {x : Str} (h : chkV N sc i x = true) : N[i]? = some x ∧ Vis sc x ∧ okName x = true := by
  unfold chkV at h
  rw [Bool.and_eq_true, Bool.and_eq_true, decide_eq_true_eq] at h
  exact ⟨h.1.1, vis_of h.1.2, h.2⟩
theorem chkM_of {N : List Str} {sc : Scope} {i : Nat} {e : E} {name : Str} {st : Stmt} (h : chkM N sc i e name st = true) :
    ∃ x p ap v cp pos, st = .Expr (.Call (.Attribute (.Name x p) name ap) [v] [] cp) pos ∧ N[i]? = some x ∧ Vis sc x ∧ okName x = true ∧ chk N sc e v = true ∧ notStar v = true ∧ (ap.endLine == cp.line) = true := by
  unfold chkM at h
  split at h
  · rename_i x p m ap v cp e1
    rw [Bool.and_eq_true, Bool.and_eq_true, Bool.and_eq_true, Bool.and_eq_true, decide_eq_true_eq] at h
    obtain ⟨⟨⟨⟨h1, h2⟩, h3⟩, h4⟩, h5⟩ := h
    obtain ⟨pos, rfl⟩ := asMeth_eq e1
    obtain ⟨a, b, c⟩ := chkV_of h1
    subst h2
    exact ⟨x, p, ap, v, cp, pos, rfl, a, b, c, h3, h4, h5⟩
  · cases h
section
variable {X : Cx} {W : WX} {H0 : Hp} {M0 : Mk} {k : Nat}
theorem snd_set {hd : Bool} {i : Nat} {e : E} (xo : XOkS X k W) (g : good (GoodX X k) (GC (gm X k)) e) {st : Stmt} (h : chkS1 X.N X.env.scope (.set hd i e) st = true) : PS X st (tSS X W H0 M0 (run1 (.set hd i e))) := by
  obtain ⟨⟨x, p, v⟩, e1, hh⟩ := optM (o := asName st) (f := fun t => chkNm X.N X.env.scope i (.Name t.1 t.2.1) && chk X.N X.env.scope e t.2.2 && (isComp e || notComp t.2.2)) h
  obtain ⟨pos, rfl⟩ := asName_eq e1
  rw [Bool.and_eq_true, Bool.and_eq_true] at hh
  exact ps_weak (ps_setG xo hh.1.1 g hh.1.2 hh.2).1 fun Dn σ H q => st_set q
theorem snd_own {hd : Bool} {i : Nat} {e : E} (xo : XOkS X k W) (g : good (GoodX X k) (GC (gm X k)) e) {st : Stmt} (h : chkS1 X.N X.env.scope (.own hd i e) st = true) : PS X st (tSS X W H0 M0 (run1 (.own hd i e))) := by
  obtain ⟨⟨x, p, v⟩, e1, hh⟩ := optM (o := asName st) (f := fun t => chkNm X.N X.env.scope i (.Name t.1 t.2.1) && chk X.N X.env.scope e t.2.2 && (isComp e || notComp t.2.2) && freshE e) h
  obtain ⟨pos, rfl⟩ := asName_eq e1
  rw [Bool.and_eq_true, Bool.and_eq_true, Bool.and_eq_true] at hh
  exact ps_weak ((ps_setG xo hh.1.1.1 g hh.1.1.2 hh.1.2).2 hh.2) fun Dn σ H q => st_own q
theorem swap_unp {ts : List Expr} {kk : Nat} {p : Pos} {v : Expr} (h3 : notTup v = true) : swappedStores [.Tuple ts kk p] v X.env = pure none := by
  unfold swappedStores
  cases v <;> first | rfl | cases h3
theorem swaps_other {t v : Expr} {l : Nat} (h : nameOf t = none) : swapsWith v (some t) l X.env = pure false := by
  cases v with
  | ListComp a b c d => cases t <;> first | rfl | cases h
  | SetComp a b c d => cases t <;> first | rfl | cases h
  | DictComp a b c d f => cases t <;> first | rfl | cases h
  | _ => rfl
theorem snd_unp {hd : Bool} {is : List Nat} {e : E} (xo : XOkS X k W) (g : good (GoodX X k) (GC (gm X k)) e) {st : Stmt} (h : chkS1 X.N X.env.scope (.unp hd is e) st = true) : PS X st (tSS X W H0 M0 (run1 (.unp hd is e))) := by
  obtain ⟨⟨ts, v⟩, e1, hh⟩ := optM (o := asTup st) (f := fun t => chkNms X.N X.env.scope is t.1 && chk X.N X.env.scope e t.2 && notTup t.2) h
  obtain ⟨kk, p, pos, rfl⟩ := asTup_eq e1
  rw [Bool.and_eq_true, Bool.and_eq_true] at hh
  obtain ⟨⟨h1, h2⟩, h3⟩ := hh
  have se := snd_e e xo.toXOk g v h2
  obtain ⟨a, b⟩ := assign_names (X := X) h1
  have pg : PG X (.Tuple ts kk p) (gOr (gTup X.K is.length (gNames is)) (gLst X.K is.length (gNames is))) :=
    pg_or (pg_tup xo.calm (pgs_nms rfl xo.nd xo.hf h1) a b) (pg_lst xo.calm (pgs_nms rfl xo.nd xo.hf h1) a b)
  exact ps_weak (ps_asg se.pe pg (show swapsWith v (some (.Tuple ts kk p)) pos.line X.env = pure false from swaps_other (t := .Tuple ts kk p) rfl) (swap_unp h3) rfl) fun Dn σ H q => st_unp q
theorem snd_par {hd : Bool} {ts : List (Bool × Nat)} {as : EL} (xo : XOkS X k W) (g : goodL (GoodX X k) (GC (gm X k)) as) {st : Stmt} (h : chkS1 X.N X.env.scope (.par hd ts as) st = true) : PS X st (tSS X W H0 M0 (run1 (.par hd ts as))) := by
  obtain ⟨⟨ns, v⟩, e1, hh⟩ := optM (o := asTup st) (f := fun t => oB (tupE t.2) fun vs => chkNms X.N X.env.scope (ts.map fun (x : Bool × Nat) => x.2) t.1 && chkL X.N X.env.scope as vs && parOk ts as && decide ((ts.map fun (x : Bool × Nat) => x.2).Nodup) && (swapB X.env.scope t.1 vs || noSwapB X.env.scope t.1 vs) && decide (ts.length ≤ 1000)) h
  obtain ⟨k1, p1, pos, rfl⟩ := asTup_eq e1
  obtain ⟨vs, e2, hk⟩ := optM (o := tupE v) (f := fun vs => chkNms X.N X.env.scope (ts.map fun (x : Bool × Nat) => x.2) ns && chkL X.N X.env.scope as vs && parOk ts as && decide ((ts.map fun (x : Bool × Nat) => x.2).Nodup) && (swapB X.env.scope ns vs || noSwapB X.env.scope ns vs) && decide (ts.length ≤ 1000)) hh
  obtain ⟨k2, p2, rfl⟩ := tupE_eq e2
  rw [Bool.and_eq_true, Bool.and_eq_true, Bool.and_eq_true, Bool.and_eq_true, Bool.and_eq_true, decide_eq_true_eq, decide_eq_true_eq] at hk
  obtain ⟨⟨⟨⟨⟨h1, h2⟩, h3⟩, h4⟩, h5⟩, h6⟩ := hk
  exact ps_weak (ps_parG xo g h1 h2 h3 h4 h5 h6) fun Dn σ H q => st_par h3 q
theorem snd_expr {e : E} (xo : XOkS X k W) (g : good (GoodX X k) (GC (gm X k)) e) {st : Stmt} (h : chkS1 X.N X.env.scope (.expr e) st = true) : PS X st (tSS X W H0 M0 (run1 (.expr e))) := by
  obtain ⟨v, e1, hh⟩ := optM (o := asExpr st) (f := fun v => chk X.N X.env.scope e v && notComp v) h
  obtain ⟨pos, rfl⟩ := asExpr_eq e1
  rw [Bool.and_eq_true] at hh
  exact ps_weak (ps_expr (snd_e e xo.toXOk g v hh.1).pe (swaps_no hh.2)) fun Dn σ H q => st_expr q
theorem snd_app {hd : Bool} {i : Nat} {e : E} (xo : XOkS X k W) (g : good (GoodX X k) (GC (gm X k)) e) {st : Stmt} (h : chkS1 X.N X.env.scope (.app hd i e) st = true) : PS X st (tSS X W H0 M0 (run1 (.app hd i e))) := by
  obtain ⟨x, p, ap, v, cp, pos, rfl, h1, h2, h3, h5, h6, h7⟩ := chkM_of h
  exact ps_weak (ps_expr (pe_meth1 PySem.F.slot_list_append PySem.F.type_list_append mt_append h1 h2 h3 (snd_e e xo.toXOk g v h5).pe h6 h7)) fun Dn σ H q => st_app q
theorem snd_extd {hd : Bool} {i : Nat} {e : E} (xo : XOkS X k W) (g : good (GoodX X k) (GC (gm X k)) e) {st : Stmt} (h : chkS1 X.N X.env.scope (.extd hd i e) st = true) : PS X st (tSS X W H0 M0 (run1 (.extd hd i e))) := by
  obtain ⟨x, p, ap, v, cp, pos, rfl, h1, h2, h3, h5, h6, h7⟩ := chkM_of h
  exact ps_weak (ps_expr (pe_meth1 PySem.F.slot_list_extend PySem.F.type_list_extend mt_extend h1 h2 h3 (snd_e e xo.toXOk g v h5).pe h6 h7)) fun Dn σ H q => st_extd q
theorem snd_six {hd : Bool} {i : Nat} {ix e : E} (xo : XOkS X k W) (gx : good (GoodX X k) (GC (gm X k)) ix) (g : good (GoodX X k) (GC (gm X k)) e) {st : Stmt} (h : chkS1 X.N X.env.scope (.six hd i ix e) st = true) : PS X st (tSS X W H0 M0 (run1 (.six hd i ix e))) := by
  obtain ⟨⟨x, p, y, v⟩, e1, hh⟩ := optM (o := asSub st) (f := fun t => chkV X.N X.env.scope i t.1 && chk X.N X.env.scope ix t.2.2.1 && chk X.N X.env.scope e t.2.2.2 && notSlice t.2.2.1) h
  obtain ⟨q, pos, rfl⟩ := asSub_eq e1
  rw [Bool.and_eq_true, Bool.and_eq_true, Bool.and_eq_true] at hh
  obtain ⟨⟨⟨h1, h2⟩, h3⟩, h4⟩ := hh
  obtain ⟨a, b, c⟩ := chkV_of h1
  exact ps_weak (ps_asg (snd_e e xo.toXOk g v h3).pe (pg_sub (pe_var a b (okName_of c).1 (okName_of c).2) (snd_e ix xo.toXOk gx y h2).pe set_list (assign_sub h4)) (show swapsWith v (some (.Subscript (.Name x p) y q)) pos.line X.env = pure false from swaps_other (t := .Subscript (.Name x p) y q) rfl) rfl rfl) fun Dn σ H q => st_six q
theorem snd_pop {i : Nat} {st : Stmt} (h : chkS1 X.N X.env.scope (.pop i) st = true) : PS X st (tSS X W H0 M0 (run1 (.pop i))) := by
  obtain ⟨⟨x, p, m, ap, as, cp⟩, e1, hh⟩ := optM (o := asMeth st) (f := fun t => chkV X.N X.env.scope i t.1 && decide (t.2.2.1 = "pop") && (t.2.2.2.1.endLine == t.2.2.2.2.2.line) && t.2.2.2.2.1.isEmpty) h
  obtain ⟨pos, rfl⟩ := asMeth_eq e1
  rw [Bool.and_eq_true, Bool.and_eq_true, Bool.and_eq_true, decide_eq_true_eq] at hh
  obtain ⟨⟨⟨h1, h2⟩, h3⟩, h4⟩ := hh
  have h2' : m = "pop" := h2
  have h4' : as = [] := by simpa using h4
  subst h2' h4'
  obtain ⟨a, b, c⟩ := chkV_of h1
  exact ps_weak (ps_expr (pe_bm0 PySem.F.plainAttrs_list PySem.F.slot_list_pop PySem.F.type_list_pop mt_pop (pe_var a b (okName_of c).1 (okName_of c).2) rfl h3)) fun Dn σ H q => st_pop q
theorem snd_ret {e : E} (xo : XOkS X k W) (g : good (GoodX X k) (GC (gm X k)) e) {st : Stmt} (h : chkS1 X.N X.env.scope (.ret e) st = true) : PS X st (tSS X W H0 M0 (run1 (.ret e))) := by
  obtain ⟨v, e1, hh⟩ := optM (o := asRet st) (f := fun v => chk X.N X.env.scope e v) h
  obtain ⟨pos, rfl⟩ := asRet_eq e1
  exact ps_weak (ps_ret (snd_e e xo.toXOk g v hh).pe) fun Dn σ H q => st_ret q
theorem for_set {N : List Str} {sc : Scope} {it : IT} {t i : Expr} (h2 : chkI N sc it t i = true) (v : Value) : foldedSetIterable i X.env v = pure v := by
  refine notSet_folded ?_ v
  cases i with
  | Set a b c =>
    cases it with
    | seq a => simp [chkI] at h2
    | _ => cases h2
  | _ => rfl
theorem snd_raise {c : Str} (xo : XOkS X k W) (g : RaiseC X.K X.mg c) {st : Stmt} (h : chkS1 X.N X.env.scope (.raise c) st = true) : PS X st (tSS X W H0 M0 (run1 (.raise c))) := by
  obtain ⟨x, e1, hh⟩ := optM (o := asRaise st) (f := fun x => decide (c = x) && glB X.env.scope x && okName x) h
  obtain ⟨p, m, j, p2, p3, pos, rfl⟩ := asRaise_eq e1
  rw [Bool.and_eq_true, Bool.and_eq_true, decide_eq_true_eq] at hh
  obtain ⟨⟨h1, h2⟩, h3⟩ := hh
  subst h1
  obtain ⟨C, g1, g2, g3, g4, g5⟩ := g.ex
  exact ps_weak (ps_raise xo.calm xo.tk (pmk_own PySem.F.excBase_ValueError g2 g1 g3 (raises_own g4 g5) (gl_of h2) (okName_of h3).1)) fun Dn σ H q => st_raise g1 q
end
mutual
theorem snd_S : ∀ (b : S) {X : Cx} {k : Nat} {W : WX} {H0 : Hp} {M0 : Mk}, XOkS X k W → goodS (GoodX X k) (GC (gm X k)) (RaiseC X.K X.mg) b → ∀ sts, chkS X.N X.env.scope b sts = true → PSs X sts (tSS X W H0 M0 (run b))
  | .nil, X, k, W, H0, M0, xo, g, sts, h => by
    cases sts with
    | nil =>
      refine pss_weak pss_nil fun Dn σ H q => ?_
      obtain ⟨A, s, r, o⟩ := q
      exact o σ H A r (Frame.refl r.dm)
    | cons a b => cases h
  | .cons a r, X, k, W, H0, M0, xo, g, sts, h => by
    cases sts with
    | nil => cases h
    | cons st sts =>
      have h' : (chkS1 X.N X.env.scope a st && chkS X.N X.env.scope r sts) = true := h
      rw [Bool.and_eq_true] at h'
      exact pss_weak (pss_cons (snd_S1 a xo g.1 st h'.1) (snd_S r xo g.2 sts h'.2)) fun Dn σ H q => s_seq q
  | .frz i r, X, k, W, H0, M0, xo, g, sts, h => by
    have h' : chkS X.N X.env.scope r sts = true := by cases sts <;> exact h
    refine pss_weak (snd_S r (H0 := H0) (M0 := M0) xo g sts h') fun Dn σ H q => ?_
    obtain ⟨A, s, re, o⟩ := q
    have o1 : OutS X W H0 M0 (marks M0 A s) H Dn (match s[i]? with | some (.own l) => run r (s.set i (.ro (.lst l))) | some (.odt d) => run r (s.set i (.ro d)) | some (.tre _ o) => run r (s.set i (.ro o.d)) | _ => run r s) := o
    cases e : s[i]? with
    | none => rw [e] at o1; exact ⟨A, s, re, o1⟩
    | some x =>
      rw [e] at o1
      cases x with
      | no => exact ⟨A, s, re, o1⟩
      | ro d => exact ⟨A, s, re, o1⟩
      | obj c d => exact ⟨A, s, re, o1⟩
      | tre p o => exact ⟨A, _, re.freezeT e, OutS.mono o1 ⟨Keep.refl _ _, fun a m => .inl (marks_set_sub a m), re.dm⟩⟩
      | odt d => exact ⟨A, _, re.freezeD e, OutS.mono o1 ⟨Keep.refl _ _, fun a m => .inl (marks_set_sub a m), re.dm⟩⟩
      | own l => exact ⟨A, _, re.freeze e, OutS.mono o1 ⟨Keep.refl _ _, fun a m => .inl (marks_set_sub a m), re.dm⟩⟩
theorem snd_S1 : ∀ (b : S1) {X : Cx} {k : Nat} {W : WX} {H0 : Hp} {M0 : Mk}, XOkS X k W → goodS1 (GoodX X k) (GC (gm X k)) (RaiseC X.K X.mg) b → ∀ st, chkS1 X.N X.env.scope b st = true → PS X st (tSS X W H0 M0 (run1 b))
  | .set hd i e, X, k, W, H0, M0, xo, g, st, h => snd_set xo g h
  | .own hd i e, X, k, W, H0, M0, xo, g, st, h => snd_own xo g h
  | .unp hd is e, X, k, W, H0, M0, xo, g, st, h => snd_unp xo g h
  | .par hd ts as, X, k, W, H0, M0, xo, g, st, h => snd_par xo g h
  | .expr e, X, k, W, H0, M0, xo, g, st, h => snd_expr xo g h
  | .app hd i e, X, k, W, H0, M0, xo, g, st, h => snd_app xo g h
  | .extd hd i e, X, k, W, H0, M0, xo, g, st, h => snd_extd xo g h
  | .six hd i ix e, X, k, W, H0, M0, xo, g, st, h => snd_six xo g.1 g.2 h
  | .pop i, X, k, W, H0, M0, xo, g, st, h => snd_pop h
  | .ret e, X, k, W, H0, M0, xo, g, st, h => snd_ret xo g h
  | .ite c a b, X, k, W, H0, M0, xo, g, st, h => by
    obtain ⟨⟨x, y, z⟩, e1, hh⟩ := optM (o := asIf st) (f := fun t => chk X.N X.env.scope c t.1 && chkS X.N X.env.scope a t.2.1 && chkS X.N X.env.scope b t.2.2) h
    obtain ⟨pos, rfl⟩ := asIf_eq e1
    rw [Bool.and_eq_true, Bool.and_eq_true] at hh
    exact ps_weak (ps_if (snd_e c xo.toXOk g.1 x hh.1.1).pt (snd_S a xo g.2.1 y hh.1.2) (snd_S b xo g.2.2 z hh.2)) fun Dn σ H q => st_ite q
  | .for_ tg it b, X, k, W, H0, M0, xo, g, st, h => by
    obtain ⟨⟨t, i, body⟩, e1, hh⟩ := optM (o := asFor st) (f := fun t => chkTg X.N X.env.scope tg t.1 && chkI X.N X.env.scope it t.1 t.2.1 && chkS X.N X.env.scope b t.2.2) h
    obtain ⟨pos, rfl⟩ := asFor_eq e1
    rw [Bool.and_eq_true, Bool.and_eq_true] at hh
    obtain ⟨⟨h1, h2⟩, h3⟩ := hh
    exact ps_weak (ps_for xo.po xo.calm (snd_I it xo.toXOk g.1 t i h2) (pg_tg xo.calm rfl xo.nd xo.hf h1) (snd_S b xo g.2 body h3) (for_set h2)) fun Dn σ H q => st_for q
  | .while_ n c b, X, k, W, H0, M0, xo, g, st, h => by
    obtain ⟨⟨x, body⟩, e1, hh⟩ := optM (o := asWhile st) (f := fun t => chk X.N X.env.scope c t.1 && chkS X.N X.env.scope b t.2) h
    obtain ⟨pos, rfl⟩ := asWhile_eq e1
    rw [Bool.and_eq_true] at hh
    exact ps_weak (ps_while xo.po (snd_e c xo.toXOk g.1 x hh.1).pt (snd_S b xo g.2 body hh.2)) fun Dn σ H q => st_while q
  | .raise c, X, k, W, H0, M0, xo, g, st, h => snd_raise xo g h
  | .atom q, X, k, W, H0, M0, xo, g, st, h => by
    have g' : AtomSG (GoodX X k) (GC (gm X k)) (RaiseC X.K X.mg) q := g
    exact g' X k W H0 M0 xo rfl rfl rfl st h
  | .never, X, k, W, H0, M0, xo, g, st, h => by
    refine ps_weak ps_never fun Dn σ H q => ?_
    obtain ⟨A, s, r, o⟩ := q
    exact o.elim
end
end PL

namespace PL
open PySem PySem.Spec PyProof.Rows L2
/-! ## a def by its body -/
def startS (n : Nat) (ds : List D) : SE := ds.map Sl.ro ++ List.replicate (n - ds.length) .no
def outR : Out → Res D
  | .rt d => .ok d
  | .nx _ => .ok .non
  | .exc c => .exc c
  | .stuck => .stuck
def callD (n np : Nat) (b : S) : List D → Res D := fun ds => if ds.length = np then outR (run b (startS n ds)) else .stuck
theorem startS_no {n : Nat} {ds : List D} {i : Nat} {l : List D} : (startS n ds)[i]? ≠ some (.own l) := by
  unfold startS
  intro h
  by_cases hi : i < (ds.map Sl.ro).length
  · rw [List.getElem?_append_left hi, List.getElem?_map] at h
    cases e : ds[i]? with
    | none => rw [e] at h; cases h
    | some d => rw [e] at h; cases h
  · rw [List.getElem?_append_right (Nat.le_of_not_lt hi), List.getElem?_replicate] at h
    split at h <;> cases h
theorem startS_noG {n : Nat} {ds : List D} {i : Nat} {q : OP} : owAt (startS n ds) i ≠ some q := by
  unfold owAt startS
  intro h
  by_cases hi : i < (ds.map Sl.ro).length
  · rw [List.getElem?_append_left hi, List.getElem?_map] at h
    cases e : ds[i]? with
    | none => rw [e] at h; cases h
    | some d => rw [e] at h; cases h
  · rw [List.getElem?_append_right (Nat.le_of_not_lt hi), List.getElem?_replicate] at h
    split at h <;> cases h
theorem startS_ro {n : Nat} {ds : List D} {i : Nat} {d : D} (h : (startS n ds)[i]? = some (.ro d)) : ds[i]? = some d := by
  unfold startS at h
  by_cases hi : i < (ds.map Sl.ro).length
  · rw [List.getElem?_append_left hi, List.getElem?_map] at h
    cases e : ds[i]? with
    | none => rw [e] at h; cases h
    | some d' => rw [e] at h; cases h; rfl
  · rw [List.getElem?_append_right (Nat.le_of_not_lt hi), List.getElem?_replicate] at h
    split at h <;> cases h
theorem startV_get {N : List Str} {vs : List V} {i : Nat} {v : V} (h : vs[i]? = some v) : (L2.start N vs)[i]? = some (some v) := by
  unfold L2.start
  have hi : i < vs.length := (List.getElem?_eq_some_iff.mp h).1
  rw [List.getElem?_append_left (by rw [List.length_map]; exact hi), List.getElem?_map, h]
  rfl
section
variable {P : Program} {w : World} {K : PySem.W.Frag} {mg : Str → Option Value} {base : Heap}
theorem relS_start {N : List Str} {vs : List V} {ds : List D} {M : Mk} {H : Hp} (tb : TabsK K H) (dm : DomM M H) (r : RepAll K M H vs ds) : RelS K H M (fun _ => []) (L2.start N vs) H (startS N.length ds) := by
  refine ⟨?_, Same.refl H, dm, fun i j l l' a e => absurd e startS_noG, fun i l e => absurd e startS_noG, fun i d e => ?_, tb⟩
  · unfold L2.start startS
    rw [List.length_append, List.length_append, List.length_map, List.length_map, List.length_replicate, List.length_replicate, r.length]
  · obtain ⟨v, h1, h2⟩ := r.get (startS_ro e)
    refine ⟨v, startV_get h1, Rep.weak (fun a m => ?_) _ _ h2⟩
    rcases m with m | ⟨i, l, e, _⟩
    · exact m
    · exact absurd e startS_noG
theorem str_cancel {a b c : Str} (h : a ++ c = b ++ c) : a = b := by
  have e : a.cps ++ c.cps = b.cps ++ c.cps := congrArg Str.cps h
  cases a; cases b
  congr 1
  exact Array.append_left_inj c.cps |>.mp e
theorem code_is {name qual n : Str} {params : Arguments} {body : List Stmt} {scope : Scope} {f : Addr} {dV kV doc pm cdv ct oc : Value} {an od : Option Addr} {osl : Array (Option Value)} (hlam : qual ∈ lamNames → f = He.fAd K (qual, none))
    (lk : K.lookup f = some ⟨oc, od, .func (PySem.W.fnOf name qual params body scope dV kV doc pm an cdv ct), osl⟩) (hcd : PySem.W.codeIn K cdv qual = true) (hn : n ∈ lamNames) (e : qual ++ ".<locals>." = n ++ ".<locals>.") : cdv = .ref (He.cT K (n, none)).1 := by
  have q := str_cancel e
  subst q
  have hf := hlam hn
  subst hf
  obtain ⟨c, rfl⟩ := He.codeIn_ref hcd
  have := He.codeOf_eq lk (c := c) rfl
  show Value.ref c = .ref (He.codeOf K (qual, none))
  rw [this]
theorem fnOk_of {x qual : Str} {params : Arguments} {body : List Stmt} {scope : Scope} {kws : List (Str × V)} {f : Addr} {fd : FuncData} {N ps : List Str} {k : Nat} {b : S} (F : FunD K x qual params body scope [] kws f fd) (S : FnScope N ps scope)
    (bf : ∀ y ∈ bnames, mg y = none) (tb : TabBs K mg base) (hlam : qual ∈ lamNames → f = He.fAd K (qual, none)) (g : goodS (GoodF P w K mg base k) (GC ⟨P, w, K, mg, base, k, qual ++ ".<locals>."⟩) (RaiseC K mg) b) (hc : chkS N scope b body = true) : FnOk P w K mg base (L2.CX P w) (k + 1) f fd ps (spD K mg ps.length (callD N.length ps.length b)) := by
  obtain ⟨oc, od, dV, kV, doc, pm, an, cdv, ct, osl, rfl, lk, hcd, _, _⟩ := F.ex
  refine fn_of lk hcd S (fun vs H Q E h => h.1) (fun A outer s H vs Q E hr h => ?_)
  obtain ⟨hl, th, M, ds, dm, rs, o⟩ := h
  have xo : XOkS (cxOf (L2.CX P w) P w K mg base N qual scope f cdv A outer s H E) k (fun cls d _ H => E cls d H) :=
    { calm := rfl, nd := S.nd, room := hr, tk := takes_of rfl rfl rfl rfl, bf := bf, tb := tb, cd := fun n hn e => code_is hlam lk hcd hn e, fnA := fun _ => rfl, po := passes_of rfl, kind := S.kind, ex0 := rfl, stk := rfl, frm := rfl }
  refine ⟨_, snd_S b (H0 := H) (M0 := M) xo g body hc, (fun _ => []), startS N.length ds, relS_start th dm rs, ?_⟩
  unfold callD at o
  by_cases hd : ds.length = ps.length
  · rw [if_pos hd] at o
    cases e : run b (startS N.length ds) with
    | nx s' => rw [e] at o; exact fun σ' H' A' r' _ => o .non H' r'.same .non
    | rt d => rw [e] at o; exact fun v H' s' r' => o v H' s' r'
    | exc c => rw [e] at o; exact fun σ' H' s' _ => o H' s'
    | stuck => rw [e] at o; exact o
  · rw [if_neg hd] at o; exact o.elim
theorem goodF_of {x qual : Str} {params : Arguments} {body : List Stmt} {scope : Scope} {kws : List (Str × V)} {f : Addr} {fd : FuncData} {N ps : List Str} {k : Nat} {b : S} (F : FunD K x qual params body scope [] kws f fd) (S : FnScope N ps scope) (hm : mg x = some (.ref f)) (bd : Binds K fd ps [])
    (bf : ∀ y ∈ bnames, mg y = none) (tb : TabBs K mg base) (hlam : qual ∈ lamNames → f = He.fAd K (qual, none)) (g : goodS (GoodF P w K mg base k) (GC ⟨P, w, K, mg, base, k, qual ++ ".<locals>."⟩) (RaiseC K mg) b) (hc : chkS N scope b body = true) : GoodF P w K mg base (k + 1) x (callD N.length ps.length b) := by
  refine ⟨f, fd, ps, fnOk_of F S bf tb hlam g hc, hm, F.kp, bd, fun ds h => ?_⟩
  unfold callD at h
  by_cases hd : ds.length = ps.length
  · exact hd
  · rw [if_neg hd] at h; exact absurd rfl h
/-- the promise by another meaning: wherever that says something -/
theorem GoodF.ref {k : Nat} {x : Str} {sem sem' : List D → Res D} (g : GoodF P w K mg base k x sem) (h : ∀ ds, sem' ds ≠ .stuck → sem ds = sem' ds) : GoodF P w K mg base k x sem' := by
  obtain ⟨fa, fd, ps, F, hm, kp, bd, hl⟩ := g
  refine ⟨fa, fd, ps, F.imp (fun vs H Q E q => ?_), hm, kp, bd, fun ds hd => hl ds (by rw [h ds hd]; exact hd)⟩
  obtain ⟨l, th, M, ds, dm, rs, o⟩ := q
  refine ⟨l, th, M, ds, dm, rs, ?_⟩
  have hs : sem' ds ≠ .stuck := fun z => by rw [z] at o; exact o
  rw [h ds hs]
  exact o
theorem GoodF.mono {j k : Nat} {x : Str} {sem : List D → Res D} (g : GoodF P w K mg base j x sem) (h : j ≤ k) : GoodF P w K mg base k x sem := by
  obtain ⟨fa, fd, ps, F, r⟩ := g
  exact ⟨fa, fd, ps, F.mono h, r⟩
end
end PL

namespace PL
open PySem PySem.Spec PyProof.Rows L2
/-! ## primitives: two parts -/
def OpT (X : Cx) (f : Value → Value → Sem Value) (sem : D → D → Option D) : Prop := ∃ r : R2, OpR X f r ∧
  ∀ (M : Mk) (H : Hp) (x y : V) (d1 d2 d : D) (Q : VK), DomM M H → Rep X.K M H x d1 → Rep X.K M H y d2 → sem d1 d2 = some d → (∀ v H', Same X.K H H' → Rep X.K M H' v d → Q v H') → r x y H Q
def two (f : D → D → Option D) : List D → Option D
  | [a, b] => f a b
  | _ => none
def binSyn (op : Operator) (same : Operator → Bool) : Scope → Expr → Option (List Expr) := fun _ e => match e with
  | .BinOp a o b _ => if same o then some [a, b] else none
  | _ => none
section
variable {X : Cx} {W : WX}
theorem two_pes {a b : Expr} {ms : List (En → Res D)} (h : PEs X W [a, b] ms) : ∃ ma mb, ms = [ma, mb] ∧ PE X a (tS X W ma) ∧ PE X b (tS X W mb) ∧ notStar a = true ∧ notStar b = true := by
  cases h with
  | cons h1 n1 t =>
    cases t with
    | cons h2 n2 t =>
      cases t
      exact ⟨_, _, rfl, h1, h2, n1, n2⟩
theorem one_pes {a : Expr} {ms : List (En → Res D)} (h : PEs X W [a] ms) : ∃ ma, ms = [ma] ∧ PE X a (tS X W ma) ∧ notStar a = true := by
  cases h with
  | cons h1 n1 t =>
    cases t
    exact ⟨_, rfl, h1, n1⟩
theorem three_pes {a b c : Expr} {ms : List (En → Res D)} (h : PEs X W [a, b, c] ms) : ∃ ma mb mc, ms = [ma, mb, mc] ∧ PE X a (tS X W ma) ∧ PE X b (tS X W mb) ∧ PE X c (tS X W mc) := by
  cases h with
  | cons h1 n1 t =>
    cases t with
    | cons h2 n2 t =>
      cases t with
      | cons h3 n3 t =>
        cases t
        exact ⟨_, _, _, rfl, h1, h2, h3⟩
end
def isAdd : Operator → Bool | .Add => true | _ => false
def isSub : Operator → Bool | .Sub => true | _ => false
def isMul : Operator → Bool | .Mult => true | _ => false
def isFdv : Operator → Bool | .FloorDiv => true | _ => false
def isMod : Operator → Bool | .Mod => true | _ => false
def isPow : Operator → Bool | .Pow => true | _ => false
theorem prim_bin {op : Operator} {same : Operator → Bool} {f : D → D → Option D} (hs : ∀ o, same o = true → o = op) (ho : ∀ X k W, XOk X k W → OpT X (binaryOp op) f) : PrimG { syn := binSyn op same, sem := two f } := by
  intro X k W xo
  obtain ⟨r, hr, hw⟩ := ho X k W xo
  have main : ∀ {e : Expr} {es : List Expr} {ms : List (En → Res D)}, binSyn op same X.env.scope e = some es → PEs X W es ms → ∃ a b pos, e = .BinOp a op b pos ∧ PE X e (tS X W fun ρ => (seqM ms ρ).bind fun ds => ofO (two f ds)) := by
    intro e es ms h hp
    unfold binSyn at h
    split at h
    · rename_i a o b pos
      split at h
      · rename_i hso
        cases h
        obtain rfl := hs o hso
        obtain ⟨ma, mb, rfl, h1, h2, _, _⟩ := two_pes hp
        exact ⟨a, b, pos, rfl, pe_weak (pe_op hr h1 h2) fun σ H Q q => w_2 (fun M H x y d1 d2 d dm r1 r2 e k => hw M H x y d1 d2 d Q dm r1 r2 e k) q⟩
      · cases h
    · cases h
  refine ⟨fun h hp => (main h hp).choose_spec.choose_spec.choose_spec.2, (fun z => nomatch z), fun {e es ms} h hp => ?_⟩
  obtain ⟨a, b, pos, rfl, pe⟩ := main h hp
  exact pt_of_pe pe (fun _ => rfl)
theorem OpT.or {X : Cx} {g : Value → Value → Sem Value} {f f' : D → D → Option D} {F : D → D → Option D} (h : OpT X g f) (h' : OpT X g f') (hF : ∀ a b d, F a b = some d → f a b = some d ∨ f' a b = some d) : OpT X g F := by
  obtain ⟨r, o, w⟩ := h
  obtain ⟨r', o', w'⟩ := h'
  refine ⟨_, o.or o', fun M H x y d1 d2 d Q dm r1 r2 e k => ?_⟩
  rcases hF d1 d2 d e with e | e
  · exact .inl (w M H x y d1 d2 d Q dm r1 r2 e k)
  · exact .inr (w' M H x y d1 d2 d Q dm r1 r2 e k)
/-- two ints -/
def int2 (C : Int → Int → Bool) (g : Int → Int → D) : D → D → Option D
  | .int a, .int b => if C a b then some (g a b) else none
  | _, _ => none
theorem opT_int {X : Cx} {g : Value → Value → Sem Value} {C : Int → Int → Prop} {C' : Int → Int → Bool} {h : Int → Int → V} {h' : Int → Int → D} (o : OpR X g (rI C h)) (hC : ∀ a b, C' a b = true → C a b) (hh : ∀ M H a b, Rep X.K M H (h a b) (h' a b)) : OpT X g (int2 C' h') := by
  refine ⟨_, o, fun M H x y d1 d2 d Q dm r1 r2 e k => ?_⟩
  unfold int2 at e
  split at e
  · rename_i a b
    split at e
    · rename_i hc
      cases e
      cases r1
      cases r2
      exact ⟨a, b, rfl, rfl, hC a b hc, k _ H (Same.refl H) (hh M H a b)⟩
    · cases e
  · cases e
theorem rI_of {X : Cx} {g : Value → Value → Sem Value} {h : Int → Int → V} (o : OpR X g (rI0 h)) : OpR X g (rI (fun _ _ => True) h) := fun pins s σ H x y v u Q I rx ry q => by
  obtain ⟨i, j, e1, e2, _, q⟩ := q
  exact o pins s σ H x y v u Q I rx ry ⟨i, j, e1, e2, q⟩
def tt2 (_ _ : Int) : Bool := true
/-- + -/
def addT : D → D → Option D
  | .tup a, .tup b => if a.length + b.length ≤ sizeD then some (.tup (a ++ b)) else none
  | _, _ => none
def addL : D → D → Option D
  | .lst a, .lst b => if a.length + b.length ≤ sizeD then some (.lst (a ++ b)) else none
  | _, _ => none
def addS : D → D → Option D
  | .str a, .str b => if a.length + b.length ≤ sizeD then some (.str (a ++ b)) else none
  | _, _ => none
def opAdd : D → D → Option D
  | .int a, .int b => some (.int (a + b))
  | .tup a, .tup b => if a.length + b.length ≤ sizeD then some (.tup (a ++ b)) else none
  | .lst a, .lst b => if a.length + b.length ≤ sizeD then some (.lst (a ++ b)) else none
  | .str a, .str b => if a.length + b.length ≤ sizeD then some (.str (a ++ b)) else none
  | _, _ => none
theorem sizeD_le {n : Nat} (h : n ≤ sizeD) : n ≤ sizeLine := Nat.le_of_lt (Nat.lt_of_le_of_lt h sizeD_lt)
theorem opT_addT {X : Cx} : OpT X (binaryOp .Add) addT := by
  refine ⟨_, op_catA, fun M H x y d1 d2 d Q dm r1 r2 e k => ?_⟩
  unfold addT at e
  split at e
  · rename_i a b
    split at e
    · rename_i hc
      cases e
      cases r1 with
      | @tup p xs _ s1 n1 ra =>
        cases r2 with
        | @tup q ys _ s2 n2 rb =>
          refine ⟨p, q, xs, ys, rfl, rfl, SqT.of s1, SqT.of s2, by rw [ra.length, rb.length]; exact sizeD_le hc, fun z => ?_, fun _ z => ?_, fun _ _ t n => ?_⟩
          · subst z
            cases ra
            exact k _ H (Same.refl H) (.tup s2 n2 rb)
          · subst z
            cases rb
            rw [List.append_nil] at k
            exact k _ H (Same.refl H) (.tup s1 n1 ra)
          · exact k _ _ (same_new n) (.tup upd_same (dm.fresh n) ((ra.append rb).same (same_new n)))
    · cases e
  · cases e
theorem opT_addL {X : Cx} : OpT X (binaryOp .Add) addL := by
  refine ⟨_, op_cat, fun M H x y d1 d2 d Q dm r1 r2 e k => ?_⟩
  unfold addL at e
  split at e
  · rename_i a b
    split at e
    · rename_i hc
      cases e
      cases r1 with
      | @lst p xs _ s1 n1 ra =>
        cases r2 with
        | @lst q ys _ s2 n2 rb =>
          refine ⟨p, q, xs, ys, rfl, rfl, s1, s2, by rw [ra.length, rb.length]; exact sizeD_le hc, fun t n => ?_⟩
          exact k _ _ (same_new n) (.lst upd_same (dm.fresh n) ((ra.append rb).same (same_new n)))
    · cases e
  · cases e
theorem opT_addS {X : Cx} : OpT X (binaryOp .Add) addS := by
  refine ⟨_, op_add_str, fun M H x y d1 d2 d Q dm r1 r2 e k => ?_⟩
  unfold addS at e
  split at e
  · rename_i a b
    split at e
    · rename_i hc
      cases e
      cases r1
      cases r2
      exact ⟨a, b, rfl, rfl, sizeD_le hc, k _ H (Same.refl H) (.str _)⟩
    · cases e
  · cases e
theorem opT_add {X : Cx} : OpT X (binaryOp .Add) opAdd :=
  (opT_int (C' := tt2) (h' := fun a b => .int (a + b)) (rI_of op_add) (fun _ _ _ => trivial) (fun _ _ _ _ => .int _)).or
    (opT_addT.or (opT_addL.or opT_addS (F := fun a b => (addL a b).orElse fun _ => addS a b) (fun a b d h => by
      cases e : addL a b with
      | none => rw [e] at h; exact .inr h
      | some x => rw [e] at h; exact .inl h)) (F := fun a b => (addT a b).orElse fun _ => (addL a b).orElse fun _ => addS a b) (fun a b d h => by
      cases e : addT a b with
      | none => rw [e] at h; exact .inr h
      | some x => rw [e] at h; exact .inl h)) (fun a b d h => by
      unfold opAdd at h
      split at h
      · exact .inl h
      · rename_i a b; exact .inr (by
          show ((addT (.tup a) (.tup b)).orElse fun _ => _) = some d
          have : addT (.tup a) (.tup b) = some d := h
          rw [this]; rfl)
      · rename_i a b; exact .inr (by
          show ((addL (.lst a) (.lst b)).orElse fun _ => _) = some d
          have : addL (.lst a) (.lst b) = some d := h
          rw [this]; rfl)
      · exact .inr h
      · cases h)
def pAdd : Prim := { syn := binSyn .Add isAdd, sem := two opAdd }
def pSub : Prim := { syn := binSyn .Sub isSub, sem := two (int2 tt2 fun a b => .int (a - b)) }
def mulOk (a b : Int) : Bool := (decide (-(2 ^ 64) < a) && decide (a < 2 ^ 64)) || (decide (-(2 ^ 64) < b) && decide (b < 2 ^ 64)) || decide (a.natAbs.log2 + b.natAbs.log2 < 1000000)
def divOk (_ b : Int) : Bool := decide (0 < b) && decide (b.natAbs.log2 < 9000)
def modOk (_ b : Int) : Bool := decide (0 < b)
theorem addG : PrimG pAdd := prim_bin (fun o h => by cases o <;> first | rfl | cases h) fun X k W xo => opT_add
theorem subG : PrimG pSub := prim_bin (fun o h => by cases o <;> first | rfl | cases h) fun X k W xo => opT_int (rI_of op_sub) (fun _ _ _ => trivial) (fun _ _ _ _ => .int _)
def repL : D → D → Option D
  | .lst a, .int n => if 0 ≤ n ∧ n ≤ 1000 ∧ a.length ≤ 100 then some (.lst (List.replicate n.toNat a).flatten) else none
  | _, _ => none
def opMul : D → D → Option D
  | .int a, .int b => if mulOk a b then some (.int (a * b)) else none
  | _, _ => none
theorem opT_mul {X : Cx} : OpT X (binaryOp .Mult) opMul := by
  refine OpT.or (opT_int (C' := fun a b => (decide (-(2 ^ 64) < a) && decide (a < 2 ^ 64)) || (decide (-(2 ^ 64) < b) && decide (b < 2 ^ 64))) (h' := fun a b => .int (a * b)) op_mul (fun a b h => ?_) (fun _ _ _ _ => .int _))
    (opT_int (C' := fun a b => decide (a.natAbs.log2 + b.natAbs.log2 < 1000000)) (h' := fun a b => .int (a * b)) op_mulW (fun a b h => by unfold CMulW; exact of_decide_eq_true h) (fun _ _ _ _ => .int _)) fun a b d h => ?_
  · simp only [Bool.or_eq_true, Bool.and_eq_true, decide_eq_true_eq] at h
    exact h
  · unfold opMul at h
    split at h
    · rename_i a b
      split at h
      · rename_i hc
        unfold mulOk at hc
        rw [Bool.or_eq_true] at hc
        rcases hc with hc | hc
        · left; show (if _ then _ else _) = _; rw [if_pos hc]; exact h
        · right; show (if _ then _ else _) = _; rw [if_pos hc]; exact h
      · cases h
    · cases h
def pMul : Prim := { syn := binSyn .Mult isMul, sem := two opMul }
theorem mulG : PrimG pMul := prim_bin (fun o h => by cases o <;> first | rfl | cases h) fun X k W xo => opT_mul
def pFdv : Prim := { syn := binSyn .FloorDiv isFdv, sem := two (int2 divOk fun a b => .int (a / b)) }
theorem fdvG : PrimG pFdv := prim_bin (fun o h => by cases o <;> first | rfl | cases h) fun X k W xo => opT_int op_fdivW (fun a b h => by
  unfold divOk at h
  rw [Bool.and_eq_true, decide_eq_true_eq, decide_eq_true_eq] at h
  exact h) (fun _ _ _ _ => .int _)
def pMod : Prim := { syn := binSyn .Mod isMod, sem := two (int2 modOk fun a b => .int (a % b)) }
theorem modG : PrimG pMod := prim_bin (fun o h => by cases o <;> first | rfl | cases h) fun X k W xo => opT_int op_mod (fun a b h => of_decide_eq_true h) (fun _ _ _ _ => .int _)
end PL

namespace PL
open PySem PySem.Spec PyProof.Rows L2
/-! ## comparisons -/
def cmpSyn (same : CmpOp → Bool) : Scope → Expr → Option (List Expr) := fun _ e => match e with
  | .Compare a [o] [b] _ => if same o && !(behindInMarks o b) then some [a, b] else none
  | _ => none
theorem prim_cmp {op : CmpOp} {same : CmpOp → Bool} {f : D → D → Option D} (hs : ∀ o, same o = true → o = op) (ho : ∀ X k W, XOk X k W → OpT X (compareOp op) f) : PrimG { syn := cmpSyn same, sem := two f } := by
  intro X k W xo
  obtain ⟨r, hr, hw⟩ := ho X k W xo
  have main : ∀ {e : Expr} {es : List Expr} {ms : List (En → Res D)}, cmpSyn same X.env.scope e = some es → PEs X W es ms →
      PE X e (tS X W fun ρ => (seqM ms ρ).bind fun ds => ofO (two f ds)) ∧ PT X e (tST X W fun ρ => ((seqM ms ρ).bind fun ds => ofO (two f ds)).bind truth) := by
    intro e es ms h hp
    unfold cmpSyn at h
    split at h
    · rename_i a o b pos
      split at h
      · rename_i hso
        cases h
        rw [Bool.and_eq_true, Bool.not_eq_true'] at hso
        obtain rfl := hs o hso.1
        obtain ⟨ma, mb, rfl, h1, h2, _, _⟩ := two_pes hp
        refine ⟨pe_weak (pe_cmpR hr h1 h2 hso.2) fun σ H Q q => w_2 (fun M H x y d1 d2 d dm r1 r2 e k => hw M H x y d1 d2 d Q dm r1 r2 e k) q, pt_weak (pt_cmpR hr h1 h2 hso.2) fun σ H Q q => ?_⟩
        exact w_2 (fun M H x y d1 d2 d dm r1 r2 e k => hw M H x y d1 d2 d _ dm r1 r2 e k) (w_test q)
      · cases h
    · cases h
  exact ⟨fun h hp => (main h hp).1, (fun z => nomatch z), fun h hp => (main h hp).2⟩
def isEq : CmpOp → Bool | .Eq => true | _ => false
def isNe : CmpOp → Bool | .NotEq => true | _ => false
def isLt : CmpOp → Bool | .Lt => true | _ => false
def isLe : CmpOp → Bool | .LtE => true | _ => false
def isGt : CmpOp → Bool | .Gt => true | _ => false
def isGe : CmpOp → Bool | .GtE => true | _ => false
def isIn : CmpOp → Bool | .In => true | _ => false
def isNi : CmpOp → Bool | .NotIn => true | _ => false
def isIs : CmpOp → Bool | .Is => true | _ => false
def isIsn : CmpOp → Bool | .IsNot => true | _ => false
/-- data that can be compared -/
def shp (d : D) : Bool := d.pl && SeqAt.shaped d.py
def deq (a b : D) : Bool := PyData.eqv a.py b.py
def opEq (a b : D) : Option D := if shp a && shp b then some (.bl (deq a b)) else none
def opNe (a b : D) : Option D := if shp a && shp b then some (.bl (!deq a b)) else none
theorem opT_eq {X : Cx} (hu : X.A.units + 64 < cLine) : OpT X (compareOp .Eq) opEq := by
  refine ⟨_, op_eqD hu, fun M H x y d1 d2 d Q dm r1 r2 e k => ?_⟩
  unfold opEq at e
  split at e
  · rename_i hc
    cases e
    rw [Bool.and_eq_true] at hc
    unfold shp at hc
    rw [Bool.and_eq_true, Bool.and_eq_true] at hc
    exact ⟨d1.py, d2.py, Rep.dp _ _ hc.1.1 r1, Rep.dp _ _ hc.2.1 r2, hc.1.2, hc.2.2, k _ H (Same.refl H) (.bl _)⟩
  · cases e
theorem opT_ne {X : Cx} (hu : X.A.units + 64 < cLine) : OpT X (compareOp .NotEq) opNe := by
  refine ⟨_, op_neD hu, fun M H x y d1 d2 d Q dm r1 r2 e k => ?_⟩
  unfold opNe at e
  split at e
  · rename_i hc
    cases e
    rw [Bool.and_eq_true] at hc
    unfold shp at hc
    rw [Bool.and_eq_true, Bool.and_eq_true] at hc
    exact ⟨d1.py, d2.py, Rep.dp _ _ hc.1.1 r1, Rep.dp _ _ hc.2.1 r2, hc.1.2, hc.2.2, k _ H (Same.refl H) (.bl _)⟩
  · cases e
def opLt : D → D → Option D := int2 tt2 fun a b => .bl (decide (a < b))
def opLe : D → D → Option D := int2 tt2 fun a b => .bl (decide (a ≤ b))
def opGt : D → D → Option D := int2 tt2 fun a b => .bl (decide (b < a))
def opGe : D → D → Option D := int2 tt2 fun a b => .bl (decide (b ≤ a))
theorem opT_lt {X : Cx} : OpT X (compareOp .Lt) opLt := opT_int (rI_of op_lt) (fun _ _ _ => trivial) (fun _ _ _ _ => .bl _)
theorem opT_le {X : Cx} : OpT X (compareOp .LtE) opLe := opT_int (rI_of op_le) (fun _ _ _ => trivial) (fun _ _ _ _ => .bl _)
theorem opT_gt {X : Cx} : OpT X (compareOp .Gt) opGt := opT_int (rI_of op_gt) (fun _ _ _ => trivial) (fun _ _ _ _ => .bl _)
theorem opT_ge {X : Cx} : OpT X (compareOp .GtE) opGe := opT_int (rI_of op_ge) (fun _ _ _ => trivial) (fun _ _ _ _ => .bl _)
def pEq : Prim := { syn := cmpSyn isEq, sem := two opEq }
def pNe : Prim := { syn := cmpSyn isNe, sem := two opNe }
def pLt : Prim := { syn := cmpSyn isLt, sem := two opLt }
def pLe : Prim := { syn := cmpSyn isLe, sem := two opLe }
def pGt : Prim := { syn := cmpSyn isGt, sem := two opGt }
def pGe : Prim := { syn := cmpSyn isGe, sem := two opGe }
theorem eqG : PrimG pEq := prim_cmp (op := .Eq) (fun o h => by cases o <;> first | rfl | cases h) fun X k W xo => opT_eq xo.room.units
theorem neG : PrimG pNe := prim_cmp (op := .NotEq) (fun o h => by cases o <;> first | rfl | cases h) fun X k W xo => opT_ne xo.room.units
theorem ltG : PrimG pLt := prim_cmp (op := .Lt) (fun o h => by cases o <;> first | rfl | cases h) fun X k W xo => opT_lt
theorem leG : PrimG pLe := prim_cmp (op := .LtE) (fun o h => by cases o <;> first | rfl | cases h) fun X k W xo => opT_le
theorem gtG : PrimG pGt := prim_cmp (op := .Gt) (fun o h => by cases o <;> first | rfl | cases h) fun X k W xo => opT_gt
theorem geG : PrimG pGe := prim_cmp (op := .GtE) (fun o h => by cases o <;> first | rfl | cases h) fun X k W xo => opT_ge
theorem ltO : OpG .Lt opLt := fun X k W xo => opT_lt
theorem leO : OpG .LtE opLe := fun X k W xo => opT_le
theorem gtO : OpG .Gt opGt := fun X k W xo => opT_gt
theorem geO : OpG .GtE opGe := fun X k W xo => opT_ge
def isNon : D → Bool
  | .non => true
  | _ => false
/-- is None, is True .. -/
def opIs : D → D → Option D
  | a, .non => some (.bl (isNon a))
  | .bl a, .bl b => some (.bl (decide (a = b)))
  | _, _ => none
def opIsn : D → D → Option D
  | a, .non => some (.bl (!isNon a))
  | .bl a, .bl b => some (.bl (!decide (a = b)))
  | _, _ => none
theorem non_of {K : PySem.W.Frag} {M : Mk} {H : Hp} {x : V} {d : D} (r : Rep K M H x d) : decide (x = V.non) = isNon d := by
  cases r <;> rfl
theorem opT_is {X : Cx} : OpT X (compareOp .Is) opIs := by
  refine ⟨_, OpR.or op_isN op_isBl, fun M H x y d1 d2 d Q dm r1 r2 e k => ?_⟩
  unfold opIs at e
  split at e
  · cases e
    cases r2
    refine .inl ⟨rfl, k _ H (Same.refl H) ?_⟩
    rw [non_of r1]
    exact .bl _
  · cases e
    cases r1
    cases r2
    exact .inr ⟨_, _, rfl, rfl, k _ H (Same.refl H) (.bl _)⟩
  · cases e
theorem opT_isn {X : Cx} : OpT X (compareOp .IsNot) opIsn := by
  refine ⟨_, OpR.or op_notN op_notBl, fun M H x y d1 d2 d Q dm r1 r2 e k => ?_⟩
  unfold opIsn at e
  split at e
  · rename_i a
    cases e
    cases r2
    refine .inl ⟨rfl, k _ H (Same.refl H) ?_⟩
    rw [non_of r1]
    cases d1 <;> exact .bl _
  · cases e
    cases r1
    cases r2
    exact .inr ⟨_, _, rfl, rfl, k _ H (Same.refl H) (.bl _)⟩
  · cases e
def pIs : Prim := { syn := cmpSyn isIs, sem := two opIs }
def pIsn : Prim := { syn := cmpSyn isIsn, sem := two opIsn }
theorem isG : PrimG pIs := prim_cmp (op := .Is) (fun o h => by cases o <;> first | rfl | cases h) fun X k W xo => opT_is
theorem isnG : PrimG pIsn := prim_cmp (op := .IsNot) (fun o h => by cases o <;> first | rfl | cases h) fun X k W xo => opT_isn
/-! ## one part -/
def one1 (f : D → Option D) : List D → Option D
  | [a] => f a
  | _ => none
def negSyn : Scope → Expr → Option (List Expr) := fun _ e => match e with
  | .UnaryOp .USub a _ => some [a]
  | _ => none
def opNeg : D → Option D
  | .int a => some (.int (-a))
  | _ => none
def pNeg : Prim := { syn := negSyn, sem := one1 opNeg }
theorem negG : PrimG pNeg := by
  intro X k W xo
  have main : ∀ {e : Expr} {es : List Expr} {ms : List (En → Res D)}, negSyn X.env.scope e = some es → PEs X W es ms → ∃ a pos, e = .UnaryOp .USub a pos ∧ PE X e (tS X W fun ρ => (seqM ms ρ).bind fun ds => ofO (one1 opNeg ds)) := by
    intro e es ms h hp
    unfold negSyn at h
    split at h
    · rename_i a pos
      cases h
      obtain ⟨ma, rfl, h1, _⟩ := one_pes hp
      refine ⟨a, pos, rfl, pe_weak (pe_un un_neg h1) fun σ H Q q => w_1 (fun M H x d1 d dm r1 e k => ?_) q⟩
      cases d1 with
      | int i => cases r1; cases e; exact ⟨i, rfl, k _ H (Same.refl H) (.int _)⟩
      | _ => cases e
    · cases h
  refine ⟨fun h hp => (main h hp).choose_spec.choose_spec.2, (fun z => nomatch z), fun {e es ms} h hp => ?_⟩
  obtain ⟨a, pos, rfl, pe⟩ := main h hp
  exact pt_of_pe pe (fun _ => rfl)
/-! ## subscripts -/
def ixSyn : Scope → Expr → Option (List Expr) := fun _ e => match e with
  | .Subscript a b _ => if notSlice b then some [a, b] else none
  | _ => none
def opIx : D → D → Option D
  | .lst l, .int i => atI l i
  | .tup l, .int i => atI l i
  | .scr l, .int i => (atI l i).map D.int
  | .str s, .int i => if s.length ≤ sizeD then (atI s.cps.toList i).map fun c => .str ⟨#[c]⟩ else none
  | _, _ => none
theorem RepAll.at {K : PySem.W.Frag} {M : Mk} {H : Hp} {vs : List V} {ds : List D} {i : Int} {d : D} (r : RepAll K M H vs ds) (h : atI ds i = some d) : ∃ v, atI vs i = some v ∧ Rep K M H v d := by
  unfold atI at h ⊢
  rw [r.length]
  cases e : ixN ds.length i with
  | none => rw [e] at h; cases h
  | some j =>
    rw [e] at h
    obtain ⟨v, h1, h2⟩ := r.get (show ds[j]? = some d from h)
    exact ⟨v, h1, h2⟩
theorem atI_map {α β : Type} {f : α → β} {l : List α} {i : Int} {a : α} (h : atI l i = some a) : atI (l.map f) i = some (f a) := by
  unfold atI at h ⊢
  rw [List.length_map]
  cases e : ixN l.length i with
  | none => rw [e] at h; cases h
  | some j =>
    rw [e] at h
    have h' : l[j]? = some a := h
    show (l.map f)[j]? = _
    rw [List.getElem?_map, h']; rfl
theorem plainIx {b : Expr} (h : notSlice b = true) : PlainIx b := by
  intro o i
  cases b <;> first | rfl | cases h
def pIx : Prim := { syn := ixSyn, sem := two opIx }
theorem ixG : PrimG pIx := by
  intro X k W xo
  have main : ∀ {e : Expr} {es : List Expr} {ms : List (En → Res D)}, ixSyn X.env.scope e = some es → PEs X W es ms → ∃ a b pos, e = .Subscript a b pos ∧ PE X e (tS X W fun ρ => (seqM ms ρ).bind fun ds => ofO (two opIx ds)) := by
    intro e es ms h hp
    unfold ixSyn at h
    split at h
    · rename_i a b pos
      split at h
      · rename_i hns
        cases h
        obtain ⟨ma, mb, rfl, h1, h2, _, _⟩ := two_pes hp
        refine ⟨a, b, pos, rfl, pe_weak (pe_ix ix_seq h1 h2 (plainIx hns)) fun σ H Q q => w_2 (fun M H x y d1 d2 d dm r1 r2 e k => ?_) q⟩
        have e' : opIx d1 d2 = some d := e
        unfold opIx at e'
        split at e'
        · rename_i l i
          cases r1 with
          | lst s n ra =>
            cases r2
            obtain ⟨v, h3, h4⟩ := ra.at e'
            exact .inl ⟨_, _, i, v, rfl, rfl, SqL.of s, h3, k v H (Same.refl H) h4⟩
        · rename_i l i
          cases r1 with
          | tup s n ra =>
            cases r2
            obtain ⟨v, h3, h4⟩ := ra.at e'
            exact .inr (.inl ⟨_, _, i, v, rfl, rfl, SqT.of s, h3, k v H (Same.refl H) h4⟩)
        · rename_i l i
          cases r1 with
          | scr s =>
            cases r2
            cases e3 : atI l i with
            | none => rw [e3] at e'; cases e'
            | some j =>
              rw [e3] at e'
              cases e'
              exact .inl ⟨_, _, i, .int j, rfl, rfl, s.sq, atI_map e3, k _ H (Same.refl H) (.int j)⟩
        · rename_i s i
          split at e'
          · rename_i hl
            cases r1
            cases r2
            cases e3 : atI s.cps.toList i with
            | none => rw [e3] at e'; cases e'
            | some c =>
              rw [e3] at e'
              cases e'
              exact .inr (.inr ⟨s, i, c, rfl, rfl, sizeD_le hl, e3, k _ H (Same.refl H) (.str _)⟩)
          · cases e'
        · cases e'
      · cases h
    · cases h
  refine ⟨fun h hp => (main h hp).choose_spec.choose_spec.choose_spec.2, (fun z => nomatch z), fun {e es ms} h hp => ?_⟩
  obtain ⟨a, b, pos, rfl, pe⟩ := main h hp
  exact pt_of_pe pe (fun _ => rfl)
/-! ## displays -/
def tupSyn : Scope → Expr → Option (List Expr) := fun _ e => match e with
  | .Tuple es _ _ => some es
  | _ => none
def lstSyn : Scope → Expr → Option (List Expr) := fun _ e => match e with
  | .List es _ => some es
  | _ => none
def mkTup (ds : List D) : Option D := if ds.length ≤ 1000 then some (.tup ds) else none
def mkLst (ds : List D) : Option D := if ds.length ≤ 1000 then some (.lst ds) else none
def pTup : Prim := { syn := tupSyn, sem := mkTup }
def pLst : Prim := { syn := lstSyn, sem := mkLst, fresh := true }
theorem tupG : PrimG pTup := by
  intro X k W xo
  have main : ∀ {e : Expr} {es : List Expr} {ms : List (En → Res D)}, tupSyn X.env.scope e = some es → PEs X W es ms → ∃ es kk pos, e = .Tuple es kk pos ∧ PE X e (tS X W fun ρ => (seqM ms ρ).bind fun ds => ofO (mkTup ds)) := by
    intro e es ms h hp
    unfold tupSyn at h
    split at h
    · rename_i es' kk pos
      cases h
      refine ⟨_, kk, pos, rfl, pe_weak (pe_tup hp.pa) fun σ H Q q => w_n (r := fun xs H1 Q => xs.length ≤ sizeLine ∧ ∀ p, H1 p = none → Q (.ref p) (upd H1 p (.tup xs))) (fun M H xs ds d dm rs e k => ?_) q⟩
      unfold mkTup at e
      split at e
      · rename_i hl
        cases e
        exact ⟨by rw [rs.length]; exact Nat.le_of_lt (small1000 hl), fun p n => k _ _ (same_new n) (.tup upd_same (dm.fresh n) (rs.same (same_new n)))⟩
      · cases e
    · cases h
  refine ⟨fun h hp => (main h hp).choose_spec.choose_spec.choose_spec.2, (fun z => nomatch z), fun {e es ms} h hp => ?_⟩
  obtain ⟨a, b, pos, rfl, pe⟩ := main h hp
  exact pt_of_pe pe (fun _ => rfl)
theorem lstG : PrimG pLst := by
  intro X k W xo
  have main : ∀ {e : Expr} {es : List Expr} {ms : List (En → Res D)}, lstSyn X.env.scope e = some es → PEs X W es ms → ∃ es pos, e = .List es pos ∧ PE X e (tF X W fun ρ => (seqM ms ρ).bind fun ds => ofO (mkLst ds)) := by
    intro e es ms h hp
    unfold lstSyn at h
    split at h
    · rename_i es' pos
      cases h
      refine ⟨_, pos, rfl, pe_weak (pe_lst hp.pa) fun σ H Q q => w_nF (r := fun xs H1 Q => xs.length ≤ sizeLine ∧ ∀ p, H1 p = none → Q (.ref p) (upd H1 p (.lst xs))) (fun M H xs ds d dm rs e k => ?_) q⟩
      unfold mkLst at e
      split at e
      · rename_i hl
        cases e
        obtain ⟨es, ee, k⟩ := k
        cases ee
        exact ⟨by rw [rs.length]; exact Nat.le_of_lt (small1000 hl), fun p n => k p xs _ (same_new n) n upd_same ((RepAll.ext (Ext.mark n) _ _ rs).same (same_new n))⟩
      · cases e
    · cases h
  have lst : ∀ (ms : List (En → Res D)) ρ d, ((seqM ms ρ).bind fun ds => ofO (mkLst ds)) = .ok d → ∃ l, d = .lst l := fun ms ρ d e => by
    obtain ⟨ds, _, e⟩ := Res.bind_eq_ok e
    unfold mkLst at e
    split at e
    · cases e; exact ⟨_, rfl⟩
    · cases e
  refine ⟨fun {e es ms} h hp => ?_, fun _ {e es ms} h hp => ?_, fun {e es ms} h hp => ?_⟩
  · obtain ⟨a, pos, rfl, pe⟩ := main h hp
    exact tF_S pe (lst ms)
  · obtain ⟨a, pos, rfl, pe⟩ := main h hp
    exact pe
  · obtain ⟨a, pos, rfl, pe⟩ := main h hp
    exact pt_of_pe (tF_S pe (lst ms)) (fun _ => rfl)
/-! ## built-in functions -/
def callSyn (nm : Str) : Scope → Expr → Option (List Expr) := fun sc e => match e with
  | .Call (.Name x _) (a :: es) [] _ => if decide (x = nm) && glB sc x then some (a :: es) else none
  | _ => none
def CallT (X : Cx) (f : Value) (sem : List D → Option D) : Prop := ∃ r, CallR X f r ∧
  ∀ (M : Mk) (H : Hp) (xs : List V) (ds : List D) (d : D) (Q : VK), DomM M H → RepAll X.K M H xs ds → sem ds = some d → (∀ v H', Same X.K H H' → Rep X.K M H' v d → Q v H') → r xs H Q
theorem prim_blt {nm : Str} {id : String} {sem : List D → Option D} (hin : nm ∈ bnames) (hv : bootBuiltins nm = some (.builtin id)) (hn : nm ≠ "__name__") (hd : (nm == ("__debug__" : Str)) = false) (hc : ∀ X k W, XOk X k W → CallT X (.builtin id) sem) : PrimG { syn := callSyn nm, sem := sem } := by
  intro X k W xo
  obtain ⟨r, hr, hw⟩ := hc X k W xo
  have main : ∀ {e : Expr} {es : List Expr} {ms : List (En → Res D)}, callSyn nm X.env.scope e = some es → PEs X W es ms → ∃ x p es pos, e = .Call (.Name x p) es [] pos ∧ PE X e (tS X W fun ρ => (seqM ms ρ).bind fun ds => ofO (sem ds)) := by
    intro e es ms h hp
    unfold callSyn at h
    split at h
    · rename_i x p a es' pos
      split at h
      · rename_i hg
        cases h
        rw [Bool.and_eq_true, decide_eq_true_eq] at hg
        obtain ⟨rfl, hg⟩ := hg
        have ns : notStar a = true := by cases hp with | cons _ n _ => exact n
        have st : (backTo pos (starEach es' X.env)).any (·.1) = false := by cases hp with | cons _ _ t => exact stars_of t pos
        exact ⟨x, p, _, pos, rfl, pe_weak (pe_callB hr (gl_of hg) (xo.bf _ hin) hv hp.pa hn hd (star_of ns es' X.env) st) fun σ H Q q => w_n (fun M H xs ds d dm rs e k => hw M H xs ds d Q dm rs e k) q⟩
      · cases h
    · cases h
  refine ⟨fun h hp => (main h hp).choose_spec.choose_spec.choose_spec.choose_spec.2, (fun z => nomatch z), fun {e es ms} h hp => ?_⟩
  obtain ⟨x, p, es, pos, rfl, pe⟩ := main h hp
  exact pt_of_pe pe (fun _ => rfl)
theorem prim_ty {nm : Str} {T : String} {sem : List D → Option D} (hin : nm ∈ bnames) (hv : bootBuiltins nm = some (.type T)) (hn : nm ≠ "__name__") (hd : (nm == ("__debug__" : Str)) = false) (hc : ∀ X k W, XOk X k W → CallT X (.type T) sem) : PrimG { syn := callSyn nm, sem := sem } := by
  intro X k W xo
  obtain ⟨r, hr, hw⟩ := hc X k W xo
  have main : ∀ {e : Expr} {es : List Expr} {ms : List (En → Res D)}, callSyn nm X.env.scope e = some es → PEs X W es ms → ∃ x p es pos, e = .Call (.Name x p) es [] pos ∧ PE X e (tS X W fun ρ => (seqM ms ρ).bind fun ds => ofO (sem ds)) := by
    intro e es ms h hp
    unfold callSyn at h
    split at h
    · rename_i x p a es' pos
      split at h
      · rename_i hg
        cases h
        rw [Bool.and_eq_true, decide_eq_true_eq] at hg
        obtain ⟨rfl, hg⟩ := hg
        have ns : notStar a = true := by cases hp with | cons _ n _ => exact n
        have st : (backTo pos (starEach es' X.env)).any (·.1) = false := by cases hp with | cons _ _ t => exact stars_of t pos
        exact ⟨x, p, _, pos, rfl, pe_weak (pe_callTy hr (gl_of hg) (xo.bf _ hin) hv hp.pa hn hd (star_of ns es' X.env) st) fun σ H Q q => w_n (fun M H xs ds d dm rs e k => hw M H xs ds d Q dm rs e k) q⟩
      · cases h
    · cases h
  refine ⟨fun h hp => (main h hp).choose_spec.choose_spec.choose_spec.choose_spec.2, (fun z => nomatch z), fun {e es ms} h hp => ?_⟩
  obtain ⟨x, p, es, pos, rfl, pe⟩ := main h hp
  exact pt_of_pe pe (fun _ => rfl)
def opLen : D → Option D
  | .lst l => some (.int l.length)
  | .tup l => some (.int l.length)
  | .scr l => some (.int l.length)
  | .str s => if s.length ≤ sizeD then some (.int s.length) else none
  | _ => none
def pLen : Prim := { syn := callSyn "len", sem := one1 opLen }
theorem lenG : PrimG pLen := prim_blt (id := "len") (by decide) (by decide +kernel) (by decide) (by decide) fun X k W xo => by
  refine ⟨_, CallR.or call_len_seq call_len_str, fun M H xs ds d Q dm rs e k => ?_⟩
  match ds, rs, e with
  | [a], .cons r1 .nil, e =>
    have e' : opLen a = some d := e
    cases a with
    | lst l => cases e'; cases r1 with | lst s n ra => exact .inl ⟨_, _, rfl, .inl (SqL.of s), by rw [ra.length]; exact k _ H (Same.refl H) (.int _)⟩
    | tup l => cases e'; cases r1 with | tup s n ra => exact .inl ⟨_, _, rfl, .inr (SqT.of s), by rw [ra.length]; exact k _ H (Same.refl H) (.int _)⟩
    | scr l => cases e'; cases r1 with | scr s => exact .inl ⟨_, _, rfl, .inl s.sq, by rw [List.length_map]; exact k _ H (Same.refl H) (.int _)⟩
    | str s =>
      cases r1
      unfold opLen at e'
      dsimp only at e'
      split at e'
      · rename_i hl; cases e'; exact .inr ⟨s, rfl, sizeD_le hl, k _ H (Same.refl H) (.int _)⟩
      · cases e'
    | _ => cases e'
def opAbs : D → Option D
  | .int a => some (.int (if a < 0 then -a else a))
  | _ => none
def pAbs : Prim := { syn := callSyn "abs", sem := one1 opAbs }
theorem absG : PrimG pAbs := prim_blt (id := "abs") (by decide) (by decide +kernel) (by decide) (by decide) fun X k W xo => by
  refine ⟨_, call_abs, fun M H xs ds d Q dm rs e k => ?_⟩
  match ds, rs, e with
  | [a], .cons r1 .nil, e =>
    have e' : opAbs a = some d := e
    cases a with
    | int i => cases e'; cases r1; exact ⟨i, rfl, k _ H (Same.refl H) (.int _)⟩
    | _ => cases e'
end PL

namespace PL
open PySem PySem.Spec PyProof.Rows L2
/-! ## the end of a law -/
/-- a promise that lets nothing out -/
theorem fnOk_calm {P : Program} {w : World} {K : PySem.W.Frag} {mg : Str → Option Value} {base : Heap} {k : Nat} {f : Addr} {fd : FuncData} {ps : List Str} {sp : Sp} (F : FnOk P w K mg base (L2.CX P w) k f fd ps sp) :
    FnOk P w K mg base CX0 k f fd ps (fun vs H Q _ => sp vs H Q E0) := by
  refine ⟨fun vs H Q E h => F.len vs H Q E0 h, fun A outer s H args us vs Q E hr e0 hb r h => ?_⟩
  refine codeAny_mono (F.run A outer s H args us vs Q E0 hr e0 hb r h) fun res s' q => ?_
  cases res with
  | error e =>
    obtain ⟨_, _, _, _, _, _, _, _, _, _, _, _, z⟩ := (show L2.CX P w outer H s E0 e s' from q)
    exact z.elim
  | ok fl => cases fl <;> exact q
/-- the law's def keeps its word -/
theorem law_end {P : Program} {w : World} {K : PySem.W.Frag} {mg : Str → Option Value} {k : Nat} {sem : List D → Res D} {fa : Addr} {fd : FuncData} {params : Arguments} {body : List Stmt} {scope : Scope} {kws : List (Str × V)}
    (F : FunD K "law" "law" params body scope [] kws fa fd) (hb : ∀ (kV doc pm : Value) (an : Option Addr) (cdv ct : Value) (us : List Value), us.length = 1 → bindArgs (PySem.W.fnOf "law" "law" params body scope .none kV doc pm an cdv ct) ⟨us, []⟩ = pure ((["script"] : List Str).zip us))
    (h0 : lamNames = []) (g : ∀ base : Heap, TabBs K mg base → FnOk P w K mg base (L2.CX P w) k fa fd ["script"] (spD K mg 1 sem))
    (law : ∀ ns : List Int, ns.length ≤ 63 → sem [.scr ns] = .ok (.bl true)) :
    ∃ (fd : FuncData) (sp : Sp), (∀ (s : Shared) (u : Value), BindsTo s fd ⟨[u], []⟩ [("script", u)]) ∧
      (∀ (H : Hp) (a : Addr) (ns : List Int), ns.length ≤ 63 → Only H → SqL K H a (ns.map V.int) → sp [.ref a] H (fun v _ => v = .bl true) fun _ _ _ => False) ∧
        ∀ base : Heap, K.In base → base.Ns mainGlobals mg → FnOk P w K mg base CX0 k fa fd ["script"] sp := by
  refine ⟨fd, fun vs H Q _ => spD K mg 1 sem vs H Q E0, fun s u => FunD.bindsA (ps := ["script"]) F hb s [u] rfl, fun H a ns hl _ hS => ?_, fun base _ _ => fnOk_calm (g base fun n hn => by rw [h0] at hn; cases hn)⟩
  refine ⟨rfl, (fun p hp => by unfold TK at hp; rw [h0] at hp; cases hp), fun _ => False, [.scr ns], fun _ z => z.elim, .cons (.scr (ScrOk.of hS)) .nil, ?_⟩
  rw [law ns hl]
  intro v H' _ r
  cases r
  rfl
/-- .. with lambdas -/
theorem law_endT {l : PySem.W.OpenLaw} {w : World} {K : PySem.W.Frag} {mg : Str → Option Value} {k : Nat} {sem : List D → Res D} {fa : Addr} {fd : FuncData} {params : Arguments} {body : List Stmt} {scope : Scope} {kws : List (Str × V)} {h : Heap} (X : K.In h)
    (F : FunD K "law" "law" params body scope [] kws fa fd) (hb : ∀ (kV doc pm : Value) (an : Option Addr) (cdv ct : Value) (us : List Value), us.length = 1 → bindArgs (PySem.W.fnOf "law" "law" params body scope .none kV doc pm an cdv ct) ⟨us, []⟩ = pure ((["script"] : List Str).zip us))
    (hd : ∀ n ∈ lamNames, PySem.W.codeHdIn K (He.cT K (n, none)).1 (He.cT K (n, none)).2 = true) (out : ∀ n ∈ lamNames, K.lookup (He.cT K (n, none)).2 = none) (em : ∀ n ∈ lamNames, h.get? (He.cT K (n, none)).2 = some { cls := .none, data := .fields #[] })
    (g : ∀ base : Heap, TabBs K mg base → FnOk l.prog w K mg base (L2.CX l.prog w) k fa fd ["script"] (spD K mg 1 sem))
    (law : ∀ ns : List Int, ns.length ≤ 63 → sem [.scr ns] = .ok (.bl true)) : LamX.LawAtS l w K CX0 k 63 "script" mg fa h := by
  have mem : ∀ p ∈ lamNames.map (fun n => He.cT K (n, none)), ∃ n ∈ lamNames, He.cT K (n, none) = p := fun p hp => by
    obtain ⟨n, hn, e⟩ := List.mem_map.mp hp
    exact ⟨n, hn, e⟩
  refine ⟨fd, lamNames.map (fun n => He.cT K (n, none)), fun vs H Q _ => spD K mg 1 sem vs H Q E0, fun p hp => ?_, fun p hp => ?_, fun p hp => ?_, fun s u => FunD.bindsA (ps := ["script"]) F hb s [u] rfl, fun H a ns hl _ hT hS => ?_, fun base _ _ tb => fnOk_calm (g base fun n hn => ?_)⟩
  · obtain ⟨n, hn, rfl⟩ := mem p hp
    exact em n hn
  · obtain ⟨n, hn, rfl⟩ := mem p hp
    exact out n hn
  · obtain ⟨n, hn, rfl⟩ := mem p hp
    exact PySem.W.codeHd_of_K X (hd n hn)
  · refine ⟨rfl, fun p hp => ?_, fun _ => False, [.scr ns], fun _ z => z.elim, .cons (.scr (ScrOk.of hS)) .nil, ?_⟩
    · obtain ⟨n, hn, rfl⟩ := List.mem_map.mp hp
      exact LamX.TabS.nil (hT _ (List.mem_map.mpr ⟨n, hn, rfl⟩))
    · rw [law ns hl]
      intro v H' _ r
      cases r
      rfl
  · exact tb _ (List.mem_map.mpr ⟨n, hn, rfl⟩)
end PL

namespace PL
open PySem PySem.Spec PyProof.Rows L2
/-! ## reckoning with the language -/
theorem q_two (f : D → D → Option D) (a b : D) : two f [a, b] = f a b := rfl
theorem q_one (f : D → Option D) (a : D) : one1 f [a] = f a := rfl
theorem q_get0 (x : D) (r : En) : getE (some x :: r) 0 = .ok x := rfl
theorem q_getS (x : Option D) (r : En) (n : Nat) : getE (x :: r) (n + 1) = getE r n := by
  unfold getE
  rw [List.getElem?_cons_succ]
theorem q_pAdd : pAdd.sem = two opAdd := rfl
theorem q_pSub : pSub.sem = two (int2 tt2 fun a b => .int (a - b)) := rfl
theorem q_pMul : pMul.sem = two opMul := rfl
theorem q_pFdv : pFdv.sem = two (int2 divOk fun a b => .int (a / b)) := rfl
theorem q_pMod : pMod.sem = two (int2 modOk fun a b => .int (a % b)) := rfl
theorem q_pEq : pEq.sem = two opEq := rfl
theorem q_pNe : pNe.sem = two opNe := rfl
theorem q_pLt : pLt.sem = two opLt := rfl
theorem q_pLe : pLe.sem = two opLe := rfl
theorem q_pGt : pGt.sem = two opGt := rfl
theorem q_pGe : pGe.sem = two opGe := rfl
theorem q_pIs : pIs.sem = two opIs := rfl
theorem q_pIsn : pIsn.sem = two opIsn := rfl
theorem q_pNeg : pNeg.sem = one1 opNeg := rfl
theorem q_pIx : pIx.sem = two opIx := rfl
theorem q_pTup : pTup.sem = mkTup := rfl
theorem q_pLst : pLst.sem = mkLst := rfl
theorem q_pLen : pLen.sem = one1 opLen := rfl
theorem q_pAbs : pAbs.sem = one1 opAbs := rfl
/-! operations upon ints -/
theorem o_add (a b : Int) : opAdd (.int a) (.int b) = some (.int (a + b)) := rfl
theorem o_sub (a b : Int) : int2 tt2 (fun a b => .int (a - b)) (.int a) (.int b) = some (.int (a - b)) := rfl
theorem o_mul {a b : Int} (h : mulOk a b = true) : opMul (.int a) (.int b) = some (.int (a * b)) := by
  show (if mulOk a b = true then _ else _) = _
  rw [if_pos h]
theorem o_fdv {a b : Int} (h : divOk a b = true) : int2 divOk (fun a b => .int (a / b)) (.int a) (.int b) = some (.int (a / b)) := by
  show (if divOk a b = true then _ else _) = _
  rw [if_pos h]
theorem o_mod {a b : Int} (h : modOk a b = true) : int2 modOk (fun a b => .int (a % b)) (.int a) (.int b) = some (.int (a % b)) := by
  show (if modOk a b = true then _ else _) = _
  rw [if_pos h]
theorem o_lt (a b : Int) : opLt (.int a) (.int b) = some (.bl (decide (a < b))) := rfl
theorem o_le (a b : Int) : opLe (.int a) (.int b) = some (.bl (decide (a ≤ b))) := rfl
theorem o_gt (a b : Int) : opGt (.int a) (.int b) = some (.bl (decide (b < a))) := rfl
theorem o_ge (a b : Int) : opGe (.int a) (.int b) = some (.bl (decide (b ≤ a))) := rfl
theorem o_neg (a : Int) : opNeg (.int a) = some (.int (-a)) := rfl
theorem o_abs (a : Int) : opAbs (.int a) = some (.int (if a < 0 then -a else a)) := rfl
theorem o_lenL (l : List D) : opLen (.lst l) = some (.int l.length) := rfl
theorem o_lenT (l : List D) : opLen (.tup l) = some (.int l.length) := rfl
theorem o_lenS (l : List Int) : opLen (.scr l) = some (.int l.length) := rfl
theorem o_eqI (a b : Int) : opEq (.int a) (.int b) = some (.bl (decide (a = b))) := by
  show some (D.bl (a == b)) = _
  rw [Bool.beq_eq_decide_eq]
theorem o_neI (a b : Int) : opNe (.int a) (.int b) = some (.bl (!decide (a = b))) := by
  show some (D.bl (!(a == b))) = _
  rw [Bool.beq_eq_decide_eq]
theorem o_ixL (l : List D) (i : Int) : opIx (.lst l) (.int i) = atI l i := rfl
theorem o_ixT (l : List D) (i : Int) : opIx (.tup l) (.int i) = atI l i := rfl
theorem o_ixS (l : List Int) (i : Int) : opIx (.scr l) (.int i) = (atI l i).map D.int := rfl
theorem mul_small {a b : Int} (h : -(2 ^ 64) < a ∧ a < 2 ^ 64) : mulOk a b = true := by
  unfold mulOk
  rw [decide_eq_true h.1, decide_eq_true h.2]
  simp
theorem mul_smallR {a b : Int} (h : -(2 ^ 64) < b ∧ b < 2 ^ 64) : mulOk a b = true := by
  unfold mulOk
  rw [decide_eq_true h.1, decide_eq_true h.2]
  simp
theorem log2_lt {n k : Nat} (h : n < 2 ^ k) (hk : 0 < k) : n.log2 < k := by
  by_cases hn : n = 0
  · subst hn; simpa using hk
  · exact (Nat.log2_lt hn).mpr h
theorem div_small {a b : Int} (h : 0 < b) (h2 : b < 2 ^ 250) : divOk a b = true := by
  unfold divOk
  rw [decide_eq_true h, Bool.true_and, decide_eq_true_eq]
  have : b.natAbs < 2 ^ 250 := by omega
  exact Nat.lt_trans (log2_lt this (by decide)) (by decide : 250 < 9000)
theorem mul_wide {a b : Int} (h : a.natAbs < 2 ^ 250) (h2 : b.natAbs < 2 ^ 250) : mulOk a b = true := by
  unfold mulOk
  have h1 := log2_lt h (by decide)
  have h3 := log2_lt h2 (by decide)
  rw [decide_eq_true (show a.natAbs.log2 + b.natAbs.log2 < 1000000 by omega)]
  simp
theorem mod_small {a b : Int} (h : 0 < b) : modOk a b = true := decide_eq_true h
theorem at0 {α : Type} (a : α) (l : List α) : atI (a :: l) 0 = some a := by
  unfold atI ixN
  simp
theorem atN {α : Type} {l : List α} {i : Nat} : atI l (i : Int) = l[i]? := by
  unfold atI ixN
  by_cases h : i < l.length
  · rw [if_pos (by omega), if_pos (by omega)]; simp
  · rw [if_pos (by omega), if_neg (by omega)]; simp; omega
theorem at1 {α : Type} (a b : α) (l : List α) : atI (a :: b :: l) 1 = some b := atN (l := a :: b :: l) (i := 1)
theorem at2 {α : Type} (a b c : α) (l : List α) : atI (a :: b :: c :: l) 2 = some c := atN (l := a :: b :: c :: l) (i := 2)
end PL

namespace PL
open PySem PySem.Spec PyProof.Rows L2
/-! ## steps -/
section
variable {p : Prim} {a b c t : E} {ρ : En} {x y z d : D} {s s' : SE} {r : S} {i : Nat}
theorem e1 (h1 : ev a ρ = .ok x) (h : p.sem [x] = some d) : ev (.prim p (.cons a .nil)) ρ = .ok d := by
  show (((ev a ρ).bind fun d => Res.ok [d]).bind fun ds => ofO (p.sem ds)) = _
  rw [h1]; show ofO (p.sem [x]) = _; rw [h]; rfl
theorem e2 (h1 : ev a ρ = .ok x) (h2 : ev b ρ = .ok y) (h : p.sem [x, y] = some d) : ev (.prim p (.cons a (.cons b .nil))) ρ = .ok d := by
  show (((ev a ρ).bind fun d => (((ev b ρ).bind fun d => Res.ok [d]).bind fun ds => .ok (d :: ds))).bind fun ds => ofO (p.sem ds)) = _
  rw [h1, h2]; show ofO (p.sem [x, y]) = _; rw [h]; rfl
theorem e3 (h1 : ev a ρ = .ok x) (h2 : ev b ρ = .ok y) (h3 : ev c ρ = .ok z) (h : p.sem [x, y, z] = some d) : ev (.prim p (.cons a (.cons b (.cons c .nil)))) ρ = .ok d := by
  show (((ev a ρ).bind fun d => (((ev b ρ).bind fun d => ((ev c ρ).bind fun d => Res.ok [d]).bind fun ds => .ok (d :: ds)).bind fun ds => .ok (d :: ds))).bind fun ds => ofO (p.sem ds)) = _
  rw [h1, h2, h3]; show ofO (p.sem [x, y, z]) = _; rw [h]; rfl
theorem l0 : evL .nil ρ = .ok [] := rfl
theorem lc {as : EL} {ds : List D} (h1 : ev a ρ = .ok x) (h2 : evL as ρ = .ok ds) : evL (.cons a as) ρ = .ok (x :: ds) := by
  show (ev a ρ).bind (fun d => (evL as ρ).bind fun ds => .ok (d :: ds)) = _
  rw [h1, h2]; rfl
theorem en {as : EL} {ds : List D} (h1 : evL as ρ = .ok ds) (h : p.sem ds = some d) : ev (.prim p as) ρ = .ok d := by
  show (evL as ρ).bind (fun ds => ofO (p.sem ds)) = _
  rw [h1]; show ofO (p.sem ds) = _; rw [h]; rfl
theorem ec {f : Str} {sem : List D → Res D} {as : EL} {ds : List D} {o : Res D} (h1 : evL as ρ = .ok ds) (h : sem ds = o) : ev (.call f sem as) ρ = o := by
  show (evL as ρ).bind sem = _
  rw [h1]; exact h
theorem eand {k : Bool} (h1 : ev a ρ = .ok (.bl k)) (h : (if k then ev b ρ else .ok (.bl k)) = .ok d) : ev (.and a b) ρ = .ok d := by
  show (ev a ρ).bind (fun x => (truth x).bind fun t => if t then ev b ρ else .ok x) = _
  rw [h1]; exact h
theorem eor {k : Bool} (h1 : ev a ρ = .ok (.bl k)) (h : (if k then .ok (.bl k) else ev b ρ) = .ok d) : ev (.or a b) ρ = .ok d := by
  show (ev a ρ).bind (fun x => (truth x).bind fun t => if t then .ok x else ev b ρ) = _
  rw [h1]; exact h
theorem eandT (h1 : ev a ρ = .ok (.bl true)) (h : ev b ρ = .ok d) : ev (.and a b) ρ = .ok d := eand h1 h
theorem eandF (h1 : ev a ρ = .ok (.bl false)) : ev (.and a b) ρ = .ok (.bl false) := eand h1 rfl
theorem eorT (h1 : ev a ρ = .ok (.bl true)) : ev (.or a b) ρ = .ok (.bl true) := eor h1 rfl
theorem eorF (h1 : ev a ρ = .ok (.bl false)) (h : ev b ρ = .ok d) : ev (.or a b) ρ = .ok d := eor h1 h
theorem eandB {k l : Bool} (h1 : ev a ρ = .ok (.bl k)) (h : ev b ρ = .ok (.bl l)) : ev (.and a b) ρ = .ok (.bl (k && l)) := by
  cases k with
  | true => exact eandT h1 h
  | false => exact eandF h1
theorem eorB {k l : Bool} (h1 : ev a ρ = .ok (.bl k)) (h : ev b ρ = .ok (.bl l)) : ev (.or a b) ρ = .ok (.bl (k || l)) := by
  cases k with
  | true => exact eorT h1
  | false => exact eorF h1 h
theorem enot {k : Bool} (h1 : ev a ρ = .ok (.bl k)) : ev (.not a) ρ = .ok (.bl (!k)) := by
  show (ev a ρ).bind (fun x => (truth x).bind fun t => Res.ok (D.bl (!t))) = _
  rw [h1]; rfl
theorem eite {k : Bool} {o : Res D} (h1 : ev t ρ = .ok (.bl k)) (h : (if k then ev a ρ else ev b ρ) = o) : ev (.ite t a b) ρ = o := by
  show ((ev t ρ).bind truth).bind (fun k => if k then ev a ρ else ev b ρ) = _
  rw [h1]; exact h
theorem echain {o1 o2 : CmpOp} {f1 f2 : D → D → Option D} {k : Bool} (h1 : ev a ρ = .ok x) (h2 : ev b ρ = .ok y) (h3 : ev c ρ = .ok z) (e1 : f1 x y = some (.bl k)) {l : Bool} (e2 : f2 y z = some (.bl l)) : ev (.chain o1 o2 f1 f2 a b c) ρ = .ok (.bl (k && l)) := by
  show (ev a ρ).bind (fun x => (ev b ρ).bind fun y => (ofO (f1 x y)).bind fun z => (truth z).bind fun t => if t then (ev c ρ).bind fun u => ofO (f2 y u) else .ok (.bl false)) = _
  rw [h1]
  show (ev b ρ).bind (fun y => (ofO (f1 x y)).bind fun z => (truth z).bind fun t => if t then (ev c ρ).bind fun u => ofO (f2 y u) else .ok (.bl false)) = _
  rw [h2]
  show (ofO (f1 x y)).bind (fun z => (truth z).bind fun t => if t then (ev c ρ).bind fun u => ofO (f2 y u) else .ok (.bl false)) = _
  rw [e1]
  cases k with
  | true =>
    show (ev c ρ).bind (fun u => ofO (f2 y u)) = _
    rw [h3]
    show ofO (f2 y z) = _
    rw [e2]; rfl
  | false => rfl
/-! statements -/
theorem rc {q : S1} {o : Out} (h : run1 q s = .nx s') (h2 : run r s' = o) : run (.cons q r) s = o := by
  show seqO (run1 q s) (fun s => run r s) = _
  rw [h]; exact h2
theorem rr {q : S1} (h : run1 q s = .rt d) : run (.cons q r) s = .rt d := by
  show seqO (run1 q s) (fun s => run r s) = _
  rw [h]; rfl
theorem rset {h : Bool} {e : E} {o : Out} (h1 : ev e (see h s) = .ok d) (ho : okFor h d = true) (h2 : run r (s.set i (.ro d)) = o) : run (.cons (.set h i e) r) s = o := by
  refine rc (s' := s.set i (.ro d)) ?_ h2
  show outE (ev e (see h s)) (fun d => if okFor h d then .nx (s.set i (.ro d)) else .stuck) = _
  rw [h1]; show (if okFor h d = true then _ else _) = _; rw [if_pos ho]
theorem rret {e : E} (h1 : ev e (full s) = .ok d) : run (.cons (.ret e) r) s = .rt d := by
  refine rr ?_
  show outE (ev e (full s)) (fun d => .rt d) = _
  rw [h1]; rfl
theorem rite {u v : S} {k : Bool} {o : Out} (h1 : ev t (full s) = .ok (.bl k)) (h : seqO (if k then run u s else run v s) (fun s => run r s) = o) : run (.cons (.ite t u v) r) s = o := by
  show seqO (outE ((ev t (full s)).bind truth) fun t => if t then run u s else run v s) (fun s => run r s) = _
  rw [h1]; exact h
/-- if .. return: the way on -/
theorem riteF {u : S} {o : Out} (h1 : ev t (full s) = .ok (.bl false)) (h : run r s = o) : run (.cons (.ite t u .nil) r) s = o := rite h1 h
theorem riteT {u v : S} (h1 : ev t (full s) = .ok (.bl true)) (h : run u s = .rt d) : run (.cons (.ite t u v) r) s = .rt d := rite h1 (by rw [if_pos rfl, h]; rfl)
theorem rite2 {u v : S} {k : Bool} {o : Out} (h1 : ev t (full s) = .ok (.bl k)) (hT : k = true → run u s = .nx s') (hF : k = false → run v s = .nx s') (h : run r s' = o) : run (.cons (.ite t u v) r) s = o := by
  refine rite h1 ?_
  cases k with
  | true => rw [if_pos rfl, hT rfl]; exact h
  | false => rw [if_neg Bool.false_ne_true, hF rfl]; exact h
theorem rown {h : Bool} {e : E} {l : List D} {o : Out} (h1 : ev e (see h s) = .ok (.lst l)) (ho : (h || flatAll l) = true) (h2 : run r (s.set i (.own l)) = o) : run (.cons (.own h i e) r) s = o := by
  refine rc (s' := s.set i (.own l)) ?_ h2
  show outE (ev e (see h s)) (fun d => ownS h i s d) = _
  rw [h1]; show (if (h || flatAll l) = true then _ else _) = _; rw [if_pos ho]
theorem rapp {h : Bool} {e : E} {l : List D} {o : Out} (hs : s[i]? = some (.own l)) (h1 : ev e (see h s) = .ok d) (ho : okFor h d = true) (hl : l.length < sizeD) (h2 : run r (s.set i (.own (l ++ [d]))) = o) : run (.cons (.app h i e) r) s = o := by
  refine rc (s' := s.set i (.own (l ++ [d]))) ?_ h2
  show withOwn s i (fun l => outE (ev e (see h s)) fun d => appD h i s l d) = _
  unfold withOwn
  rw [hs]
  show outE (ev e (see h s)) (fun d => appD h i s l d) = _
  rw [h1]
  show appD h i s l d = _
  unfold appD
  rw [ho, decide_eq_true hl]; rfl
theorem rpar {h : Bool} {ts : List (Bool × Nat)} {as : EL} {ds : List D} {o : Out} (h1 : evL as (see h s) = .ok ds) (ho : parS h ts ds s = .nx s') (h2 : run r s' = o) : run (.cons (.par h ts as) r) s = o := by
  refine rc ?_ h2
  show outE (noExc (evL as (see h s))) (fun ds => parS h ts ds s) = _
  rw [h1]; exact ho
theorem runp {h : Bool} {is : List Nat} {e : E} {o : Out} (h1 : ev e (see h s) = .ok d) (ho : unpS h is s d = .nx s') (h2 : run r s' = o) : run (.cons (.unp h is e) r) s = o := by
  refine rc ?_ h2
  show outE (ev e (see h s)) (fun d => unpS h is s d) = _
  rw [h1]; exact ho
theorem rfor {tg : Tg} {it : IT} {u : S} {ds : List D} {o : Out} (h1 : evI it (hid s) = .ok ds) (ho : forM (fun s => run u s) tg ds s = .nx s') (h2 : run r s' = o) : run (.cons (.for_ tg it u) r) s = o := by
  refine rc ?_ h2
  show outE (evI it (hid s)) (fun ds => forM (fun s => run u s) tg ds s) = _
  rw [h1]; exact ho
theorem rexpr {e : E} {o : Out} (h1 : ev e (full s) = .ok d) (h2 : run r s = o) : run (.cons (.expr e) r) s = o := by
  refine rc ?_ h2
  show outE (ev e (full s)) (fun _ => .nx s) = _
  rw [h1]; rfl
theorem rcall {n np : Nat} {bd : S} {ds : List D} (hl : ds.length = np) (h : run bd (startS n ds) = .rt d) : callD n np bd ds = .ok d := by
  unfold callD
  rw [if_pos hl, h]; rfl
/-! whole numbers -/
theorem ki {k : Int} : ev (.c (.int k)) ρ = .ok (.int k) := rfl
theorem eadd {x y : Int} (h1 : ev a ρ = .ok (.int x)) (h2 : ev b ρ = .ok (.int y)) : ev (.prim pAdd (.cons a (.cons b .nil))) ρ = .ok (.int (x + y)) := e2 h1 h2 rfl
theorem esub {x y : Int} (h1 : ev a ρ = .ok (.int x)) (h2 : ev b ρ = .ok (.int y)) : ev (.prim pSub (.cons a (.cons b .nil))) ρ = .ok (.int (x - y)) := e2 h1 h2 rfl
theorem emul {x y : Int} (h1 : ev a ρ = .ok (.int x)) (h2 : ev b ρ = .ok (.int y)) (h : mulOk x y = true) : ev (.prim pMul (.cons a (.cons b .nil))) ρ = .ok (.int (x * y)) := e2 h1 h2 (o_mul h)
theorem efdv {x y : Int} (h1 : ev a ρ = .ok (.int x)) (h2 : ev b ρ = .ok (.int y)) (h : divOk x y = true) : ev (.prim pFdv (.cons a (.cons b .nil))) ρ = .ok (.int (x / y)) := e2 h1 h2 (o_fdv h)
theorem emod {x y : Int} (h1 : ev a ρ = .ok (.int x)) (h2 : ev b ρ = .ok (.int y)) (h : 0 < y) : ev (.prim pMod (.cons a (.cons b .nil))) ρ = .ok (.int (x % y)) := e2 h1 h2 (o_mod (mod_small h))
theorem elt {x y : Int} (h1 : ev a ρ = .ok (.int x)) (h2 : ev b ρ = .ok (.int y)) : ev (.prim pLt (.cons a (.cons b .nil))) ρ = .ok (.bl (decide (x < y))) := e2 h1 h2 rfl
theorem ele {x y : Int} (h1 : ev a ρ = .ok (.int x)) (h2 : ev b ρ = .ok (.int y)) : ev (.prim pLe (.cons a (.cons b .nil))) ρ = .ok (.bl (decide (x ≤ y))) := e2 h1 h2 rfl
theorem egt {x y : Int} (h1 : ev a ρ = .ok (.int x)) (h2 : ev b ρ = .ok (.int y)) : ev (.prim pGt (.cons a (.cons b .nil))) ρ = .ok (.bl (decide (x > y))) := e2 h1 h2 rfl
theorem ege {x y : Int} (h1 : ev a ρ = .ok (.int x)) (h2 : ev b ρ = .ok (.int y)) : ev (.prim pGe (.cons a (.cons b .nil))) ρ = .ok (.bl (decide (x ≥ y))) := e2 h1 h2 rfl
end
end PL

namespace PL
open PySem PySem.Spec PyProof.Rows L2
/-! ## fractions: plain -/
def gd (n d : Int) : Int := (Int.gcd n d : Int)
def fr (n d : Int) : D := .tup [.int (n / gd n d), .int (d / gd n d)]
theorem gd_pos {n d : Int} (h : 0 < d) : 0 < gd n d := by
  have := Int.gcd_pos_of_ne_zero_right n (b := d) (by omega)
  unfold gd; omega
theorem gd_n (n d : Int) : n = gd n d * (n / gd n d) := (Int.mul_ediv_cancel' (Int.gcd_dvd_left n d)).symm
theorem gd_d (n d : Int) : d = gd n d * (d / gd n d) := (Int.mul_ediv_cancel' (Int.gcd_dvd_right n d)).symm
theorem fr_scale {k n d : Int} (hk : 0 < k) : fr (k * n) (k * d) = fr n d := by
  have e : gd (k * n) (k * d) = k * gd n d := by
    unfold gd
    rw [Int.gcd_mul_left]
    have : (k.natAbs : Int) = k := by omega
    rw [Int.natCast_mul, this]
  unfold fr
  rw [e, Int.mul_ediv_mul_of_pos _ _ hk, Int.mul_ediv_mul_of_pos _ _ hk]
theorem fr_cross {n d n' d' : Int} (h : 0 < d) (h' : 0 < d') (e : n * d' = n' * d) : fr n d = fr n' d' := by
  rw [← fr_scale (k := d') (n := n) (d := d) h', ← fr_scale (k := d) (n := n') (d := d') h]
  rw [Int.mul_comm d' n, e, Int.mul_comm n' d, Int.mul_comm d' d]
def num (n d : Int) : Int := n / gd n d
def den (n d : Int) : Int := d / gd n d
theorem fr_eq (n d : Int) : fr n d = .tup [.int (num n d), .int (den n d)] := rfl
theorem den_pos {n d : Int} (h : 0 < d) : 0 < den n d := by
  have g := gd_pos (n := n) h
  have e := gd_d n d
  unfold den
  rcases Int.lt_trichotomy 0 (d / gd n d) with z | z | z
  · exact z
  · rw [← z] at e; omega
  · have := Int.mul_neg_of_pos_of_neg g z
    omega
theorem den_le {n d : Int} (h : 0 < d) : den n d ≤ d := by
  have g := gd_pos (n := n) h
  have q := den_pos (n := n) h
  have e := gd_d n d
  have : 1 * den n d ≤ gd n d * den n d := Int.mul_le_mul_of_nonneg_right (by omega) (by omega)
  unfold den at *
  omega
theorem num_le {n d : Int} (h : 0 < d) : (num n d).natAbs ≤ n.natAbs := by
  have g := gd_pos (n := n) h
  have e := gd_n n d
  unfold num
  have e2 : n.natAbs = (gd n d).natAbs * (n / gd n d).natAbs := by rw [← Int.natAbs_mul, ← e]
  rw [e2]
  exact Nat.le_mul_of_pos_left _ (by omega)
theorem num_den {n d : Int} : n * den n d = num n d * d := by
  have e1 := gd_n n d
  have e2 := gd_d n d
  have a : n * den n d = gd n d * num n d * den n d := by unfold num; rw [← e1]
  have b : num n d * d = num n d * (gd n d * den n d) := by unfold den; rw [← e2]
  rw [a, b, Int.mul_comm (gd n d) (num n d), Int.mul_assoc]
/-- the fraction of a fraction's parts -/
theorem fr_nd {n d : Int} (h : 0 < d) : fr (num n d) (den n d) = fr n d := fr_cross (den_pos h) h num_den.symm
theorem fr_inj {n d n' d' : Int} (h : 0 < d) (h' : 0 < d') (e1 : num n d = num n' d') (e2 : den n d = den n' d') : n * d' = n' * d := by
  have a := gd_n n d
  have b := gd_d n d
  have a' := gd_n n' d'
  have b' := gd_d n' d'
  have e1' : n / gd n d = n' / gd n' d' := e1
  have e2' : d / gd n d = d' / gd n' d' := e2
  generalize gd n d = g at *
  generalize gd n' d' = g' at *
  generalize n / g = p at *
  generalize d / g = q at *
  rw [← e1'] at a'
  rw [← e2'] at b'
  rw [a, b, a', b']
  grind
/-! ## what the program reckons -/
def big : Int := 100000000000000000000000000000000000000000000000000000000000000000000000000000000000000000000000000000000000000000000000000000000000000000000000000000000000000000000000000000000000000000000000000000000000000000000000000000000000000000000000000000000000000000000000000000000000000000000000000000000000000000000000000000000000000000000000000000000000000000000000000000000000000000000000000000000000000000000000000000000000000000000000000000000000000000000000000000000000000000000000000000000000000000000000000000000000000000000000000000000000000000000000000000000000000000000000000000000000000000000000000000000000000000000000000000000000000000000000000000000000000000000000000000000000000000000000000000000000000000000000000000000000000000000000000000000000000000000000000000000000000000000000000000000
def bnd (a : Int) : Bool := decide (-big < a) && decide (a < big)
theorem bnd_iff {a : Int} : bnd a = true ↔ -big < a ∧ a < big := by
  unfold bnd; rw [Bool.and_eq_true, decide_eq_true_eq, decide_eq_true_eq]
def topD : Int := 100000000000000000000000000000000000000000000000000000000000000000000000000000000000000000000000000000000000000000000000000000000000000000000000000000000000000000000000000000000000000000000000000000000000000000000000000000000000000000000000000000000000000000000000000000000000000000000000000000000000000000000000000000000000000000000000000000000000000000000000000000000000000000000000000000000000000000000000000000000000000000000000000000000000000000000000000000000000000000000000000000000000000000000000000000000000000000000000000000000000000000000000000000000000000000000000000000000000000000000000000000000000000000000000000000000000000000000000000000000000000000000000000000000000000000000000000000000000000000000000000000000000000000000000000000000000000000000000000000000000000000000000000000000000000000000000000000000000000000000000000000000000000000000000000000000000000000000000000000000000000000000000000000000000000000000000000000000000000000000000000000000000000000000000000000000000000000000000000000000000000000000000000000000000000000000000000000000000000000000000000000000000000000000000000000000000000000000000000000000000000000000000000000000000000000000000000000000000000000000000000000000000000000000000000000000000000000000000000000000000000000000000000000000000000000000000000000000000000000000000000000000000000000000000000000000000000000000000000000000000000000000000000000000000000000000000000000000000000000000000000000000000000000000000000000000000000000000000000000000000000000000000000000000000000000000000000000000000000000000000000000000000000000000000000000000000000000
def fShare : List D → Res D
  | [.int n, .int d] => if decide (0 < d) && decide (d < topD) then .ok (fr n d) else .stuck
  | _ => .stuck
def frOp (f g : Int → Int → Int → Int → Int) : List D → Res D
  | [.tup [.int a, .int b], .tup [.int c, .int d]] => if bnd a && bnd b && bnd c && bnd d && decide (0 < b) && decide (0 < d) then .ok (fr (f a b c d) (g a b c d)) else .stuck
  | _ => .stuck
def fPlus : List D → Res D := frOp (fun a b c d => a * d + c * b) fun a b c d => b * d
def fMinus : List D → Res D := frOp (fun a b c d => a * d - c * b) fun a b c d => b * d
def fTimes : List D → Res D := frOp (fun a b c d => a * c) fun a b c d => b * d
def fLess : List D → Res D
  | [.tup [.int a, .int b], .tup [.int c, .int d]] => if bnd a && bnd b && bnd c && bnd d then .ok (.bl (decide (a * d < c * b))) else .stuck
  | _ => .stuck
theorem share_ok {n d : Int} (h : 0 < d) (h2 : d < topD) : fShare [.int n, .int d] = .ok (fr n d) := by
  show (if _ then _ else _) = _
  rw [decide_eq_true h, decide_eq_true h2]; rfl
theorem vast {n : Nat} (h : n < 100000000000000000000000000000000000000000000000000000000000000000000000000000000000000000000000000000000000000000000000000000000000000000000000000000000000000000000000000000000000000000000000000000000000000000000000000000000000000000000000000000000000000000000000000000000000000000000000000000000000000000000000000000000000000000000000000000000000000000000000000000000000000000000000000000000000000000000000000000000000000000000000000000000000000000000000000000000000000000000000000000000000000000000000000000000000000000000000000000000000000000000000000000000000000000000000000000000000000000000000000000000000000000000000000000000000000000000000000000000000000000000000000000000000000000000000000000000000000000000000000000000000000000000000000000000000000000000000000000000000000000000000000000000000000000000000000000000000000000000000000000000000000000000000000000000000000000000000000000000000000000000000000000000000000000000000000000000000000000000000000000000000000000000000000000000000000000000000000000000000000000000000000000000000000000000000000000000000000000000000000000000000000000000000000000000000000000000000000000000000000000000000000000000000000000000000000000000000000000000000000000000000000000000000000000000000000000000000000000000000000000000000000000000000000000000000000000000000000000000000000000000000000000000000000000000000000000000000000000000000000000000000000000000000000000000000000000000000000000000000000000000000000000000000000000000000000000000000000000000000000000000000000000000000000000000000000000000000000000000000000000000000000000000000000000000000000000) : n.log2 < 5400 := log2_lt (Nat.lt_of_lt_of_le h (by decide +kernel)) (by decide)
theorem mul_vast {a b : Int} (h : a.natAbs < 100000000000000000000000000000000000000000000000000000000000000000000000000000000000000000000000000000000000000000000000000000000000000000000000000000000000000000000000000000000000000000000000000000000000000000000000000000000000000000000000000000000000000000000000000000000000000000000000000000000000000000000000000000000000000000000000000000000000000000000000000000000000000000000000000000000000000000000000000000000000000000000000000000000000000000000000000000000000000000000000000000000000000000000000000000000000000000000000000000000000000000000000000000000000000000000000000000000000000000000000000000000000000000000000000000000000000000000000000000000000000000000000000000000000000000000000000000000000000000000000000000000000000000000000000000000000000000000000000000000000000000000000000000000000000000000000000000000000000000000000000000000000000000000000000000000000000000000000000000000000000000000000000000000000000000000000000000000000000000000000000000000000000000000000000000000000000000000000000000000000000000000000000000000000000000000000000000000000000000000000000000000000000000000000000000000000000000000000000000000000000000000000000000000000000000000000000000000000000000000000000000000000000000000000000000000000000000000000000000000000000000000000000000000000000000000000000000000000000000000000000000000000000000000000000000000000000000000000000000000000000000000000000000000000000000000000000000000000000000000000000000000000000000000000000000000000000000000000000000000000000000000000000000000000000000000000000000000000000000000000000000000000000000000000000000000000000000) (h2 : b.natAbs < 100000000000000000000000000000000000000000000000000000000000000000000000000000000000000000000000000000000000000000000000000000000000000000000000000000000000000000000000000000000000000000000000000000000000000000000000000000000000000000000000000000000000000000000000000000000000000000000000000000000000000000000000000000000000000000000000000000000000000000000000000000000000000000000000000000000000000000000000000000000000000000000000000000000000000000000000000000000000000000000000000000000000000000000000000000000000000000000000000000000000000000000000000000000000000000000000000000000000000000000000000000000000000000000000000000000000000000000000000000000000000000000000000000000000000000000000000000000000000000000000000000000000000000000000000000000000000000000000000000000000000000000000000000000000000000000000000000000000000000000000000000000000000000000000000000000000000000000000000000000000000000000000000000000000000000000000000000000000000000000000000000000000000000000000000000000000000000000000000000000000000000000000000000000000000000000000000000000000000000000000000000000000000000000000000000000000000000000000000000000000000000000000000000000000000000000000000000000000000000000000000000000000000000000000000000000000000000000000000000000000000000000000000000000000000000000000000000000000000000000000000000000000000000000000000000000000000000000000000000000000000000000000000000000000000000000000000000000000000000000000000000000000000000000000000000000000000000000000000000000000000000000000000000000000000000000000000000000000000000000000000000000000000000000000000000000000000000) : mulOk a b = true := by
  unfold mulOk
  have h1 := vast h
  have h3 := vast h2
  rw [decide_eq_true (show a.natAbs.log2 + b.natAbs.log2 < 1000000 by omega)]
  simp
theorem div_vast {a b : Int} (h : 0 < b) (h2 : b < 100000000000000000000000000000000000000000000000000000000000000000000000000000000000000000000000000000000000000000000000000000000000000000000000000000000000000000000000000000000000000000000000000000000000000000000000000000000000000000000000000000000000000000000000000000000000000000000000000000000000000000000000000000000000000000000000000000000000000000000000000000000000000000000000000000000000000000000000000000000000000000000000000000000000000000000000000000000000000000000000000000000000000000000000000000000000000000000000000000000000000000000000000000000000000000000000000000000000000000000000000000000000000000000000000000000000000000000000000000000000000000000000000000000000000000000000000000000000000000000000000000000000000000000000000000000000000000000000000000000000000000000000000000000000000000000000000000000000000000000000000000000000000000000000000000000000000000000000000000000000000000000000000000000000000000000000000000000000000000000000000000000000000000000000000000000000000000000000000000000000000000000000000000000000000000000000000000000000000000000000000000000000000000000000000000000000000000000000000000000000000000000000000000000000000000000000000000000000000000000000000000000000000000000000000000000000000000000000000000000000000000000000000000000000000000000000000000000000000000000000000000000000000000000000000000000000000000000000000000000000000000000000000000000000000000000000000000000000000000000000000000000000000000000000000000000000000000000000000000000000000000000000000000000000000000000000000000000000000000000000000000000000000000000000000000000000000000) : divOk a b = true := by
  unfold divOk
  rw [decide_eq_true h, Bool.true_and, decide_eq_true_eq]
  exact Nat.lt_trans (vast (show b.natAbs < 100000000000000000000000000000000000000000000000000000000000000000000000000000000000000000000000000000000000000000000000000000000000000000000000000000000000000000000000000000000000000000000000000000000000000000000000000000000000000000000000000000000000000000000000000000000000000000000000000000000000000000000000000000000000000000000000000000000000000000000000000000000000000000000000000000000000000000000000000000000000000000000000000000000000000000000000000000000000000000000000000000000000000000000000000000000000000000000000000000000000000000000000000000000000000000000000000000000000000000000000000000000000000000000000000000000000000000000000000000000000000000000000000000000000000000000000000000000000000000000000000000000000000000000000000000000000000000000000000000000000000000000000000000000000000000000000000000000000000000000000000000000000000000000000000000000000000000000000000000000000000000000000000000000000000000000000000000000000000000000000000000000000000000000000000000000000000000000000000000000000000000000000000000000000000000000000000000000000000000000000000000000000000000000000000000000000000000000000000000000000000000000000000000000000000000000000000000000000000000000000000000000000000000000000000000000000000000000000000000000000000000000000000000000000000000000000000000000000000000000000000000000000000000000000000000000000000000000000000000000000000000000000000000000000000000000000000000000000000000000000000000000000000000000000000000000000000000000000000000000000000000000000000000000000000000000000000000000000000000000000000000000000000000000000000000000000000000 by omega)) (by decide)
theorem mul_bnd {a b : Int} (ha : bnd a = true) (hb : bnd b = true) : mulOk a b = true := by
  rw [bnd_iff] at ha hb
  unfold big at ha hb
  exact mul_vast (by omega) (by omega)
theorem mul_top {b d : Int} (hb : bnd b = true) (hd : bnd d = true) (h : 0 < b) (h' : 0 < d) : 0 < b * d ∧ b * d < topD := by
  rw [bnd_iff] at hb hd
  refine ⟨Int.mul_pos h h', ?_⟩
  have h1 : b * d ≤ big * d := Int.mul_le_mul_of_nonneg_right (by omega) (by omega)
  have h2 : big * d < big * big := Int.mul_lt_mul_of_pos_left hd.2 (by decide)
  have h3 : big * big < topD := by decide
  omega
/-- two fractions handed on -/
theorem bnd_num {n d : Int} (h : 0 < d) (hn : bnd n = true) : bnd (num n d) = true := by
  have := num_le (n := n) h
  rw [bnd_iff] at *
  omega
theorem bnd_den {n d : Int} (h : 0 < d) (hd : bnd d = true) : bnd (den n d) = true := by
  have := den_le (n := n) h
  have := den_pos (n := n) h
  rw [bnd_iff] at *
  omega
theorem frOp_fr {f g : Int → Int → Int → Int → Int} {n d n' d' : Int} (h : 0 < d) (h' : 0 < d') (hn : bnd n = true) (hd : bnd d = true) (hn' : bnd n' = true) (hd' : bnd d' = true) :
    frOp f g [fr n d, fr n' d'] = .ok (fr (f (num n d) (den n d) (num n' d') (den n' d')) (g (num n d) (den n d) (num n' d') (den n' d'))) := by
  rw [fr_eq, fr_eq]
  show (if _ then _ else _) = _
  rw [bnd_num h hn, bnd_den h hd, bnd_num h' hn', bnd_den h' hd', decide_eq_true (den_pos h), decide_eq_true (den_pos h')]
  rfl
theorem plus_fr {n d n' d' : Int} (h : 0 < d) (h' : 0 < d') (hn : bnd n = true) (hd : bnd d = true) (hn' : bnd n' = true) (hd' : bnd d' = true) : fPlus [fr n d, fr n' d'] = .ok (fr (n * d' + n' * d) (d * d')) := by
  unfold fPlus
  rw [frOp_fr h h' hn hd hn' hd']
  have e1 := num_den (n := n) (d := d)
  have e2 := num_den (n := n') (d := d')
  rw [fr_cross (Int.mul_pos (den_pos h) (den_pos h')) (Int.mul_pos h h') ?_]
  grind
theorem minus_fr {n d n' d' : Int} (h : 0 < d) (h' : 0 < d') (hn : bnd n = true) (hd : bnd d = true) (hn' : bnd n' = true) (hd' : bnd d' = true) : fMinus [fr n d, fr n' d'] = .ok (fr (n * d' - n' * d) (d * d')) := by
  unfold fMinus
  rw [frOp_fr h h' hn hd hn' hd']
  have e1 := num_den (n := n) (d := d)
  have e2 := num_den (n := n') (d := d')
  rw [fr_cross (Int.mul_pos (den_pos h) (den_pos h')) (Int.mul_pos h h') ?_]
  grind
theorem times_fr {n d n' d' : Int} (h : 0 < d) (h' : 0 < d') (hn : bnd n = true) (hd : bnd d = true) (hn' : bnd n' = true) (hd' : bnd d' = true) : fTimes [fr n d, fr n' d'] = .ok (fr (n * n') (d * d')) := by
  unfold fTimes
  rw [frOp_fr h h' hn hd hn' hd']
  have e1 := num_den (n := n) (d := d)
  have e2 := num_den (n := n') (d := d')
  rw [fr_cross (Int.mul_pos (den_pos h) (den_pos h')) (Int.mul_pos h h') ?_]
  grind
theorem lt_cross {n d n' d' p q p' q' : Int} (h : 0 < d) (h' : 0 < d') (hq : 0 < q) (hq' : 0 < q') (e1 : n * q = p * d) (e2 : n' * q' = p' * d') : p * q' < p' * q ↔ n * d' < n' * d := by
  have a : (p * q') * (d * d') = (n * d') * (q * q') := by grind
  have b : (p' * q) * (d * d') = (n' * d) * (q * q') := by grind
  have c : 0 < d * d' := Int.mul_pos h h'
  have c' : 0 < q * q' := Int.mul_pos hq hq'
  constructor
  · intro z
    have := Int.mul_lt_mul_of_pos_right z c
    rw [a, b] at this
    exact Int.lt_of_mul_lt_mul_right this (Int.le_of_lt c')
  · intro z
    have := Int.mul_lt_mul_of_pos_right z c'
    rw [← a, ← b] at this
    exact Int.lt_of_mul_lt_mul_right this (Int.le_of_lt c)
theorem less_fr {n d n' d' : Int} (h : 0 < d) (h' : 0 < d') (hn : bnd n = true) (hd : bnd d = true) (hn' : bnd n' = true) (hd' : bnd d' = true) : fLess [fr n d, fr n' d'] = .ok (.bl (decide (n * d' < n' * d))) := by
  rw [fr_eq, fr_eq]
  show (if _ then _ else _) = _
  rw [bnd_num h hn, bnd_den h hd, bnd_num h' hn', bnd_den h' hd']
  show Res.ok (D.bl (decide _)) = _
  congr 2
  exact decide_eq_decide.mpr (lt_cross h h' (den_pos h) (den_pos h') num_den num_den)
/-- fractions compared -/
theorem fr_shp (n d : Int) : shp (fr n d) = true := rfl
theorem fr_deq {n d n' d' : Int} (h : 0 < d) (h' : 0 < d') : deq (fr n d) (fr n' d') = decide (n * d' = n' * d) := by
  rw [fr_eq, fr_eq]
  show ((num n d == num n' d') && ((den n d == den n' d') && true)) = _
  rw [Bool.and_true]
  by_cases e : n * d' = n' * d
  · have := fr_cross h h' e
    rw [fr_eq, fr_eq] at this
    injection this with this
    injection this with t1 t2
    injection t2 with t2 _
    injection t1 with t1
    injection t2 with t2
    rw [t1, t2, decide_eq_true e]; simp
  · rw [decide_eq_false e]
    rw [Bool.and_eq_false_iff]
    by_cases e1 : num n d = num n' d'
    · right
      rw [beq_eq_false_iff_ne]
      exact fun e2 => e (fr_inj h h' e1 e2)
    · left; rw [beq_eq_false_iff_ne]; exact e1
theorem ne_fr {n d n' d' : Int} (h : 0 < d) (h' : 0 < d') : opNe (fr n d) (fr n' d') = some (.bl (!decide (n * d' = n' * d))) := by
  unfold opNe
  rw [fr_shp, fr_shp, fr_deq h h']; rfl
theorem eq_fr {n d n' d' : Int} (h : 0 < d) (h' : 0 < d') : opEq (fr n d) (fr n' d') = some (.bl (decide (n * d' = n' * d))) := by
  unfold opEq
  rw [fr_shp, fr_shp, fr_deq h h']; rfl
theorem one_fr (n : Int) : fr n 1 = .tup [.int n, .int 1] := by
  unfold fr gd
  simp
/-! ## their texts -/
def b_share : S :=
  (.cons (.par true [(false, 2), (false, 3)] (.cons (.prim pAbs (.cons (.v 0) .nil)) (.cons (.v 1) .nil)))
  (.cons (.while_ 100000000000000000000000000000000000000000000000000000000000000000000000000000000000000000000000000000000000000000000000000000000000000000000000000000000000000000000000000000000000000000000000000000000000000000000000000000000000000000000000000000000000000000000000000000000000000000000000000000000000000000000000000000000000000000000000000000000000000000000000000000000000000000000000000000000000000000000000000000000000000000000000000000000000000000000000000000000000000000000000000000000000000000000000000000000000000000000000000000000000000000000000000000000000000000000000000000000000000000000000000000000000000000000000000000000000000000000000000000000000000000000000000000000000000000000000000000000000000000000000000000000000000000000000000000000000000000000000000000000000000000000000000000000000000000000000000000000000000000000000000000000000000000000000000000000000000000000000000000000000000000000000000000000000000000000000000000000000000000000000000000000000000000000000000000000000000000000000000000000000000000000000000000000000000000000000000000000000000000000000000000000000000000000000000000000000000000000000000000000000000000000000000000000000000000000000000000000000000000000000000000000000000000000000000000000000000000000000000000000000000000000000000000000000000000000000000000000000000000000000000000000000000000000000000000000000000000000000000000000000000000000000000000000000000000000000000000000000000000000000000000000000000000000000000000000000000000000000000000000000000000000000000000000000000000000000000000000000000000000000000000000000000000000000000000000000000000 (.prim pNe (.cons (.v 3) (.cons (.c (.int 0)) .nil)))
  (.cons (.par true [(false, 2), (false, 3)] (.cons (.v 3) (.cons (.prim pMod (.cons (.v 2) (.cons (.v 3) .nil))) .nil)))
  .nil))
  (.cons (.ret (.prim pTup (.cons (.prim pFdv (.cons (.v 0) (.cons (.v 2) .nil))) (.cons (.prim pFdv (.cons (.v 1) (.cons (.v 2) .nil))) .nil))))
  .nil)))
theorem gcd_step {x y : Int} (hx : 0 ≤ x) (hy : 0 ≤ y) : Int.gcd y (x % y) = Int.gcd x y := by
  obtain ⟨a, rfl⟩ := Int.eq_ofNat_of_zero_le hx
  obtain ⟨b, rfl⟩ := Int.eq_ofNat_of_zero_le hy
  rw [← Int.natCast_emod, Int.gcd_natCast_natCast, Int.gcd_natCast_natCast, Nat.gcd_comm a b, Nat.gcd_rec b a, Nat.gcd_comm]
theorem w_share (A B : Sl) (m : Nat) : ∀ (x y : Int), 0 ≤ x → 0 ≤ y → y.toNat < m →
    whileM (fun s => (ev (.prim pNe (.cons (.v 3) (.cons (.c (.int 0)) .nil))) (full s)).bind truth) (fun s => PL.run (.cons (.par true [(false, 2), (false, 3)] (.cons (.v 3) (.cons (.prim pMod (.cons (.v 2) (.cons (.v 3) .nil))) .nil))) .nil) s) m [A, B, .ro (.int x), .ro (.int y)]
      = .nx [A, B, .ro (.int (Int.gcd x y)), .ro (.int 0)] := by
  induction m with
  | zero => intro x y _ _ h; exact absurd h (Nat.not_lt_zero _)
  | succ m ih =>
    intro x y hx hy hm
    have hc : (ev (.prim pNe (.cons (.v 3) (.cons (.c (.int 0)) .nil))) (full [A, B, .ro (.int x), .ro (.int y)])).bind truth = .ok (!decide (y = 0)) := by
      show (ofO (opNe (.int y) (.int 0))).bind truth = _
      rw [o_neI]; rfl
    unfold whileM
    rw [hc]
    by_cases h0 : y = 0
    · subst h0
      have e : (Int.gcd x 0 : Int) = x := by rw [Int.gcd_zero_right]; omega
      rw [e]
      rfl
    · have hb : PL.run (.cons (.par true [(false, 2), (false, 3)] (.cons (.v 3) (.cons (.prim pMod (.cons (.v 2) (.cons (.v 3) .nil))) .nil))) .nil) [A, B, .ro (.int x), .ro (.int y)] = .nx [A, B, .ro (.int y), .ro (.int (x % y))] := by
        have e : ev (.prim pMod (.cons (.v 2) (.cons (.v 3) .nil))) (see true [A, B, .ro (.int x), .ro (.int y)]) = .ok (.int (x % y)) := by
          show ofO (int2 modOk (fun a b => .int (a % b)) (.int x) (.int y)) = _
          rw [o_mod (mod_small (by omega))]; rfl
        show seqO (outE (noExc (((ev (.v 3) (see true [A, B, .ro (.int x), .ro (.int y)])).bind fun d => ((ev (.prim pMod (.cons (.v 2) (.cons (.v 3) .nil))) (see true [A, B, .ro (.int x), .ro (.int y)])).bind fun d2 => Res.ok [d2]).bind fun ds => .ok (d :: ds)))) fun ds => parS true [(false, 2), (false, 3)] ds [A, B, .ro (.int x), .ro (.int y)]) (fun s => .nx s) = _
        rw [e]
        rfl
      have hmod := Int.emod_lt_of_pos x (show 0 < y by omega)
      have hnn := Int.emod_nonneg x h0
      have key := ih y (x % y) hy hnn (by omega)
      rw [gcd_step hx hy] at key
      rw [← key]
      show (if (!decide (y = 0)) = true then seqO (PL.run _ [A, B, .ro (.int x), .ro (.int y)]) _ else _) = _
      rw [hb, if_pos (by simp [h0])]
      rfl
theorem gd_abs {n d : Int} : gd (if n < 0 then -n else n) d = gd n d := by
  unfold gd
  split
  · rw [Int.neg_gcd]
  · rfl
theorem r_share (ds : List D) (h : fShare ds ≠ .stuck) : callD 4 2 b_share ds = fShare ds := by
  unfold fShare at h ⊢
  split at h
  · rename_i n d
    split at h
    · rename_i hd
      rw [Bool.and_eq_true, decide_eq_true_eq, decide_eq_true_eq] at hd
      obtain ⟨h1, h2⟩ := hd
      have e1 : (if (decide (0 < d) && decide (d < topD)) = true then Res.ok (fr n d) else .stuck) = .ok (fr n d) := by
        rw [decide_eq_true h1, decide_eq_true h2]; rfl
      rw [e1]
      have hw := w_share (.ro (.int n)) (.ro (.int d)) 100000000000000000000000000000000000000000000000000000000000000000000000000000000000000000000000000000000000000000000000000000000000000000000000000000000000000000000000000000000000000000000000000000000000000000000000000000000000000000000000000000000000000000000000000000000000000000000000000000000000000000000000000000000000000000000000000000000000000000000000000000000000000000000000000000000000000000000000000000000000000000000000000000000000000000000000000000000000000000000000000000000000000000000000000000000000000000000000000000000000000000000000000000000000000000000000000000000000000000000000000000000000000000000000000000000000000000000000000000000000000000000000000000000000000000000000000000000000000000000000000000000000000000000000000000000000000000000000000000000000000000000000000000000000000000000000000000000000000000000000000000000000000000000000000000000000000000000000000000000000000000000000000000000000000000000000000000000000000000000000000000000000000000000000000000000000000000000000000000000000000000000000000000000000000000000000000000000000000000000000000000000000000000000000000000000000000000000000000000000000000000000000000000000000000000000000000000000000000000000000000000000000000000000000000000000000000000000000000000000000000000000000000000000000000000000000000000000000000000000000000000000000000000000000000000000000000000000000000000000000000000000000000000000000000000000000000000000000000000000000000000000000000000000000000000000000000000000000000000000000000000000000000000000000000000000000000000000000000000000000000000000000000000000000000000000000000000 (if n < 0 then -n else n) d (by split <;> omega) (by omega) (by unfold topD at h2; omega)
      have hg : ((Int.gcd (if n < 0 then -n else n) d : Nat) : Int) = gd n d := gd_abs
      rw [hg] at hw
      have gp := gd_pos (n := n) h1
      have gl : gd n d ≤ d := by
        have q := den_pos (n := n) h1
        have e := gd_d n d
        have : gd n d * 1 ≤ gd n d * den n d := Int.mul_le_mul_of_nonneg_left (by omega) (by omega)
        unfold den at this
        omega
      have hdv : ∀ a, divOk a (gd n d) = true := fun a => div_vast gp (by unfold topD at h2; omega)
      show outR (seqO (run1 _ [.ro (.int n), .ro (.int d), .no, .no]) _) = _
      have hp : run1 (.par true [(false, 2), (false, 3)] (.cons (.prim pAbs (.cons (.v 0) .nil)) (.cons (.v 1) .nil))) [.ro (.int n), .ro (.int d), .no, .no] = .nx [.ro (.int n), .ro (.int d), .ro (.int (if n < 0 then -n else n)), .ro (.int d)] := rfl
      rw [hp]
      show outR (seqO (whileM _ _ _ [.ro (.int n), .ro (.int d), .ro (.int (if n < 0 then -n else n)), .ro (.int d)]) _) = _
      rw [hw]
      show outR (seqO (outE (((ofO (int2 divOk (fun a b => .int (a / b)) (.int n) (.int (gd n d)))).bind fun x => (((ofO (int2 divOk (fun a b => .int (a / b)) (.int d) (.int (gd n d)))).bind fun y => Res.ok [y])).bind fun ys => .ok (x :: ys)).bind fun ds => ofO (mkTup ds)) fun d => .rt d) _) = _
      rw [o_fdv (hdv n), o_fdv (hdv d)]
      rfl
    · exact absurd rfl h
  · exact absurd rfl h
/-! ## plus, minus, times, is_less -/
def eIx (i : Nat) (k : Int) : E := .prim pIx (.cons (.v i) (.cons (.c (.int k)) .nil))
theorem ix0 (a b : Int) : ofO (opIx (.tup [.int a, .int b]) (.int 0)) = .ok (.int a) := rfl
theorem ix1 (a b : Int) : ofO (opIx (.tup [.int a, .int b]) (.int 1)) = .ok (.int b) := rfl
def b_plus : S :=
  (.cons (.ret (.call "share" fShare (.cons (.prim pAdd (.cons (.prim pMul (.cons (.prim pIx (.cons (.v 0) (.cons (.c (.int 0)) .nil))) (.cons (.prim pIx (.cons (.v 1) (.cons (.c (.int 1)) .nil))) .nil))) (.cons (.prim pMul (.cons (.prim pIx (.cons (.v 1) (.cons (.c (.int 0)) .nil))) (.cons (.prim pIx (.cons (.v 0) (.cons (.c (.int 1)) .nil))) .nil))) .nil))) (.cons (.prim pMul (.cons (.prim pIx (.cons (.v 0) (.cons (.c (.int 1)) .nil))) (.cons (.prim pIx (.cons (.v 1) (.cons (.c (.int 1)) .nil))) .nil))) .nil))))
  .nil)
def b_minus : S :=
  (.cons (.ret (.call "share" fShare (.cons (.prim pSub (.cons (.prim pMul (.cons (.prim pIx (.cons (.v 0) (.cons (.c (.int 0)) .nil))) (.cons (.prim pIx (.cons (.v 1) (.cons (.c (.int 1)) .nil))) .nil))) (.cons (.prim pMul (.cons (.prim pIx (.cons (.v 1) (.cons (.c (.int 0)) .nil))) (.cons (.prim pIx (.cons (.v 0) (.cons (.c (.int 1)) .nil))) .nil))) .nil))) (.cons (.prim pMul (.cons (.prim pIx (.cons (.v 0) (.cons (.c (.int 1)) .nil))) (.cons (.prim pIx (.cons (.v 1) (.cons (.c (.int 1)) .nil))) .nil))) .nil))))
  .nil)
def b_times : S :=
  (.cons (.ret (.call "share" fShare (.cons (.prim pMul (.cons (.prim pIx (.cons (.v 0) (.cons (.c (.int 0)) .nil))) (.cons (.prim pIx (.cons (.v 1) (.cons (.c (.int 0)) .nil))) .nil))) (.cons (.prim pMul (.cons (.prim pIx (.cons (.v 0) (.cons (.c (.int 1)) .nil))) (.cons (.prim pIx (.cons (.v 1) (.cons (.c (.int 1)) .nil))) .nil))) .nil))))
  .nil)
def b_is_less : S :=
  (.cons (.ret (.prim pLt (.cons (.prim pMul (.cons (.prim pIx (.cons (.v 0) (.cons (.c (.int 0)) .nil))) (.cons (.prim pIx (.cons (.v 1) (.cons (.c (.int 1)) .nil))) .nil))) (.cons (.prim pMul (.cons (.prim pIx (.cons (.v 1) (.cons (.c (.int 0)) .nil))) (.cons (.prim pIx (.cons (.v 0) (.cons (.c (.int 1)) .nil))) .nil))) .nil))))
  .nil)
theorem fr_guard {a b c d : Int} {x : Res D} (h : (if (bnd a && bnd b && bnd c && bnd d && decide (0 < b) && decide (0 < d)) = true then x else .stuck) ≠ .stuck) : (bnd a = true ∧ bnd b = true ∧ bnd c = true ∧ bnd d = true ∧ 0 < b ∧ 0 < d) ∧ (if (bnd a && bnd b && bnd c && bnd d && decide (0 < b) && decide (0 < d)) = true then x else .stuck) = x := by
  split at h
  · rename_i hc
    rw [if_pos hc]
    simp only [Bool.and_eq_true, decide_eq_true_eq] at hc
    exact ⟨⟨hc.1.1.1.1.1, hc.1.1.1.1.2, hc.1.1.1.2, hc.1.1.2, hc.1.2, hc.2⟩, rfl⟩
  · exact absurd rfl h
theorem r_plus (ds : List D) (h : fPlus ds ≠ .stuck) : callD 2 2 b_plus ds = fPlus ds := by
  unfold fPlus frOp at h ⊢
  split at h
  · rename_i a b c d
    obtain ⟨⟨h1, h2, h3, h4, h5, h6⟩, e⟩ := fr_guard h
    rw [e]
    obtain ⟨t1, t2⟩ := mul_top h2 h4 h5 h6
    show outR (seqO (outE ((((((ofO (opMul (.int a) (.int d))).bind fun x => (((ofO (opMul (.int c) (.int b))).bind fun y => Res.ok [y])).bind fun ys => .ok (x :: ys)).bind fun ds => ofO (two opAdd ds)).bind fun x => (((ofO (opMul (.int b) (.int d))).bind fun y => Res.ok [y])).bind fun ys => .ok (x :: ys)).bind fShare)) fun d => .rt d) _) = _
    rw [o_mul (mul_bnd h1 h4), o_mul (mul_bnd h3 h2), o_mul (mul_bnd h2 h4)]
    show outR (seqO (outE (fShare [.int (a * d + c * b), .int (b * d)]) fun d => .rt d) _) = _
    rw [share_ok t1 t2]
    rfl
  · exact absurd rfl h
theorem r_minus (ds : List D) (h : fMinus ds ≠ .stuck) : callD 2 2 b_minus ds = fMinus ds := by
  unfold fMinus frOp at h ⊢
  split at h
  · rename_i a b c d
    obtain ⟨⟨h1, h2, h3, h4, h5, h6⟩, e⟩ := fr_guard h
    rw [e]
    obtain ⟨t1, t2⟩ := mul_top h2 h4 h5 h6
    show outR (seqO (outE ((((((ofO (opMul (.int a) (.int d))).bind fun x => (((ofO (opMul (.int c) (.int b))).bind fun y => Res.ok [y])).bind fun ys => .ok (x :: ys)).bind fun ds => ofO (two (int2 tt2 fun a b => .int (a - b)) ds)).bind fun x => (((ofO (opMul (.int b) (.int d))).bind fun y => Res.ok [y])).bind fun ys => .ok (x :: ys)).bind fShare)) fun d => .rt d) _) = _
    rw [o_mul (mul_bnd h1 h4), o_mul (mul_bnd h3 h2), o_mul (mul_bnd h2 h4)]
    show outR (seqO (outE (fShare [.int (a * d - c * b), .int (b * d)]) fun d => .rt d) _) = _
    rw [share_ok t1 t2]
    rfl
  · exact absurd rfl h
theorem r_times (ds : List D) (h : fTimes ds ≠ .stuck) : callD 2 2 b_times ds = fTimes ds := by
  unfold fTimes frOp at h ⊢
  split at h
  · rename_i a b c d
    obtain ⟨⟨h1, h2, h3, h4, h5, h6⟩, e⟩ := fr_guard h
    rw [e]
    obtain ⟨t1, t2⟩ := mul_top h2 h4 h5 h6
    show outR (seqO (outE ((((ofO (opMul (.int a) (.int c))).bind fun x => (((ofO (opMul (.int b) (.int d))).bind fun y => Res.ok [y])).bind fun ys => .ok (x :: ys)).bind fShare)) fun d => .rt d) _) = _
    rw [o_mul (mul_bnd h1 h3), o_mul (mul_bnd h2 h4)]
    show outR (seqO (outE (fShare [.int (a * c), .int (b * d)]) fun d => .rt d) _) = _
    rw [share_ok t1 t2]
    rfl
  · exact absurd rfl h
theorem r_is_less (ds : List D) (h : fLess ds ≠ .stuck) : callD 2 2 b_is_less ds = fLess ds := by
  unfold fLess at h ⊢
  split at h
  · rename_i a b c d
    split at h
    · rename_i hc
      have hc' := hc
      simp only [Bool.and_eq_true] at hc'
      obtain ⟨⟨⟨h1, h2⟩, h3⟩, h4⟩ := hc'
      rw [if_pos hc]
      show outR (seqO (outE ((((ofO (opMul (.int a) (.int d))).bind fun x => (((ofO (opMul (.int c) (.int b))).bind fun y => Res.ok [y])).bind fun ys => .ok (x :: ys)).bind fun ds => ofO (two opLt ds))) fun d => .rt d) _) = _
      rw [o_mul (mul_bnd h1 h4), o_mul (mul_bnd h3 h2)]
      rfl
    · exact absurd rfl h
  · exact absurd rfl h
end PL

namespace PL
open PySem PySem.Spec PyProof.Rows L2
/-! ## a law's draws -/
def cellI (ns : List Int) (k : Int) : Int := if k < ns.length then ns.getD k.toNat 0 else if ns = [] then 0 else ns.getD (k % ns.length).toNat 0 * 31 + k
def drawI (ns : List Int) (k : Int) : Int := (cellI ns k + 6151 * (k + 1)) * 40692 % 2147483399
def pickI (ns : List Int) (k m : Int) : Int := (drawI ns k * drawI ns k + drawI ns k / 31) % 2147483629 % m
theorem pickI_nn (ns : List Int) (k : Int) {m : Int} (h : 0 < m) : 0 ≤ pickI ns k m := Int.emod_nonneg _ (by omega)
theorem pickI_lt (ns : List Int) (k : Int) {m : Int} (h : 0 < m) : pickI ns k m < m := Int.emod_lt_of_pos _ h
def fCell : List D → Res D
  | [.scr ns, .int k] => if decide (0 ≤ k) then .ok (.int (cellI ns k)) else .stuck
  | _ => .stuck
def fPick : List D → Res D
  | [.scr ns, .int k, .int m] => if decide (0 ≤ k) && decide (k < 1000000) && decide (0 < m) then .ok (.int (pickI ns k m)) else .stuck
  | _ => .stuck
def b__law_cell : S :=
  (.cons (.ite (.prim pLt (.cons (.v 1) (.cons (.prim pLen (.cons (.v 0) .nil)) .nil)))
  (.cons (.ret (.prim pIx (.cons (.v 0) (.cons (.v 1) .nil))))
  .nil)
  .nil)
  (.cons (.ite (.prim pEq (.cons (.v 0) (.cons (.prim pLst .nil) .nil)))
  (.cons (.ret (.c (.int 0)))
  .nil)
  .nil)
  (.cons (.ret (.prim pAdd (.cons (.prim pMul (.cons (.prim pIx (.cons (.v 0) (.cons (.prim pMod (.cons (.v 1) (.cons (.prim pLen (.cons (.v 0) .nil)) .nil))) .nil))) (.cons (.c (.int 31)) .nil))) (.cons (.v 1) .nil))))
  .nil)))
def b__law_pick : S :=
  (.cons (.set true 3 (.prim pMod (.cons (.prim pMul (.cons (.prim pAdd (.cons (.call "_law_cell" fCell (.cons (.v 0) (.cons (.v 1) .nil))) (.cons (.prim pMul (.cons (.c (.int 6151)) (.cons (.prim pAdd (.cons (.v 1) (.cons (.c (.int 1)) .nil))) .nil))) .nil))) (.cons (.c (.int 40692)) .nil))) (.cons (.c (.int 2147483399)) .nil))))
  (.cons (.ret (.prim pMod (.cons (.prim pMod (.cons (.prim pAdd (.cons (.prim pMul (.cons (.v 3) (.cons (.v 3) .nil))) (.cons (.prim pFdv (.cons (.v 3) (.cons (.c (.int 31)) .nil))) .nil))) (.cons (.c (.int 2147483629)) .nil))) (.cons (.v 2) .nil))))
  .nil))
theorem atI_nn {α : Type} {l : List α} {i : Int} (h : 0 ≤ i) : atI l i = l[i.toNat]? := by
  obtain ⟨n, e⟩ := Int.eq_ofNat_of_zero_le h
  rw [e, atN]
  rfl
theorem ix_scr {ns : List Int} {k : Int} (h : 0 ≤ k) (h2 : k < ns.length) : opIx (.scr ns) (.int k) = some (.int (ns.getD k.toNat 0)) := by
  show (atI ns k).map D.int = _
  rw [atI_nn h]
  have hl : k.toNat < ns.length := by omega
  rw [List.getElem?_eq_getElem hl]
  show some (D.int ns[k.toNat]) = _
  rw [List.getD_eq_getElem?_getD, List.getElem?_eq_getElem hl]; rfl
theorem scr_depth : ∀ ns : List Int, PyData.depthAll (ns.map PyData.int) = 0
  | [] => rfl
  | _ :: ns => by
    show max (PyData.depth (.int _)) (PyData.depthAll (ns.map PyData.int)) = 0
    rw [scr_depth ns]; rfl
theorem scr_lay : ∀ ns : List Int, PyData.canLayAll0 (ns.map PyData.int) = true
  | [] => rfl
  | _ :: ns => by
    show (PyData.canLay0 (.int _) && PyData.canLayAll0 (ns.map PyData.int)) = true
    rw [scr_lay ns]; rfl
theorem eq_scr (ns : List Int) : opEq (.scr ns) (.lst []) = some (.bl (decide (ns = []))) := by
  have s1 : shp (.scr ns) = true := by
    show (true && (PyData.canLayAll0 (ns.map PyData.int) && decide (PyData.depthAll (ns.map PyData.int) + 1 ≤ 64))) = true
    rw [scr_lay, scr_depth]; rfl
  unfold opEq
  rw [s1]
  cases ns with
  | nil => rfl
  | cons a b => rfl
theorem r__law_cell (ds : List D) (h : fCell ds ≠ .stuck) : callD 2 2 b__law_cell ds = fCell ds := by
  unfold fCell at h ⊢
  split at h
  · rename_i ns k
    split at h
    · rename_i hk
      rw [if_pos hk]
      rw [decide_eq_true_eq] at hk
      unfold cellI
      refine rcall rfl ?_
      have t1 : ev (.prim pLt (.cons (.v 1) (.cons (.prim pLen (.cons (.v 0) .nil)) .nil))) (full (startS 2 [.scr ns, .int k])) = .ok (.bl (decide (k < ns.length))) := e2 rfl (e1 rfl rfl) rfl
      by_cases h1 : k < ns.length
      · rw [decide_eq_true h1] at t1
        rw [if_pos h1]
        exact riteT t1 (rret (e2 rfl rfl (ix_scr hk h1)))
      · rw [decide_eq_false h1] at t1
        rw [if_neg h1]
        refine riteF t1 ?_
        have t2 : ev (.prim pEq (.cons (.v 0) (.cons (.prim pLst .nil) .nil))) (full (startS 2 [.scr ns, .int k])) = .ok (.bl (decide (ns = []))) := e2 rfl rfl (eq_scr ns)
        by_cases h2 : ns = []
        · rw [decide_eq_true h2] at t2
          rw [if_pos h2]
          exact riteT t2 (rret rfl)
        · rw [decide_eq_false h2] at t2
          rw [if_neg h2]
          refine riteF t2 ?_
          have hl : 0 < (ns.length : Int) := by
            cases ns with
            | nil => exact absurd rfl h2
            | cons a b => simp
          exact rret (e2 (e2 (e2 rfl (e2 rfl (e1 rfl rfl) (o_mod (mod_small hl))) (ix_scr (Int.emod_nonneg _ (by omega)) (Int.emod_lt_of_pos _ hl))) rfl (o_mul (mul_smallR (by decide)))) rfl rfl)
    · exact absurd rfl h
  · exact absurd rfl h
theorem cell_ok {ns : List Int} {k : Int} (h : 0 ≤ k) : fCell [.scr ns, .int k] = .ok (.int (cellI ns k)) := by
  show (if decide (0 ≤ k) = true then _ else _) = _
  rw [decide_eq_true h]; rfl
theorem r__law_pick (ds : List D) (h : fPick ds ≠ .stuck) : callD 4 3 b__law_pick ds = fPick ds := by
  unfold fPick at h ⊢
  split at h
  · rename_i ns k m
    split at h
    · rename_i hk
      rw [if_pos hk]
      simp only [Bool.and_eq_true, decide_eq_true_eq] at hk
      obtain ⟨⟨hk, hk2⟩, hm⟩ := hk
      have hd0 : 0 ≤ drawI ns k := Int.emod_nonneg _ (by decide)
      have hd1 : drawI ns k < 2147483399 := Int.emod_lt_of_pos _ (by decide)
      refine rcall rfl ?_
      refine rset (d := .int (drawI ns k)) ?_ rfl ?_
      · exact emod (emul (eadd (ec (lc rfl (lc rfl l0)) (cell_ok hk)) (emul ki (eadd rfl ki) (mul_small (by decide)))) ki (mul_smallR (by decide))) ki (by decide)
      · exact rret (emod (emod (eadd (emul rfl rfl (mul_small (by omega))) (efdv rfl ki (div_small (by decide) (by decide)))) ki (by decide)) rfl hm)
    · exact absurd rfl h
  · exact absurd rfl h
theorem pick_ok {ns : List Int} {k m : Int} (h1 : 0 ≤ k) (h2 : k < 1000000) (h3 : 0 < m) : fPick [.scr ns, .int k, .int m] = .ok (.int (pickI ns k m)) := by
  show (if _ then _ else _) = _
  rw [decide_eq_true h1, decide_eq_true h2, decide_eq_true h3]; rfl
end PL

namespace PL
open PySem PySem.Spec PyProof.Rows L2
/-! ## texts picked apart -/
def S.drop : S → Nat → S
  | s, 0 => s
  | .cons _ r, n + 1 => S.drop r n
  | _, _ => .nil
def S.loop : S → S
  | .cons (.for_ _ _ u) _ => u
  | .cons (.while_ _ _ u) _ => u
  | _ => .nil
def S.yes : S → S
  | .cons (.ite _ u _) _ => u
  | _ => .nil
/-! ## fractions with bounds -/
theorem bm {A B : Nat} {a b : Int} (ha : a.natAbs ≤ A) (hb : b.natAbs ≤ B) : (a * b).natAbs ≤ A * B := by
  rw [Int.natAbs_mul]; exact Nat.mul_le_mul ha hb
theorem ba {A B : Nat} {a b : Int} (ha : a.natAbs ≤ A) (hb : b.natAbs ≤ B) : (a + b).natAbs ≤ A + B := by omega
theorem bs {A B : Nat} {a b : Int} (ha : a.natAbs ≤ A) (hb : b.natAbs ≤ B) : (a - b).natAbs ≤ A + B := by omega
theorem bndN {A : Nat} {a : Int} (h : a.natAbs ≤ A) (hA : A < 10000000000000000000000000000000000000) : bnd a = true := by
  rw [bnd_iff]; unfold big; omega
structure Q (N : Nat) (n d : Int) : Prop where
  p : 0 < d
  n : n.natAbs ≤ N
  d : d.natAbs ≤ N
section
variable {N M : Nat} {n d n' d' : Int}
theorem Q.num (q : Q N n d) : (PL.num n d).natAbs ≤ N := Nat.le_trans (num_le q.p) q.n
theorem Q.den (q : Q N n d) : (PL.den n d).natAbs ≤ N := by
  have := den_le (n := n) q.p
  have := den_pos (n := n) q.p
  have := q.d
  omega
theorem Q.plus (q : Q N n d) (q' : Q M n' d') : Q (N * M + M * N) (n * d' + n' * d) (d * d') := ⟨Int.mul_pos q.p q'.p, ba (bm q.n q'.d) (bm q'.n q.d), Nat.le_trans (bm q.d q'.d) (by omega)⟩
theorem Q.minus (q : Q N n d) (q' : Q M n' d') : Q (N * M + M * N) (n * d' - n' * d) (d * d') := ⟨Int.mul_pos q.p q'.p, bs (bm q.n q'.d) (bm q'.n q.d), Nat.le_trans (bm q.d q'.d) (by omega)⟩
theorem Q.times (q : Q N n d) (q' : Q M n' d') : Q (N * M) (n * n') (d * d') := ⟨Int.mul_pos q.p q'.p, bm q.n q'.n, bm q.d q'.d⟩
variable (q : Q N n d) (q' : Q M n' d') (hN : N < 10000000000000000000000000000000000000) (hM : M < 10000000000000000000000000000000000000)
include q q' hN hM
theorem qplus : fPlus [fr n d, fr n' d'] = .ok (fr (n * d' + n' * d) (d * d')) := plus_fr q.p q'.p (bndN q.n hN) (bndN q.d hN) (bndN q'.n hM) (bndN q'.d hM)
theorem qminus : fMinus [fr n d, fr n' d'] = .ok (fr (n * d' - n' * d) (d * d')) := minus_fr q.p q'.p (bndN q.n hN) (bndN q.d hN) (bndN q'.n hM) (bndN q'.d hM)
theorem qtimes : fTimes [fr n d, fr n' d'] = .ok (fr (n * n') (d * d')) := times_fr q.p q'.p (bndN q.n hN) (bndN q.d hN) (bndN q'.n hM) (bndN q'.d hM)
theorem qless : fLess [fr n d, fr n' d'] = .ok (.bl (decide (n * d' < n' * d))) := less_fr q.p q'.p (bndN q.n hN) (bndN q.d hN) (bndN q'.n hM) (bndN q'.d hM)
end
theorem ne_same {n d n' d' : Int} (h : 0 < d) (h' : 0 < d') (e : n * d' = n' * d) : opNe (fr n d) (fr n' d') = some (.bl false) := by
  rw [ne_fr h h', decide_eq_true e]; rfl
theorem eq_same {n d n' d' : Int} (h : 0 < d) (h' : 0 < d') (e : n * d' = n' * d) : opEq (fr n d) (fr n' d') = some (.bl true) := by
  rw [eq_fr h h', decide_eq_true e]
theorem fr0 (n d : Int) : opIx (fr n d) (.int 0) = some (.int (num n d)) := rfl
theorem fr1 (n d : Int) : opIx (fr n d) (.int 1) = some (.int (den n d)) := rfl
section
variable {a b : E} {ρ : En} {n d : Int}
theorem ex0 (h : ev a ρ = .ok (fr n d)) : ev (.prim pIx (.cons a (.cons (.c (.int 0)) .nil))) ρ = .ok (.int (num n d)) := e2 h ki (fr0 n d)
theorem ex1 (h : ev a ρ = .ok (fr n d)) : ev (.prim pIx (.cons a (.cons (.c (.int 1)) .nil))) ρ = .ok (.int (den n d)) := e2 h ki (fr1 n d)
end
theorem neB (a b : Bool) : opNe (.bl a) (.bl b) = some (.bl (a != b)) := by cases a <;> cases b <;> rfl
theorem num_neg {n d : Int} (h : 0 < d) : num n d < 0 ↔ n < 0 := by
  have e := num_den (n := n) (d := d)
  have p := den_pos (n := n) h
  constructor
  · intro z
    have : num n d * d < 0 := Int.mul_neg_of_neg_of_pos z h
    rw [← e] at this
    exact Int.neg_of_mul_neg_left this (by omega)
  · intro z
    have : n * den n d < 0 := Int.mul_neg_of_neg_of_pos z p
    rw [e] at this
    exact Int.neg_of_mul_neg_left this (by omega)
end PL

namespace PL
open PySem PySem.Spec PyProof.Rows L2
/-! ## more built-in functions -/
def intsD : List D → Option (List Int)
  | [] => some []
  | .int i :: r => (intsD r).map (i :: ·)
  | _ => none
def blsD : List D → Option (List Bool)
  | [] => some []
  | .bl i :: r => (blsD r).map (i :: ·)
  | _ => none
theorem intsD_rep {K : PySem.W.Frag} {M : Mk} {H : Hp} : ∀ {ds : List D} {vs : List V} {ns : List Int}, RepAll K M H vs ds → intsD ds = some ns → vs = ns.map V.int
  | [], _, ns, r, e => by cases r; cases e; rfl
  | d :: ds, _, ns, r, e => by
    cases r with
    | cons r1 r2 =>
      cases d with
      | int i =>
        cases r1
        cases e1 : intsD ds with
        | none => unfold intsD at e; rw [e1] at e; cases e
        | some m =>
          unfold intsD at e; rw [e1] at e; cases e
          rw [intsD_rep r2 e1]; rfl
      | _ => cases e
theorem blsD_rep {K : PySem.W.Frag} {M : Mk} {H : Hp} : ∀ {ds : List D} {vs : List V} {ns : List Bool}, RepAll K M H vs ds → blsD ds = some ns → vs = ns.map V.bl
  | [], _, ns, r, e => by cases r; cases e; rfl
  | d :: ds, _, ns, r, e => by
    cases r with
    | cons r1 r2 =>
      cases d with
      | bl i =>
        cases r1
        cases e1 : blsD ds with
        | none => unfold blsD at e; rw [e1] at e; cases e
        | some m =>
          unfold blsD at e; rw [e1] at e; cases e
          rw [blsD_rep r2 e1]; rfl
      | _ => cases e
theorem intsD_map : ∀ ns : List Int, intsD (ns.map D.int) = some ns
  | [] => rfl
  | n :: ns => by show (intsD (ns.map D.int)).map (n :: ·) = _; rw [intsD_map ns]; rfl
theorem blsD_map : ∀ ns : List Bool, blsD (ns.map D.bl) = some ns
  | [] => rfl
  | n :: ns => by show (blsD (ns.map D.bl)).map (n :: ·) = _; rw [blsD_map ns]; rfl
def opMax2 : D → D → Option D := int2 tt2 fun a b => .int (if b > a then b else a)
def opMin2 : D → D → Option D := int2 tt2 fun a b => .int (if b < a then b else a)
def pMax2 : Prim := { syn := callSyn "max", sem := two opMax2 }
def pMin2 : Prim := { syn := callSyn "min", sem := two opMin2 }
theorem max2G : PrimG pMax2 := prim_blt (id := "max") (by decide) (by decide +kernel) (by decide) (by decide) fun X k W xo => by
  refine ⟨_, call_max2 xo.calm, fun M H xs ds d Q dm rs e k => ?_⟩
  match ds, rs, e with
  | [a, b], .cons r1 (.cons r2 .nil), e =>
    have e' : opMax2 a b = some d := e
    unfold opMax2 int2 at e'
    split at e'
    · cases r1; cases r2; cases e'; exact ⟨_, _, rfl, k _ H (Same.refl H) (.int _)⟩
    · cases e'
theorem min2G : PrimG pMin2 := prim_blt (id := "min") (by decide) (by decide +kernel) (by decide) (by decide) fun X k W xo => by
  refine ⟨_, call_min2 xo.calm, fun M H xs ds d Q dm rs e k => ?_⟩
  match ds, rs, e with
  | [a, b], .cons r1 (.cons r2 .nil), e =>
    have e' : opMin2 a b = some d := e
    unfold opMin2 int2 at e'
    split at e'
    · cases r1; cases r2; cases e'; exact ⟨_, _, rfl, k _ H (Same.refl H) (.int _)⟩
    · cases e'
def opAll : D → Option D
  | .lst l => (blsD l).map fun bs => .bl (bs.all id)
  | _ => none
def opAny : D → Option D
  | .lst l => (blsD l).map fun bs => .bl (bs.any id)
  | _ => none
def opSum : D → Option D
  | .lst l => (intsD l).map fun ns => .int ns.sum
  | _ => none
def topI : List Int → Int
  | [] => 0
  | [a] => a
  | a :: r => if a ≤ topI r then topI r else a
def botI : List Int → Int
  | [] => 0
  | [a] => a
  | a :: r => if botI r ≤ a then botI r else a
theorem topI_ge : ∀ (l : List Int) (y : Int), y ∈ l → y ≤ topI l
  | [a], y, h => by rw [List.mem_singleton] at h; rw [h]; exact Int.le_refl a
  | a :: b :: r, y, h => by
    have ih := topI_ge (b :: r)
    show y ≤ if a ≤ topI (b :: r) then topI (b :: r) else a
    rcases List.mem_cons.mp h with rfl | h
    · split <;> omega
    · have := ih y h
      split <;> omega
theorem topI_mem : ∀ (l : List Int), l ≠ [] → topI l ∈ l
  | [], h => absurd rfl h
  | [a], _ => List.mem_singleton.mpr rfl
  | a :: b :: r, _ => by
    show (if a ≤ topI (b :: r) then topI (b :: r) else a) ∈ _
    split
    · exact List.mem_cons_of_mem _ (topI_mem (b :: r) (by simp))
    · exact List.mem_cons_self
theorem botI_le : ∀ (l : List Int) (y : Int), y ∈ l → botI l ≤ y
  | [a], y, h => by rw [List.mem_singleton] at h; rw [h]; exact Int.le_refl a
  | a :: b :: r, y, h => by
    have ih := botI_le (b :: r)
    show (if botI (b :: r) ≤ a then botI (b :: r) else a) ≤ y
    rcases List.mem_cons.mp h with rfl | h
    · split <;> omega
    · have := ih y h
      split <;> omega
theorem botI_mem : ∀ (l : List Int), l ≠ [] → botI l ∈ l
  | [], h => absurd rfl h
  | [a], _ => List.mem_singleton.mpr rfl
  | a :: b :: r, _ => by
    show (if botI (b :: r) ≤ a then botI (b :: r) else a) ∈ _
    split
    · exact List.mem_cons_of_mem _ (botI_mem (b :: r) (by simp))
    · exact List.mem_cons_self
theorem top_is {l : List Int} {m : Int} (h1 : m ∈ l) (h2 : ∀ y, y ∈ l → y ≤ m) : m = topI l := by
  have a := topI_ge l m h1
  have b := h2 _ (topI_mem l (List.ne_nil_of_mem h1))
  omega
theorem bot_is {l : List Int} {m : Int} (h1 : m ∈ l) (h2 : ∀ y, y ∈ l → m ≤ y) : m = botI l := by
  have a := botI_le l m h1
  have b := h2 _ (botI_mem l (List.ne_nil_of_mem h1))
  omega
def opMax1 : D → Option D
  | .lst l => (intsD l).bind fun ns => if 0 < ns.length then some (.int (topI ns)) else none
  | _ => none
def opMin1 : D → Option D
  | .lst l => (intsD l).bind fun ns => if 0 < ns.length then some (.int (botI ns)) else none
  | _ => none
def pAll : Prim := { syn := callSyn "all", sem := one1 opAll }
def pAny : Prim := { syn := callSyn "any", sem := one1 opAny }
def pSum : Prim := { syn := callSyn "sum", sem := one1 opSum }
def pMax1 : Prim := { syn := callSyn "max", sem := one1 opMax1 }
def pMin1 : Prim := { syn := callSyn "min", sem := one1 opMin1 }
theorem one_lst {K : PySem.W.Frag} {M : Mk} {H : Hp} {xs : List V} {ds : List D} {f : D → Option D} {d : D} (rs : RepAll K M H xs ds) (e : one1 f ds = some d) (hf : ∀ a d, f a = some d → ∃ l, a = .lst l) :
    ∃ a vs l, xs = [.ref a] ∧ ds = [.lst l] ∧ f (.lst l) = some d ∧ H a = some (.lst vs) ∧ ¬ M a ∧ RepAll K M H vs l := by
  match ds, rs, e with
  | [x], .cons r1 .nil, e =>
    obtain ⟨l, rfl⟩ := hf x d e
    cases r1 with
    | lst s n ra => exact ⟨_, _, l, rfl, rfl, e, s, n, ra⟩
theorem allG : PrimG pAll := prim_blt (id := "all") (by decide) (by decide +kernel) (by decide) (by decide) fun X k W xo => by
  refine ⟨_, cr_all xo.calm, fun M H xs ds d Q dm rs e k => ?_⟩
  obtain ⟨a, vs, l, rfl, rfl, e, s, n, ra⟩ := one_lst rs e (fun a d h => by cases a <;> first | exact ⟨_, rfl⟩ | cases h)
  have e' : (blsD l).map (fun bs => D.bl (bs.all id)) = some d := e
  cases e1 : blsD l with
  | none => rw [e1] at e'; cases e'
  | some bs =>
    rw [e1] at e'; cases e'
    exact ⟨a, bs, rfl, SqL.of (by rw [← blsD_rep ra e1]; exact s), k _ H (Same.refl H) (.bl _)⟩
theorem anyG : PrimG pAny := prim_blt (id := "any") (by decide) (by decide +kernel) (by decide) (by decide) fun X k W xo => by
  refine ⟨_, cr_any xo.calm, fun M H xs ds d Q dm rs e k => ?_⟩
  obtain ⟨a, vs, l, rfl, rfl, e, s, n, ra⟩ := one_lst rs e (fun a d h => by cases a <;> first | exact ⟨_, rfl⟩ | cases h)
  have e' : (blsD l).map (fun bs => D.bl (bs.any id)) = some d := e
  cases e1 : blsD l with
  | none => rw [e1] at e'; cases e'
  | some bs =>
    rw [e1] at e'; cases e'
    exact ⟨a, bs, rfl, SqL.of (by rw [← blsD_rep ra e1]; exact s), k _ H (Same.refl H) (.bl _)⟩
theorem sumG : PrimG pSum := prim_blt (id := "sum") (by decide) (by decide +kernel) (by decide) (by decide) fun X k W xo => by
  refine ⟨_, cr_sum xo.calm, fun M H xs ds d Q dm rs e k => ?_⟩
  obtain ⟨a, vs, l, rfl, rfl, e, s, n, ra⟩ := one_lst rs e (fun a d h => by cases a <;> first | exact ⟨_, rfl⟩ | cases h)
  have e' : (intsD l).map (fun ns => D.int ns.sum) = some d := e
  cases e1 : intsD l with
  | none => rw [e1] at e'; cases e'
  | some bs =>
    rw [e1] at e'; cases e'
    exact ⟨a, bs, rfl, SqL.of (by rw [← intsD_rep ra e1]; exact s), k _ H (Same.refl H) (.int _)⟩
theorem max1G : PrimG pMax1 := prim_blt (id := "max") (by decide) (by decide +kernel) (by decide) (by decide) fun X k W xo => by
  refine ⟨_, cr_max xo.calm, fun M H xs ds d Q dm rs e k => ?_⟩
  obtain ⟨a, vs, l, rfl, rfl, e, s, n, ra⟩ := one_lst rs e (fun a d h => by cases a <;> first | exact ⟨_, rfl⟩ | cases h)
  have e' : ((intsD l).bind fun ns => if 0 < ns.length then some (D.int (topI ns)) else none) = some d := e
  cases e1 : intsD l with
  | none => rw [e1] at e'; cases e'
  | some bs =>
    rw [e1] at e'
    have e2 : (if 0 < bs.length then some (D.int (topI bs)) else none) = some d := e'
    split at e2
    · rename_i hl
      cases e2
      exact ⟨a, bs, rfl, SqL.of (by rw [← intsD_rep ra e1]; exact s), hl, fun m h1 h2 => k _ H (Same.refl H) (by rw [top_is h1 h2]; exact .int _)⟩
    · cases e2
theorem min1G : PrimG pMin1 := prim_blt (id := "min") (by decide) (by decide +kernel) (by decide) (by decide) fun X k W xo => by
  refine ⟨_, cr_min xo.calm, fun M H xs ds d Q dm rs e k => ?_⟩
  obtain ⟨a, vs, l, rfl, rfl, e, s, n, ra⟩ := one_lst rs e (fun a d h => by cases a <;> first | exact ⟨_, rfl⟩ | cases h)
  have e' : ((intsD l).bind fun ns => if 0 < ns.length then some (D.int (botI ns)) else none) = some d := e
  cases e1 : intsD l with
  | none => rw [e1] at e'; cases e'
  | some bs =>
    rw [e1] at e'
    have e2 : (if 0 < bs.length then some (D.int (botI bs)) else none) = some d := e'
    split at e2
    · rename_i hl
      cases e2
      exact ⟨a, bs, rfl, SqL.of (by rw [← intsD_rep ra e1]; exact s), hl, fun m h1 h2 => k _ H (Same.refl H) (by rw [bot_is h1 h2]; exact .int _)⟩
    · cases e2
def opTup : D → Option D
  | .lst l => some (.tup l)
  | .tup l => some (.tup l)
  | _ => none
def pTupleOf : Prim := { syn := callSyn "tuple", sem := one1 opTup }
theorem tupleOfG : PrimG pTupleOf := prim_ty (T := "tuple") (by decide) (by decide +kernel) (by decide) (by decide) fun X k W xo => by
  refine ⟨_, call_tuple_of, fun M H xs ds d Q dm rs e k => ?_⟩
  match ds, rs, e with
  | [x], .cons r1 .nil, e =>
    have e' : opTup x = some d := e
    cases x with
    | lst l => cases e'; cases r1 with | lst s n ra => exact ⟨_, _, rfl, .inl ⟨SqL.of s, fun p hp => k _ _ (same_new hp) (.tup upd_same (dm.fresh hp) (ra.same (same_new hp)))⟩⟩
    | tup l => cases e'; cases r1 with | tup s n ra => exact ⟨_, _, rfl, .inr ⟨SqT.of s, k _ H (Same.refl H) (.tup s n ra)⟩⟩
    | _ => cases e'
end PL

namespace PL
open PySem PySem.Spec PyProof.Rows L2
/-! ## slices -/
def cutG {α : Type} (xs : List α) (lo hi : Option Int) : List α := (xs.drop (HT.sIx xs.length 0 lo)).take (HT.sIx xs.length xs.length hi - HT.sIx xs.length 0 lo)
section
variable {K : PySem.W.Frag} {M : Mk} {H : Hp}
theorem RepAll.cut {vs : List V} {ds : List D} (lo hi : Option Int) (r : RepAll K M H vs ds) : RepAll K M H (cutV vs lo hi) (cutG ds lo hi) := by
  unfold cutV cutG
  rw [r.length]
  exact RepAll.take _ (RepAll.drop _ r)
theorem RepAll.app : ∀ {vs : List V} {ds : List D} {vs' : List V} {ds' : List D}, RepAll K M H vs ds → RepAll K M H vs' ds' → RepAll K M H (vs ++ vs') (ds ++ ds')
  | [], [], _, _, _, r' => r'
  | _ :: _, _ :: _, _, _, .cons a r, r' => .cons a (RepAll.app r r')
theorem RepAll.rev : ∀ {vs : List V} {ds : List D}, RepAll K M H vs ds → RepAll K M H vs.reverse ds.reverse
  | [], [], r => r
  | _ :: _, _ :: _, .cons a r => by rw [List.reverse_cons, List.reverse_cons]; exact RepAll.app (RepAll.rev r) (.cons a .nil)
end
theorem cut_whole {α : Type} {xs : List α} {lo hi : Option Int} (h : HT.sIx xs.length 0 lo = 0 ∧ HT.sIx xs.length xs.length hi = xs.length) : cutG xs lo hi = xs := by
  unfold cutG
  rw [h.1, h.2, Nat.sub_zero, List.drop_zero, List.take_length]
def opSl (lo hi : Option Int) : D → Option D
  | .lst l => some (.lst (cutG l lo hi))
  | .tup l => some (.tup (cutG l lo hi))
  | .str s => if s.length ≤ sizeD then some (.str (cutS s lo hi)) else none
  | _ => none
def rSlD (K : PySem.W.Frag) : V → Option Int → Option Int → Hp → VK → Prop := fun x lo hi H Q => rSlL K x lo hi H Q ∨ (rSlA K x lo hi H Q ∨ rSlS x lo hi H Q)
theorem sl_D {X : Cx} : SlR X (rSlD X.K) := SlR.or sl_list (SlR.or sl_tupA sl_str)
theorem sl_w {X : Cx} {M : Mk} {H : Hp} {x : V} {d1 d : D} {lo hi : Option Int} {Q : VK} (dm : DomM M H) (r1 : Rep X.K M H x d1) (e : opSl lo hi d1 = some d) (k : ∀ v H', Same X.K H H' → Rep X.K M H' v d → Q v H') : rSlD X.K x lo hi H Q := by
  cases d1 with
  | lst l =>
    cases e
    cases r1 with
    | lst s n ra => exact .inl ⟨_, _, rfl, SqL.of s, fun p hp => k _ _ (same_new hp) (.lst upd_same (dm.fresh hp) ((RepAll.cut lo hi ra).same (same_new hp)))⟩
  | tup l =>
    cases e
    cases r1 with
    | tup s n ra =>
      refine .inr (.inl ⟨_, _, rfl, SqT.of s, fun hw => ?_, fun hw p hp => k _ _ (same_new hp) (.tup upd_same (dm.fresh hp) ((RepAll.cut lo hi ra).same (same_new hp)))⟩)
      rw [ra.length] at hw
      refine k _ H (Same.refl H) ?_
      rw [cut_whole hw]
      exact .tup s n ra
  | str s =>
    unfold opSl at e
    dsimp only at e
    split at e
    · rename_i hl
      cases e
      cases r1
      exact .inr (.inr ⟨s, rfl, sizeD_le hl, k _ H (Same.refl H) (.str _)⟩)
    · cases e
  | _ => cases e
def slLSyn : Scope → Expr → Option (List Expr) := fun _ e => match e with
  | .Subscript a (.Slice (some lo) none none _) _ => some [a, lo]
  | _ => none
def slUSyn : Scope → Expr → Option (List Expr) := fun _ e => match e with
  | .Subscript a (.Slice none (some hi) none _) _ => some [a, hi]
  | _ => none
def opSlL : D → D → Option D
  | a, .int i => opSl (some i) none a
  | _, _ => none
def opSlU : D → D → Option D
  | a, .int i => opSl none (some i) a
  | _, _ => none
def pSlL : Prim := { syn := slLSyn, sem := two opSlL }
def pSlU : Prim := { syn := slUSyn, sem := two opSlU }
theorem slLG : PrimG pSlL := by
  intro X k W xo
  have main : ∀ {e : Expr} {es : List Expr} {ms : List (En → Res D)}, slLSyn X.env.scope e = some es → PEs X W es ms → ∃ a b pos, e = .Subscript a b pos ∧ PE X e (tS X W fun ρ => (seqM ms ρ).bind fun ds => ofO (two opSlL ds)) := by
    intro e es ms h hp
    unfold slLSyn at h
    split at h
    · rename_i a lo p2 pos
      cases h
      obtain ⟨ma, mb, rfl, h1, h2, _, _⟩ := two_pes hp
      refine ⟨a, _, pos, rfl, pe_weak (pe_slice sl_D h1 (po_some h2) po_none) fun σ H Q q => w_2 (r := fun x y H Q => ∃ i, y = .int i ∧ rSlD X.K x (some i) none H Q) (fun M H x y d1 d2 d dm r1 r2 e k => ?_) q⟩
      have e' : opSlL d1 d2 = some d := e
      cases d2 with
      | int i => cases r2; exact ⟨i, rfl, sl_w dm r1 e' k⟩
      | _ => cases d1 <;> cases e'
    · cases h
  refine ⟨fun h hp => (main h hp).choose_spec.choose_spec.choose_spec.2, (fun z => nomatch z), fun {e es ms} h hp => ?_⟩
  obtain ⟨a, b, pos, rfl, pe⟩ := main h hp
  exact pt_of_pe pe (fun _ => rfl)
theorem slUG : PrimG pSlU := by
  intro X k W xo
  have main : ∀ {e : Expr} {es : List Expr} {ms : List (En → Res D)}, slUSyn X.env.scope e = some es → PEs X W es ms → ∃ a b pos, e = .Subscript a b pos ∧ PE X e (tS X W fun ρ => (seqM ms ρ).bind fun ds => ofO (two opSlU ds)) := by
    intro e es ms h hp
    unfold slUSyn at h
    split at h
    · rename_i a hi p2 pos
      cases h
      obtain ⟨ma, mb, rfl, h1, h2, _, _⟩ := two_pes hp
      refine ⟨a, _, pos, rfl, pe_weak (pe_slice sl_D h1 po_none (po_some h2)) fun σ H Q q => w_2 (r := fun x y H Q => ∃ i, y = .int i ∧ rSlD X.K x none (some i) H Q) (fun M H x y d1 d2 d dm r1 r2 e k => ?_) q⟩
      have e' : opSlU d1 d2 = some d := e
      cases d2 with
      | int i => cases r2; exact ⟨i, rfl, sl_w dm r1 e' k⟩
      | _ => cases d1 <;> cases e'
    · cases h
  refine ⟨fun h hp => (main h hp).choose_spec.choose_spec.choose_spec.2, (fun z => nomatch z), fun {e es ms} h hp => ?_⟩
  obtain ⟨a, b, pos, rfl, pe⟩ := main h hp
  exact pt_of_pe pe (fun _ => rfl)
/-! ## isinstance -/
def D.ty : D → Option String
  | .non => some "NoneType"
  | .bl _ => some "bool"
  | .int _ => some "int"
  | .str _ => some "str"
  | .tup _ => some "tuple"
  | .lst _ => some "list"
  | .scr _ => some "list"
  | .dct _ _ => none
  | .dcT _ _ => none
  | .exc _ => none
  | .ob _ _ _ => none
def isiSyn (T : Str) : Scope → Expr → Option (List Expr) := fun sc e => match e with
  | .Call (.Name x _) [a, .Name t _] [] _ => if decide (x = "isinstance") && glB sc x && (decide (t = T) && glB sc t) then some [a] else none
  | _ => none
def subTy (a b : String) : Bool := a == b || (a == "bool" && b == "int")
def opIsi (T : String) (d : D) : Option D := d.ty.map fun t => .bl (subTy t T)
theorem tyX_of {K : PySem.W.Frag} {M : Mk} {H : Hp} {x : V} {d : D} {t : String} (r : Rep K M H x d) (e : d.ty = some t) : TyX K H x (.type t) := by
  cases r with
  | non => cases e; exact .base .non
  | bl b => cases e; exact .base (.bl b)
  | int b => cases e; exact .base (.int b)
  | str b => cases e; exact .base (.str b)
  | lst s n ra => cases e; exact .base (.lst s)
  | tup s n ra => cases e; exact .base (.tup s)
  | scr s =>
    cases e
    rcases s with ⟨h | ⟨o, h⟩, n⟩ | ⟨o, its, n, h1, h2, _⟩
    · exact .base (.lst h)
    · exact .base (.frz h)
    · exact .kList h1 h2
  | dct s l n ra => cases e
  | dcT s l n ra => cases e
  | exc _ _ _ => cases e
  | ob _ _ _ _ _ => cases e
def isiP (T : Str) (t : String) : Prim := { syn := isiSyn T, sem := one1 (opIsi t) }
theorem prim_isi {T : Str} {t : String} (hin : T ∈ bnames) (hv : bootBuiltins T = some (.type t)) (hn : T ≠ "__name__") (hd : (T == ("__debug__" : Str)) = false) (hk : ∀ (K : PySem.W.Frag) (d : D) (u : String), d.ty = some u → PySem.W.kitOne K (.type u) (.type t) = some (subTy u t)) : PrimG (isiP T t) := by
  intro X k W xo
  have main : ∀ {e : Expr} {es : List Expr} {ms : List (En → Res D)}, isiSyn T X.env.scope e = some es → PEs X W es ms → ∃ x p es pos, e = .Call (.Name x p) es [] pos ∧ PE X e (tS X W fun ρ => (seqM ms ρ).bind fun ds => ofO (one1 (opIsi t) ds)) := by
    intro e es ms h hp
    unfold isiSyn at h
    split at h
    · rename_i x p a y p2 pos
      split at h
      · rename_i hg
        cases h
        rw [Bool.and_eq_true, Bool.and_eq_true, Bool.and_eq_true, decide_eq_true_eq, decide_eq_true_eq] at hg
        obtain ⟨⟨rfl, hg1⟩, rfl, hg2⟩ := hg
        obtain ⟨ma, rfl, h1, n1⟩ := one_pes hp
        refine ⟨_, p, _, pos, rfl, pe_weak (pe_callB call_isi (gl_of hg1) (xo.bf _ (by decide)) (by decide +kernel) (pa_cons h1 (pa_cons (pe_bltn (v := .ty t) (gl_of hg2) (xo.bf _ hin) hv rfl hn hd) pa_nil) (star_of n1 _ X.env)) (by decide) (by decide) (star_of n1 _ X.env)) fun σ H Q q => w_1 (r := fun v H Q => rIsi X.K [v, .ty t] H Q) (fun M H v d1 d dm r1 e k => ?_) q⟩
        have e' : (d1.ty.map fun u => D.bl (subTy u t)) = some d := e
        cases et : d1.ty with
        | none => rw [et] at e'; cases e'
        | some u =>
          rw [et] at e'
          cases e'
          exact ⟨v, .ty t, .type u, .type t, _, rfl, .ty t, tyX_of r1 et, hk X.K d1 u et, k _ H (Same.refl H) (.bl _)⟩
      · cases h
    · cases h
  refine ⟨fun h hp => (main h hp).choose_spec.choose_spec.choose_spec.choose_spec.2, (fun z => nomatch z), fun {e es ms} h hp => ?_⟩
  obtain ⟨x, p, es, pos, rfl, pe⟩ := main h hp
  exact pt_of_pe pe (fun _ => rfl)
abbrev pIsInt : Prim := isiP "int" "int"
abbrev pIsBool : Prim := isiP "bool" "bool"
abbrev pIsTuple : Prim := isiP "tuple" "tuple"
abbrev pIsStr : Prim := isiP "str" "str"
abbrev pIsList : Prim := isiP "list" "list"
theorem isIntG : PrimG pIsInt := prim_isi (by decide) (by decide +kernel) (by decide) (by decide) fun K d u e => by
  cases d <;> cases e <;> kernel_rfl
theorem isBoolG : PrimG pIsBool := prim_isi (by decide) (by decide +kernel) (by decide) (by decide) fun K d u e => by
  cases d <;> cases e <;> kernel_rfl
theorem isTupleG : PrimG pIsTuple := prim_isi (by decide) (by decide +kernel) (by decide) (by decide) fun K d u e => by
  cases d <;> cases e <;> kernel_rfl
theorem isStrG : PrimG pIsStr := prim_isi (by decide) (by decide +kernel) (by decide) (by decide) fun K d u e => by
  cases d <;> cases e <;> kernel_rfl
theorem isListG : PrimG pIsList := prim_isi (by decide) (by decide +kernel) (by decide) (by decide) fun K d u e => by
  cases d <;> cases e <;> kernel_rfl
end PL

namespace PL
open PySem PySem.Spec PyProof.Rows L2
/-! ## turned about: x[::-1] of a list, of a tuple -/
section
variable {prog : Program} {w : World} {A : Around} {E : Value → Shared → Prop} {s : Shared}
theorem fm_congr {α β : Type} {f g : α → Option β} : ∀ {l : List α}, (∀ a ∈ l, f a = g a) → l.filterMap f = l.filterMap g
  | [], _ => rfl
  | a :: l, h => by
    rw [List.filterMap_cons, List.filterMap_cons, h a List.mem_cons_self, fm_congr fun b hb => h b (List.mem_cons_of_mem _ hb)]
theorem pick_back (xs : Array Value) : ((List.range xs.size).filterMap fun (m : Nat) => xs[(((xs.size : Int) - 1) + (m : Int) * (-1)).toNat]?) = xs.toList.reverse := by
  rw [← PySem.W.krv_all xs, ← List.filterMap_reverse, ← PySem.W.krv_range, List.filterMap_map]
  refine fm_congr fun m hm => ?_
  have h := List.mem_range.mp hm
  show xs[_]? = xs[xs.size - 1 - m]?
  have : (((xs.size : Int) - 1) + (m : Int) * (-1)).toNat = xs.size - 1 - m := by omega
  rw [this]
theorem applied_back {sl : Addr} {vl vu vs : Value} {n : Nat} {Q : Int × Int × Nat → Shared → Prop} (hs : s.heap.IsSliceOf sl vl vu vs) (pl : IsPart vl none) (pu : IsPart vu none) (ps : IsPart vs (some (-1)))
    (h : Q ((n : Int) - 1, -1, n) s) : wpAny (model prog w) A (Builtin.Slice.sliceApplied (.ref sl) (pure (n : Int))) Q E s := by
  obtain ⟨os, hos, hcs, hds⟩ := id hs
  unfold Builtin.Slice.sliceApplied Builtin.Slice.sliceFields; refine wpAny_bind (wpAny_bind (wpAny_field hos hds (x := vl) rfl (wpAny_bind (wpAny_field hos hds (x := vu) rfl (wpAny_bind (wpAny_field hos hds (x := vs) rfl (wpAny_pure ?_)))))))
  refine wpAny_bind (HT.slicePart_ ps ?_)
  show wpAny _ _ (if ((-1 : Int) == 0) = true then _ else _) _ _ s
  rw [if_neg (by decide)]; refine wpAny_bind (HT.slicePart_ pl (wpAny_bind (HT.slicePart_ pu (wpAny_bind (wpAny_pure ?_)))))
  have e : Builtin.Slice.slicePlaces ((n : Int) - 1) (-1) (-1) = n := by
    unfold Builtin.Slice.slicePlaces
    rw [if_neg (by decide)]
    rw [show (- -1 : Int) = 1 from rfl, Int.ediv_one]
    split
    · omega
    · omega
  show wpAny _ _ (pure ((n : Int) - 1, (-1 : Int), Builtin.Slice.slicePlaces ((n : Int) - 1) (-1) (-1))) _ _ s
  rw [e]; exact wpAny_pure h
theorem getItem_back {t sl : Addr} {items : Array Value} {vl vu vs : Value} {Q : Value → Shared → Prop} (ht : IsTup s.heap t items) (hs : s.heap.IsSliceOf sl vl vu vs) (pl : IsPart vl none) (pu : IsPart vu none) (ps : IsPart vs (some (-1)))
    (h : Q (.ref s.heap.objs.size) { s with heap := s.heap.push { cls := .type "tuple", data := .seq items.toList.reverse.toArray } }) (hsz : items.size ≤ sizeLine) :
    wpAny (model prog w) A (getItem (.ref t) (.ref sl)) Q E s := by
  have hok : sizeOk (.seq items.toList.reverse.toArray) := by
    show items.toList.reverse.toArray.size ≤ sizeLine
    rw [List.size_toArray, List.length_reverse, Array.length_toList]; exact hsz
  obtain ⟨os, hos, hcs, hds⟩ := id hs
  have hT : s.TypeIs (.ref sl) "slice" := ⟨os, hos, hcs⟩
  unfold getItem; (try with_reducible refine wpAny_holding ?_); (first | refine wpAny_bind (wpAny_pure ?_) | skip); refine wpAny_bind (wpAny_sequenceKey ht.typeIs (by decide) ?_)
  refine wpAny_bind (wpAny_callSpecial?_slot (name := Str.ofString "__getitem__") ht.typeIs PyProof.Rows.slot_tuple_getitem (wpAny_call_entry PyProof.Rows.slot_tuple_getitem ht.typeIs entry_tuple_getitem ?_ (args_tuple_getitem _ _)))
  show wpAny (model prog w) A.in1 (Builtin.Tuple.tupleItemsOf (.ref t) >>= _) _ _ s
  refine wpAny_bind (tupleItemsOf_ ht (wpAny_bind (wpAny_typeOf hT ?_))); rw [if_pos (by decide)]
  refine wpAny_bind (applied_back hs pl pu ps ?_)
  have hno : ¬ ((((items.size : Int) - 1) == 0 && (-1 : Int) == 1 && items.size == items.size) = true) := by
    rw [show ((-1 : Int) == 1) = false from rfl, Bool.and_false, Bool.false_and]; exact Bool.false_ne_true
  show wpAny _ _ (if (((items.size : Int) - 1) == 0 && (-1 : Int) == 1 && items.size == items.size) = true then _ else _) _ _ s
  rw [if_neg hno, pick_back]
  first
    | exact wpAny_bind (m := Builtin.Tuple.tupleExact _) (wpAny_newObj_type (wpAny_pure ⟨_, rfl, wpAny_pure h⟩) hok)
    | exact wpAny_bind (m := Builtin.Tuple.tupleExact _) (wpAny_newObj_type (wpAny_bind (wpAny_pure (wpAny_pure ⟨_, rfl, wpAny_pure h⟩))) hok)
    | exact wpAny_bind (wpAny_bind (m := Builtin.Tuple.tupleExact _) (wpAny_newObj_type (wpAny_pure (wpAny_pure ⟨_, rfl, wpAny_pure h⟩)) hok))
    | exact wpAny_bind (wpAny_bind (m := Builtin.Tuple.tupleExact _) (wpAny_newObj_type (wpAny_pure ⟨_, rfl, wpAny_pure h⟩) hok))
end
def rBack (K : PySem.W.Frag) : V → Hp → VK → Prop := fun x H Q => ∃ a xs, x = .ref a ∧ ((SqL K H a xs ∧ ∀ p, H p = none → Q (.ref p) (upd H p (.lst xs.reverse))) ∨ (SqT K H a xs ∧ ∀ p, H p = none → Q (.ref p) (upd H p (.tup xs.reverse))))
theorem pe_back {X : Cx} {e : Expr} {te : TE} {k : Nat} {p1 p2 p3 pos : Pos} (he : PE X e te) : PE X (.Subscript e (.Slice none none (some (.UnaryOp .USub (.Constant (.int 1) k p1) p2)) p3) pos) (fun σ H Q => te σ H fun x H1 => rBack X.K x H1 Q) := by
  refine ⟨fun pins s σ H Q I h => Subscript_ (thn (he.run pins s σ H _ I h) fun v s1 ⟨x, H1, I1, r1, q1⟩ => ?_)⟩
  obtain ⟨a, xs, ex, q⟩ := q1
  subst ex
  cases r1
  have hst : PO X (some (.UnaryOp .USub (.Constant (.int 1) k p1) p2)) (tPart (tUn (rU fun i => .int (-i)) (tC (.int 1)))) := by exact po_some (pe_un un_neg pe_int)
  refine wpAny_Slice (thn (po_none.run pins s1 σ H1 (fun o H2 => o = none ∧ H2 = H1) I1 ⟨rfl, rfl⟩) fun vl s2 ⟨l, H2, I2, pl, el, f2⟩ => ?_)
  subst el f2
  refine thn (po_none.run pins s2 σ H2 (fun o H3 => o = none ∧ H3 = H2) I2 ⟨rfl, rfl⟩) fun vu s3 ⟨u, H3, I3, pu, eu, f3⟩ => ?_
  subst eu f3
  refine thn (hst.run pins s3 σ H3 (fun o H4 => o = some (-1) ∧ H4 = H3) I3 ⟨1, rfl, -1, rfl, rfl, rfl⟩) fun vs s4 ⟨o, H4, I4, ps, eo, f4⟩ => ?_
  subst eo f4
  generalize hsp : { s4 with heap := s4.heap.push { cls := .type "slice", data := .fields #[vl, vu, vs] } } = sp
  have I5 : Inv X pins σ H4 sp := by rw [← hsp]; exact I4.kept (t' := s4.toks) fun b ob q => Heap.get?_push_of_some _ q
  have hsl : sp.heap.IsSliceOf s4.heap.objs.size vl vu vs := by rw [← hsp]; exact Heap.IsSliceOf.new _ vl vu vs
  show wpAny (model X.prog X.w) X.A (subscriptTail e (.Slice none none (some (.UnaryOp .USub (.Constant (.int 1) k p1) p2)) p3) (.ref a) (.ref s4.heap.objs.size)) (EP X pins σ Q) X.xe _
  rcases q with ⟨hx, q⟩ | ⟨hx, q⟩
  · obtain ⟨its, r, ht, hz⟩ := I5.list hx
    have hlen := r.length
    refine tail_any (ops := [.ref a, .ref s4.heap.objs.size]) ht.isList.typeIs (PySem.slot_list_getitem.lookup) (wpAny_getItem_list_slice ht.isList hsl pl pu ps (by decide) ?_ (by rw [List.size_toArray]; omega)) (by with_unfolding_all rfl)
    rw [PySem.W.krv_pick]
    refine ⟨.ref _, _, I5.laid (t' := sp.toks) (o := .lst xs.reverse) (fun b ob q => Heap.get?_push_of_some _ q) (Nat.le_refl _) ⟨by rw [List.length_reverse]; exact hz, _, 0, r.reverse, Heap.get?_push_size _ rfl⟩, rfl, q _ (I5.hok.fresh (Nat.le_refl _))⟩
  · obtain ⟨its, r, ht, hz⟩ := I5.tuple hx
    have hlen := r.length
    refine tail_any (ops := [.ref a, .ref s4.heap.objs.size]) ht.typeIs (PyProof.Rows.slot_tuple_getitem.lookup) (getItem_back ht hsl pl pu ps ?_ (by rw [List.size_toArray]; omega)) (by with_unfolding_all rfl)
    refine ⟨.ref _, _, I5.laid (t' := sp.toks) (o := .tup xs.reverse) (fun b ob q => Heap.get?_push_of_some _ q) (Nat.le_refl _) ⟨by rw [List.length_reverse]; exact hz, _, r.reverse, IsTup.new _ _⟩, rfl, q _ (I5.hok.fresh (Nat.le_refl _))⟩
def revSyn : Scope → Expr → Option (List Expr) := fun _ e => match e with
  | .Subscript a (.Slice none none (some (.UnaryOp .USub (.Constant (.int 1) _ _) _)) _) _ => some [a]
  | _ => none
def opRev : D → Option D
  | .lst l => some (.lst l.reverse)
  | .tup l => some (.tup l.reverse)
  | _ => none
def pRev : Prim := { syn := revSyn, sem := one1 opRev }
theorem revG : PrimG pRev := by
  intro X k W xo
  have main : ∀ {e : Expr} {es : List Expr} {ms : List (En → Res D)}, revSyn X.env.scope e = some es → PEs X W es ms → ∃ a b pos, e = .Subscript a b pos ∧ PE X e (tS X W fun ρ => (seqM ms ρ).bind fun ds => ofO (one1 opRev ds)) := by
    intro e es ms h hp
    unfold revSyn at h
    split at h
    · rename_i a kk p1 p2 p3 pos
      cases h
      obtain ⟨ma, rfl, h1, _⟩ := one_pes hp
      refine ⟨a, _, pos, rfl, pe_weak (pe_back h1) fun σ H Q q => w_1 (r := fun x H Q => rBack X.K x H Q) (fun M H x d1 d dm r1 e k => ?_) q⟩
      have e' : opRev d1 = some d := e
      cases d1 with
      | lst l => cases e'; cases r1 with | lst s n ra => exact ⟨_, _, rfl, .inl ⟨SqL.of s, fun p hp => k _ _ (same_new hp) (.lst upd_same (dm.fresh hp) ((RepAll.rev ra).same (same_new hp)))⟩⟩
      | tup l => cases e'; cases r1 with | tup s n ra => exact ⟨_, _, rfl, .inr ⟨SqT.of s, fun p hp => k _ _ (same_new hp) (.tup upd_same (dm.fresh hp) ((RepAll.rev ra).same (same_new hp)))⟩⟩
      | _ => cases e'
    · cases h
  refine ⟨fun h hp => (main h hp).choose_spec.choose_spec.choose_spec.2, (fun z => nomatch z), fun {e es ms} h hp => ?_⟩
  obtain ⟨a, b, pos, rfl, pe⟩ := main h hp
  exact pt_of_pe pe (fun _ => rfl)
end PL

namespace PL
open PySem PySem.Spec PyProof.Rows L2
/-! ## in -/
def rInT (K : PySem.W.Frag) (f : Bool → Bool) : R2 := fun x y H Q => ∃ d ds, Dp K H x d ∧ Dp K H y (.tuple ds) ∧ SeqAt.shaped d = true ∧ SeqAt.shaped (.tuple ds) = true ∧ Q (.bl (f (ds.any fun z => PyData.eqv z d))) H
theorem op_inT {X : Cx} (hu : X.A.units + 65 < cLine) : OpR X (compareOp .In) (rInT X.K id) := by
  intro pins s σ H x y v u Q I rx ry h
  obtain ⟨d, ds, hd, he, sd, se, q⟩ := h
  obtain ⟨as, r1⟩ := Dp.reads I d x v hd rx
  obtain ⟨bs, r2⟩ := Dp.reads I (.tuple ds) y u he ry
  exact SeqAt.in_tuple_reads r2 r1 (SeqAt.canLay_of_shaped se) (SeqAt.canLay_of_shaped sd) (room_in_shaped sd hu) ⟨.bl _, H, I, rfl, q⟩
theorem op_notInT {X : Cx} (hu : X.A.units + 65 < cLine) : OpR X (compareOp .NotIn) (rInT X.K not) := by
  intro pins s σ H x y v u Q I rx ry h
  obtain ⟨d, ds, hd, he, sd, se, q⟩ := h
  obtain ⟨as, r1⟩ := Dp.reads I d x v hd rx
  obtain ⟨bs, r2⟩ := Dp.reads I (.tuple ds) y u he ry
  exact SeqAt.notIn_tuple_reads r2 r1 (SeqAt.canLay_of_shaped se) (SeqAt.canLay_of_shaped sd) (room_in_shaped sd hu) ⟨.bl _, H, I, rfl, q⟩
theorem py_any (a : D) : ∀ l : List D, (pyAll l).any (fun z => PyData.eqv z a.py) = l.any fun z => deq z a
  | [] => rfl
  | d :: l => by show (PyData.eqv d.py a.py || (pyAll l).any _) = _; rw [py_any a l]; rfl
def opInF (f : Bool → Bool) (a b : D) : Option D := if shp a && shp b then (match b with
  | .lst l => some (.bl (f (l.any fun z => deq z a)))
  | .tup l => some (.bl (f (l.any fun z => deq z a)))
  | _ => none) else none
theorem opT_in {X : Cx} (hu : X.A.units + 65 < cLine) : OpT X (compareOp .In) (opInF id) := by
  refine ⟨_, OpR.or (op_inD hu) (op_inT hu), fun M H x y d1 d2 d Q dm r1 r2 e k => ?_⟩
  unfold opInF at e
  split at e
  · rename_i hc
    rw [Bool.and_eq_true] at hc
    unfold shp at hc
    rw [Bool.and_eq_true, Bool.and_eq_true] at hc
    split at e
    · rename_i l
      cases e
      exact .inl ⟨d1.py, pyAll l, Rep.dp _ _ hc.1.1 r1, Rep.dp _ _ hc.2.1 r2, hc.1.2, hc.2.2, by rw [py_any]; exact k _ H (Same.refl H) (.bl _)⟩
    · rename_i l
      cases e
      exact .inr ⟨d1.py, pyAll l, Rep.dp _ _ hc.1.1 r1, Rep.dp _ _ hc.2.1 r2, hc.1.2, hc.2.2, by rw [py_any]; exact k _ H (Same.refl H) (.bl _)⟩
    · cases e
  · cases e
theorem opT_ni {X : Cx} (hu : X.A.units + 65 < cLine) : OpT X (compareOp .NotIn) (opInF not) := by
  refine ⟨_, OpR.or (op_notInD hu) (op_notInT hu), fun M H x y d1 d2 d Q dm r1 r2 e k => ?_⟩
  unfold opInF at e
  split at e
  · rename_i hc
    rw [Bool.and_eq_true] at hc
    unfold shp at hc
    rw [Bool.and_eq_true, Bool.and_eq_true] at hc
    split at e
    · rename_i l
      cases e
      exact .inl ⟨d1.py, pyAll l, Rep.dp _ _ hc.1.1 r1, Rep.dp _ _ hc.2.1 r2, hc.1.2, hc.2.2, by rw [py_any]; exact k _ H (Same.refl H) (.bl _)⟩
    · rename_i l
      cases e
      exact .inr ⟨d1.py, pyAll l, Rep.dp _ _ hc.1.1 r1, Rep.dp _ _ hc.2.1 r2, hc.1.2, hc.2.2, by rw [py_any]; exact k _ H (Same.refl H) (.bl _)⟩
    · cases e
  · cases e
def pIn : Prim := { syn := cmpSyn isIn, sem := two (opInF id) }
def pNi : Prim := { syn := cmpSyn isNi, sem := two (opInF not) }
theorem inG : PrimG pIn := prim_cmp (op := .In) (fun o h => by cases o <;> first | rfl | cases h) fun X k W xo => opT_in (by have := xo.room.un; omega)
theorem niG : PrimG pNi := prim_cmp (op := .NotIn) (fun o h => by cases o <;> first | rfl | cases h) fun X k W xo => opT_ni (by have := xo.room.un; omega)
/-! ## a dict of constants, its get -/
def matchKV : List (Str × Str) → List (Option Expr) → List Expr → Bool
  | [], [], [] => true
  | (a, b) :: r, some (.Constant (.str x) _ _) :: ks, .Constant (.str y) _ _ :: vs => decide (a = x) && decide (b = y) && matchKV r ks vs
  | _, _, _ => false
def dctSyn (kvs : List (Str × Str)) : Scope → Expr → Option (List Expr) := fun _ e => match e with
  | .Dict keys values _ => if matchKV kvs keys values then some [] else none
  | _ => none
def keysC (kvs : List (Str × Str)) : List Key := kvs.map fun p => Sum.inr p.1
def pDictC (kvs : List (Str × Str)) : Prim := { syn := dctSyn kvs, sem := fun ds => match ds with | [] => some (.dct (keysC kvs) (kvs.map fun p => .str p.2)) | _ => none }
theorem matchKV_facts {X : Cx} {pos : Pos} : ∀ {kvs : List (Str × Str)} {ks : List (Option Expr)} {vs : List Expr}, matchKV kvs ks vs = true →
    PPs X pos ks vs (kvs.map fun p => (tC (.str p.1), tC (.str p.2))) ∧ ks.all (·.isSome) = true ∧ ks.length = vs.length ∧ ks.length = kvs.length
  | [], [], [], _ => ⟨pps_nil, rfl, rfl, rfl⟩
  | [], _ :: _, _, h => by cases h
  | [], [], _ :: _, h => by cases h
  | (a, b) :: r, [], _, h => by cases h
  | (a, b) :: r, none :: _, _, h => by cases h
  | (a, b) :: r, some k :: ks, [], h => by
    unfold matchKV at h
    split at h
    · rename_i e _ _; cases e
    · rename_i e; cases e
    · cases h
  | (a, b) :: r, some k :: ks, v :: vs, h => by
    cases k with
    | Constant c1 _ _ =>
      cases c1 with
      | str x =>
        cases v with
        | Constant c2 _ _ =>
          cases c2 with
          | str y =>
            have h' : (decide (a = x) && decide (b = y) && matchKV r ks vs) = true := h
            rw [Bool.and_eq_true, Bool.and_eq_true, decide_eq_true_eq, decide_eq_true_eq] at h'
            obtain ⟨⟨rfl, rfl⟩, h'⟩ := h'
            obtain ⟨h1, h2, h3, h4⟩ := matchKV_facts (X := X) (pos := pos) h'
            exact ⟨pps_cons pe_str pe_str h1, by rw [List.all_cons, h2]; rfl, by rw [List.length_cons, List.length_cons, h3], by rw [List.length_cons, List.length_cons, h4]⟩
          | _ => cases h
        | _ => cases h
      | _ => cases h
    | _ => cases h
theorem pairs_const {σ : L2.St} : ∀ (kvs : List (Str × Str)) {H : Hp} {Q : List (V × V) → Hp → Prop}, Q (kvs.map fun p => (.str p.1, .str p.2)) H → tPairs (kvs.map fun p => (tC (.str p.1), tC (.str p.2))) σ H Q
  | [], _, _, h => h
  | p :: r, H, Q, h => pairs_const r (Q := fun ps H => Q ((.str p.1, .str p.2) :: ps) H) h
theorem rep_strs {K : PySem.W.Frag} {M : Mk} {H : Hp} : ∀ kvs : List (Str × Str), RepAll K M H (kvs.map fun p => V.str p.2) (kvs.map fun p => D.str p.2)
  | [] => .nil
  | _ :: r => .cons (.str _) (rep_strs r)
theorem zip_keys : ∀ kvs : List (Str × Str), (keysC kvs).zip (kvs.map fun p => V.str p.2) = kvs.map fun p => (Sum.inr p.1, V.str p.2)
  | [] => rfl
  | p :: r => by
    show (Sum.inr p.1, V.str p.2) :: (keysC r).zip (r.map fun p => V.str p.2) = _
    rw [zip_keys r]; rfl
theorem dictCG {kvs : List (Str × Str)} (h0 : kvs ≠ []) (h15 : kvs.length ≤ 15) (hm : mergeK [] (kvs.map fun p => ((Sum.inr p.1 : Key), V.str p.2)) = kvs.map fun p => ((Sum.inr p.1 : Key), V.str p.2)) : PrimG (pDictC kvs) := by
  intro X k W xo
  have main : ∀ {e : Expr} {es : List Expr} {ms : List (En → Res D)}, dctSyn kvs X.env.scope e = some es → PEs X W es ms → ∃ ks vs pos, e = .Dict ks vs pos ∧ PE X e (tS X W fun ρ => (seqM ms ρ).bind fun ds => ofO ((pDictC kvs).sem ds)) := by
    intro e es ms h hp
    unfold dctSyn at h
    split at h
    · rename_i ks vs pos
      split at h
      · rename_i hg
        cases h
        cases hp
        obtain ⟨h1, h2, h3, h4⟩ := matchKV_facts (X := X) (pos := pos) hg
        refine ⟨ks, vs, pos, rfl, pe_weak (pe_disp h1 h2 h3 (fun z => h0 (List.length_eq_zero_iff.mp (by rw [← h4, z]; rfl))) (by rw [h4]; exact h15)) fun σ H Q q => ?_⟩
        obtain ⟨M, ρ, dm, re, o⟩ := q
        have o' : ∀ v H', Same X.K H H' → Rep X.K M H' v (.dct (keysC kvs) (kvs.map fun p => .str p.2)) → Q v H' := o
        intro p hn
        refine pairs_const kvs ⟨upd_same, kvs.map fun p => ((Sum.inr p.1 : Key), V.str p.2), ?_, by rw [List.length_map]; exact h15, ?_⟩
        · rw [List.map_map]; rfl
        · rw [hm]
          refine o' _ _ (Same.of fun a ob e => ?_) (.dct (xs := kvs.map fun p => V.str p.2) ?_ (by rw [List.length_map, keysC, List.length_map]) (dm.fresh hn) (rep_strs kvs))
          · have : a ≠ p := fun z => by rw [z, hn] at e; cases e
            rw [upd_ne this, upd_ne this]; exact e
          · rw [zip_keys]; exact .inl upd_same
      · cases h
    · cases h
  refine ⟨fun h hp => (main h hp).choose_spec.choose_spec.choose_spec.2, (fun z => nomatch z), fun {e es ms} h hp => ?_⟩
  obtain ⟨x, p, es, rfl, pe⟩ := main h hp
  exact pt_of_pe pe (fun _ => rfl)
def lookD : List Key → List D → Key → Option D
  | k :: ks, d :: ds, q => if decide (k = q) then some d else lookD ks ds q
  | _, _, _ => none
def opGet2 : List D → Option D
  | [.dct ks ds, .str w, z] => some ((lookD ks ds (Sum.inr w)).getD z)
  | _ => none
theorem look_rep {K : PySem.W.Frag} {M : Mk} {H : Hp} {q : Key} : ∀ {ks : List Key} {vs : List V} {ds : List D}, RepAll K M H vs ds → ks.length = vs.length →
    (lookD ks ds q = none ∧ valV (ks.zip vs) q = none) ∨ ∃ v d, lookD ks ds q = some d ∧ valV (ks.zip vs) q = some v ∧ Rep K M H v d
  | [], [], [], _, _ => .inl ⟨rfl, rfl⟩
  | [], _ :: _, _, _, h => by cases h
  | _ :: _, [], _, _, h => by cases h
  | k :: ks, v :: vs, d :: ds, .cons r rs, h => by
    by_cases e : k = q
    · exact .inr ⟨v, d, by unfold lookD; rw [decide_eq_true e]; rfl, by unfold valV; rw [List.zip_cons_cons, List.find?_cons, decide_eq_true e]; rfl, r⟩
    · have e1 : lookD (k :: ks) (d :: ds) q = lookD ks ds q := by show (if decide (k = q) = true then _ else _) = _; rw [decide_eq_false e]; rfl
      have e2 : valV ((k :: ks).zip (v :: vs)) q = valV (ks.zip vs) q := by unfold valV; rw [List.zip_cons_cons, List.find?_cons, decide_eq_false e]
      rw [e1, e2]
      exact look_rep rs (Nat.succ.inj h)
/-- x.get(y, z), three names -/
def nmB (N : List Str) (sc : Scope) (i : Nat) (x : Str) : Bool := decide (N[i]? = some x) && visB sc x && okName x
def getChk (i j k : Nat) (N : List Str) (sc : Scope) (e : Expr) : Bool := match e with
  | .Call (.Attribute (.Name x _) m ap) [.Name y _, .Name z _] [] cp => decide (m = "get") && (ap.endLine == cp.line) && nmB N sc i x && nmB N sc j y && nmB N sc k z
  | _ => false
def aGet (i j k : Nat) : Atom := ⟨getChk i j k, fun ρ => (getE ρ i).bind fun d => (getE ρ j).bind fun w => (getE ρ k).bind fun z => ofO (opGet2 [d, w, z])⟩
theorem nm_pe {X : Cx} {i : Nat} {x : Str} {p : Pos} (h : nmB X.N X.env.scope i x = true) : PE X (.Name x p) (tVar i) := by
  unfold nmB at h
  rw [Bool.and_eq_true, Bool.and_eq_true, decide_eq_true_eq] at h
  obtain ⟨h4, h5⟩ := okName_of h.2
  exact pe_var h.1.1 (vis_of h.1.2) h4 h5
theorem getE_ok {ρ : En} {i : Nat} {d : D} (h : getE ρ i = .ok d) : ρ[i]? = some (some d) := by
  unfold getE at h
  split at h
  · rename_i e; cases h; exact e
  · cases h
theorem getE_two (ρ : En) (i : Nat) : (∃ d, getE ρ i = .ok d) ∨ getE ρ i = .stuck := by
  unfold getE
  split
  · exact .inl ⟨_, rfl⟩
  · exact .inr rfl
theorem getA {P : Str → (List D → Res D) → Prop} {C : Str → Cn → Prop} {i j k : Nat} : AtomG P C (aGet i j k) := by
  intro X kk W xo _ _ x h
  have main : ∃ a es pos, x = .Call a es [] pos ∧ PE X x (tS X W (aGet i j k).sem) := by
    have h' : getChk i j k X.N X.env.scope x = true := h
    unfold getChk at h'
    split at h'
    · rename_i x p m ap y p1 z p2 cp
      rw [Bool.and_eq_true, Bool.and_eq_true, Bool.and_eq_true, Bool.and_eq_true, decide_eq_true_eq] at h'
      obtain ⟨⟨⟨⟨rfl, hl⟩, n0⟩, n1⟩, n2⟩ := h'
      refine ⟨_, _, cp, rfl, pe_weak (pe_dget2 (by have := xo.room.un; omega) (nm_pe n0) (nm_pe n1) (nm_pe n2) ⟨rfl, rfl, hl, rfl⟩) fun σ H Q q => ?_⟩
      obtain ⟨M, ρ, dm, re, o⟩ := q
      have o' : OutE X W M σ H Q ((getE ρ i).bind fun d => (getE ρ j).bind fun w => (getE ρ k).bind fun z => ofO (opGet2 [d, w, z])) := o
      rcases getE_two ρ i with ⟨d1, e1⟩ | e1
      · rw [e1] at o'
        have o1 : OutE X W M σ H Q ((getE ρ j).bind fun w => (getE ρ k).bind fun z => ofO (opGet2 [d1, w, z])) := o'
        rcases getE_two ρ j with ⟨d2, e2⟩ | e2
        · rw [e2] at o1
          have o2 : OutE X W M σ H Q ((getE ρ k).bind fun z => ofO (opGet2 [d1, d2, z])) := o1
          rcases getE_two ρ k with ⟨d3, e3⟩ | e3
          · rw [e3] at o2
            have o3 : OutE X W M σ H Q (ofO (opGet2 [d1, d2, d3])) := o2
            obtain ⟨v1, f1, r1⟩ := re.get i d1 (getE_ok e1)
            obtain ⟨v2, f2, r2⟩ := re.get j d2 (getE_ok e2)
            obtain ⟨v3, f3, r3⟩ := re.get k d3 (getE_ok e3)
            cases e4 : opGet2 [d1, d2, d3] with
            | none => rw [e4] at o3; exact o3.elim
            | some d =>
              rw [e4] at o3
              unfold opGet2 at e4
              split at e4
              · rename_i ks ds w z el
                cases el
                cases e4
                cases r1 with
                | @dct a _ vs _ hh hkl hm ra =>
                  cases r2
                  refine ⟨_, f1, a, rfl, .inl ⟨_, hh⟩, _, f2, _, f3, ?_⟩
                  rcases look_rep (q := Sum.inr w) ra hkl with ⟨g1, g2⟩ | ⟨v, d', g1, g2, g3⟩
                  · refine ⟨none, .inl ⟨_, Sum.inr w, hh, rfl, g2.symm⟩, o3 _ _ (Same.refl H) ?_⟩
                    rw [g1]; exact r3
                  · refine ⟨some v, .inl ⟨_, Sum.inr w, hh, rfl, g2.symm⟩, o3 _ _ (Same.refl H) ?_⟩
                    rw [g1]; exact g3
              · cases e4
          · rw [e3] at o2; exact o2.elim
        · rw [e2] at o1; exact o1.elim
      · rw [e1] at o'; exact o'.elim
    · cases h'
  obtain ⟨a, es, pos, rfl, pe⟩ := main
  exact ⟨pe, pt_of_pe pe (fun _ => rfl)⟩
end PL

namespace PL
open PySem PySem.Spec PyProof.Rows L2
/-! ## len(set(xs)), xs a list of whole numbers -/
def setLen (ns : List Int) : Nat := (PyProof.Rows.firstMet (fun i => ns.getD i 0) ns.length).length
def rLenSet (K : PySem.W.Frag) : V → Hp → VK → Prop := fun x H Q => ∃ l, ∃ ns : List Int, x = .ref l ∧ SqL K H l (ns.map V.int) ∧ ns.length < 1000 ∧ Q (.int (setLen ns : Nat)) H
theorem pe_lenSetI {X : Cx} {a : Expr} {ta : TE} {p p2 q pos : Pos} (hc : X.calm = true) (hg : Gl X "len") (hm : X.mg "len" = none) (hg2 : Gl X "set") (hm2 : X.mg "set" = none) (ha : PE X a ta) (na : starEach [a] X.env = (false, eval a X.env) :: starEach [] X.env) :
    PE X (.Call (.Name "len" p) [.Call (.Name "set" p2) [a] [] q] [] pos) (fun σ H Q => ta σ H fun x H1 => rLenSet X.K x H1 Q) := by
  refine ⟨fun pins s σ H Q I h => Call_ (ld_blt I hg hm boot_len (PyProof.Rows.callWith_builtin1 (PyProof.Rows.args_cons (Call_ (ld_blt I hg2 hm2 boot_set ?_)) rfl) rfl rfl))⟩
  refine PyProof.Rows.callWith_type1 (PyProof.Rows.args_cons (thn (ha.run pins s σ H _ I h) fun v s1 ⟨x, H1, I1, r1, z1⟩ => PyProof.Rows.args_nil ?_) na) na rfl
  obtain ⟨l, ns, rfl, hq, h1, z1⟩ := z1
  cases r1
  obtain ⟨its, r, pl, hz⟩ := I1.list hq
  have hl : its.toArray.size = ns.length := by rw [List.size_toArray, ← r.length, List.length_map]
  refine call_set_list (I1.ok.hd hc) pl.isList (show IntsAre its.toArray.toList ns from intsAre_of r) (by rw [hl]; exact Nat.lt_of_lt_of_le (Nat.succ_lt_succ h1) (by decide)) fun h' tk hS hk => ?_
  refine PyProof.Rows.args_nil ?_
  rw [hl] at hS
  obtain ⟨o, es, ep, t, ho, hex, hd, _, _, _, hf, hn⟩ := hS
  have I2 : Inv X pins σ H1 { s1 with heap := h', toks := tk } := I1.kept fun b o e => hk b o (Heap.lt_size e) e
  have lt : setLen ns ≤ ns.length := PyProof.Rows.firstMet_length_le _ _
  refine call_len_set ho hex hd hf (by have : es.size = setLen ns := hn
                                       omega) ⟨.int (setLen ns : Nat), H1, I2.tok _, ⟨_, by rw [hn]; rfl⟩, z1⟩
def lenSetSyn : Scope → Expr → Option (List Expr) := fun sc e => match e with
  | .Call (.Name x _) [.Call (.Name y _) [a] [] _] [] _ => if (decide (x = "len") && glB sc x) && (decide (y = "set") && glB sc y) then some [a] else none
  | _ => none
def opLenSet : D → Option D
  | .lst l => (intsD l).bind fun ns => if ns.length < 1000 then some (.int (setLen ns : Nat)) else none
  | _ => none
def pLenSet : Prim := { syn := lenSetSyn, sem := one1 opLenSet }
theorem lenSetG : PrimG pLenSet := by
  intro X k W xo
  have main : ∀ {e : Expr} {es : List Expr} {ms : List (En → Res D)}, lenSetSyn X.env.scope e = some es → PEs X W es ms → ∃ a b pos, e = .Call a b [] pos ∧ PE X e (tS X W fun ρ => (seqM ms ρ).bind fun ds => ofO (one1 opLenSet ds)) := by
    intro e es ms h hp
    unfold lenSetSyn at h
    split at h
    · rename_i x p y p2 a q pos
      split at h
      · rename_i hg
        cases h
        rw [Bool.and_eq_true, Bool.and_eq_true, Bool.and_eq_true, decide_eq_true_eq, decide_eq_true_eq] at hg
        obtain ⟨⟨rfl, g1⟩, rfl, g2⟩ := hg
        obtain ⟨ma, rfl, h1, n1⟩ := one_pes hp
        refine ⟨_, _, pos, rfl, pe_weak (pe_lenSetI xo.calm (gl_of g1) (xo.bf _ (by decide)) (gl_of g2) (xo.bf _ (by decide)) h1 (star_of n1 [] X.env)) fun σ H Q q => w_1 (r := fun x H Q => rLenSet X.K x H Q) (fun M H x d1 d dm r1 e k => ?_) q⟩
        have e' : opLenSet d1 = some d := e
        cases d1 with
        | lst l =>
          cases r1 with
          | @lst b vs _ s n ra =>
            have e2 : ((intsD l).bind fun ns => if ns.length < 1000 then some (D.int (setLen ns : Nat)) else none) = some d := e'
            cases e3 : intsD l with
            | none => rw [e3] at e2; cases e2
            | some ns =>
              rw [e3] at e2
              have e4 : (if ns.length < 1000 then some (D.int (setLen ns : Nat)) else none) = some d := e2
              split at e4
              · rename_i hl
                cases e4
                exact ⟨b, ns, rfl, SqL.of (by rw [← intsD_rep ra e3]; exact s), hl, k _ H (Same.refl H) (.int _)⟩
              · cases e4
        | _ => cases e'
      · cases h
    · cases h
  refine ⟨fun h hp => (main h hp).choose_spec.choose_spec.choose_spec.2, (fun z => nomatch z), fun {e es ms} h hp => ?_⟩
  obtain ⟨a, b, pos, rfl, pe⟩ := main h hp
  exact pt_of_pe pe (fun _ => rfl)
end PL

namespace PL
open PySem PySem.Spec PyProof.Rows L2
/-! ## int(x), sorted(pairs), x[a:b] -/
def opInt : D → Option D
  | .int i => some (.int i)
  | .bl k => some (.int (if k then 1 else 0))
  | _ => none
def pInt : Prim := { syn := callSyn "int", sem := one1 opInt }
theorem intG : PrimG pInt := prim_ty (T := "int") (by decide) (by decide +kernel) (by decide) (by decide) fun X k W xo => by
  refine ⟨_, call_int1, fun M H xs ds d Q dm rs e k => ?_⟩
  match ds, rs, e with
  | [x], .cons r1 .nil, e =>
    have e' : opInt x = some d := e
    cases x with
    | int i => cases e'; cases r1; exact .inl ⟨i, rfl, k _ H (Same.refl H) (.int _)⟩
    | bl b => cases e'; cases r1; exact .inr ⟨b, rfl, k _ H (Same.refl H) (.int _)⟩
    | _ => cases e'
abbrev P2 := Int × Int
def prD (p : P2) : D := .tup [.int p.1, .int p.2]
def leP (a b : P2) : Bool := decide (a.1 < b.1) || (decide (a.1 = b.1) && decide (a.2 ≤ b.2))
theorem leP_iff {a b : P2} : leP a b = true ↔ a.1 < b.1 ∨ (a.1 = b.1 ∧ a.2 ≤ b.2) := by
  unfold leP; rw [Bool.or_eq_true, Bool.and_eq_true, decide_eq_true_eq, decide_eq_true_eq, decide_eq_true_eq]
def insP (a : P2) : List P2 → List P2
  | [] => [a]
  | b :: r => if leP a b then a :: b :: r else b :: insP a r
def sortP : List P2 → List P2
  | [] => []
  | a :: r => insP a (sortP r)
theorem insP_perm (a : P2) : ∀ l : List P2, (insP a l).Perm (a :: l)
  | [] => .refl _
  | b :: r => by
    unfold insP
    split
    · exact .refl _
    · exact ((insP_perm a r).cons b).trans (.swap a b r)
theorem sortP_perm : ∀ l : List P2, (sortP l).Perm l
  | [] => .refl _
  | a :: r => (insP_perm a (sortP r)).trans ((sortP_perm r).cons a)
theorem insP_pw (a : P2) : ∀ {l : List P2}, (l.Pairwise fun p q => leP p q = true) → (insP a l).Pairwise fun p q => leP p q = true
  | [], _ => .cons (fun _ h => by cases h) .nil
  | b :: r, h => by
    unfold insP
    split
    · rename_i hab
      refine .cons (fun q hq => ?_) h
      rcases List.mem_cons.mp hq with rfl | hq
      · exact hab
      · have h2 := List.rel_of_pairwise_cons h hq
        rw [leP_iff] at *
        omega
    · rename_i hab
      refine .cons (fun q hq => ?_) (insP_pw a (List.Pairwise.of_cons h))
      rcases List.mem_cons.mp ((insP_perm a r).mem_iff.mp hq) with rfl | hq
      · rw [leP_iff] at *
        omega
      · exact List.rel_of_pairwise_cons h hq
theorem sortP_pw : ∀ l : List P2, (sortP l).Pairwise fun p q => leP p q = true
  | [] => .nil
  | a :: r => insP_pw a (sortP_pw r)
theorem sortP_is {l m : List P2} (hp : m.Perm l) (hs : m.Pairwise fun p q => leP p q = true) : m = sortP l :=
  List.Perm.eq_of_pairwise (fun a b _ _ h1 h2 => by
    rw [leP_iff] at h1 h2
    exact Prod.ext (by omega) (by omega)) hs (sortP_pw l) (hp.trans (sortP_perm l).symm)
def pairsD : List D → Option (List P2)
  | [] => some []
  | .tup [.int a, .int b] :: r => (pairsD r).map ((a, b) :: ·)
  | _ => none
theorem pairsD_map : ∀ l : List P2, pairsD (l.map prD) = some l
  | [] => rfl
  | p :: l => by show (pairsD (l.map prD)).map ((p.1, p.2) :: ·) = _; rw [pairsD_map l]; rfl
theorem pairsD_is : ∀ {ds : List D} {ps : List P2}, pairsD ds = some ps → ds = ps.map prD
  | [], ps, h => by cases h; rfl
  | d :: ds, ps, h => by
    unfold pairsD at h
    split at h
    · rename_i e; cases e
    · rename_i a b r e
      cases e
      cases e1 : pairsD ds with
      | none => rw [e1] at h; cases h
      | some m => rw [e1] at h; cases h; rw [pairsD_is e1]; rfl
    · cases h
def opSorted : D → Option D
  | .lst l => (pairsD l).map fun ps => .lst ((sortP ps).map prD)
  | _ => none
def pSorted : Prim := { syn := callSyn "sorted", sem := one1 opSorted }
open Classical in
noncomputable def keyOf (H : Hp) (x : V) : P2 := if h : ∃ p : P2, ∃ t, x = V.ref t ∧ H t = some (.tup [.int p.1, .int p.2]) then h.choose else (0, 0)
theorem keyOf_is {H : Hp} {x : V} {p : P2} {t : Addr} (e : x = .ref t) (h : H t = some (.tup [.int p.1, .int p.2])) : keyOf H x = p := by
  have hx : ∃ p : P2, ∃ t, x = V.ref t ∧ H t = some (.tup [.int p.1, .int p.2]) := ⟨p, t, e, h⟩
  unfold keyOf
  rw [dif_pos hx]
  obtain ⟨t', e', h'⟩ := hx.choose_spec
  rw [e] at e'
  cases e'
  rw [h] at h'
  injection h' with h'
  injection h' with h'
  injection h' with h1 h2
  injection h2 with h2
  injection h1 with h1
  injection h2 with h2
  exact (Prod.ext h1 h2).symm
theorem rep_pair {K : PySem.W.Frag} {M : Mk} {H : Hp} {x : V} {p : P2} (r : Rep K M H x (prD p)) : ∃ t, x = .ref t ∧ H t = some (.tup [.int p.1, .int p.2]) ∧ ¬ M t := by
  cases r with
  | @tup a xs _ s n ra =>
    refine ⟨a, rfl, ?_, n⟩
    cases ra with
    | cons r1 ra =>
      cases ra with
      | cons r2 ra => cases ra; cases r1; cases r2; exact s
theorem keys_of {K : PySem.W.Frag} {M : Mk} {H : Hp} : ∀ {xs : List V} {ps : List P2}, RepAll K M H xs (ps.map prD) → xs.map (keyOf H) = ps ∧ ∀ x ∈ xs, Rep K M H x (prD (keyOf H x)) ∧ ∃ t, x = V.ref t ∧ H t = some (.tup [.int (keyOf H x).1, .int (keyOf H x).2])
  | [], [], _ => ⟨rfl, fun _ h => by cases h⟩
  | x :: xs, p :: ps, .cons r rs => by
    obtain ⟨t, e, h, n⟩ := rep_pair r
    obtain ⟨i1, i2⟩ := keys_of rs
    have ke := keyOf_is e h
    refine ⟨by rw [List.map_cons, i1, ke], fun y hy => ?_⟩
    rcases List.mem_cons.mp hy with rfl | hy
    · rw [ke]; exact ⟨r, t, e, h⟩
    · exact i2 y hy
theorem rep_keys {K : PySem.W.Frag} {M : Mk} {H : Hp} : ∀ {ys : List V}, (∀ y ∈ ys, Rep K M H y (prD (keyOf H y))) → RepAll K M H ys ((ys.map (keyOf H)).map prD)
  | [], _ => .nil
  | y :: ys, h => .cons (h y List.mem_cons_self) (rep_keys fun z hz => h z (List.mem_cons_of_mem _ hz))
theorem sortedG : PrimG pSorted := prim_blt (id := "sorted") (by decide) (by decide +kernel) (by decide) (by decide) fun X k W xo => by
  refine ⟨_, cr_sortedPO, fun M H xs ds d Q dm rs e k => ?_⟩
  obtain ⟨a, vs, l, rfl, rfl, e, s, n, ra⟩ := one_lst rs e (fun a d h => by cases a <;> first | exact ⟨_, rfl⟩ | cases h)
  have e' : (pairsD l).map (fun ps => D.lst ((sortP ps).map prD)) = some d := e
  cases e1 : pairsD l with
  | none => rw [e1] at e'; cases e'
  | some ps =>
    rw [e1] at e'; cases e'
    have el := pairsD_is e1
    subst el
    obtain ⟨i1, i2⟩ := keys_of ra
    refine ⟨a, vs, keyOf H, rfl, SqL.of s, fun x hx => (i2 x hx).2, fun ys p hs hst hn => ?_⟩
    have pm : ys.Perm vs := hst.perm
    have e2 : ys.map (keyOf H) = sortP ps := by
      refine sortP_is (by rw [← i1]; exact pm.map _) ?_
      rw [List.pairwise_map]
      refine hs.imp fun {x y} h => ?_
      have h' := SrtO.lexB_no.mp h
      rw [leP_iff]
      omega
    refine k _ _ (same_new hn) (.lst upd_same (dm.fresh hn) ?_)
    rw [← e2]
    exact (rep_keys fun y hy => (i2 y (pm.mem_iff.mp hy)).1).same (same_new hn)
end PL

namespace PL
open PySem PySem.Spec PyProof.Rows L2
/-! ## texts of the program that many laws reach -/
def b_is_whole : S :=
  (.cons (.ret (.and (.prim pIsInt (.cons (.v 0) .nil)) (.and (.not (.prim pIsBool (.cons (.v 0) .nil))) (.chain .LtE .LtE opLe opLe (.v 1) (.v 0) (.v 2)))))
  .nil)
def f_is_whole : List D → Res D := callD 3 3 b_is_whole
def b_is_point : S :=
  (.cons (.ite (.or (.not (.prim pIsTuple (.cons (.v 0) .nil))) (.or (.prim pNe (.cons (.prim pLen (.cons (.v 0) .nil)) (.cons (.c (.int 3)) .nil))) (.not (.call "is_whole" f_is_whole (.cons (.prim pIx (.cons (.v 0) (.cons (.c (.int 0)) .nil))) (.cons (.c (.int 0)) (.cons (.g "LAST" (.int 999)) .nil)))))))
  (.cons (.ret (.c (.bl false)))
  .nil)
  .nil)
  (.cons (.ret (.prim pAll (.cons (.comp [("one", 1)] (.name 1) (.seq (.prim pSlL (.cons (.v 0) (.cons (.c (.int 1)) .nil)))) .none (.call "is_whole" f_is_whole (.cons (.v 1) (.cons (.prim pSub (.cons (.c (.int 0)) (.cons (.g "FARTHEST" (.int 99)) .nil))) (.cons (.g "FARTHEST" (.int 99)) .nil))))) .nil)))
  .nil))
def f_is_point : List D → Res D := callD 2 1 b_is_point
def b_is_track : S :=
  (.cons (.ite (.or (.not (.prim pIsTuple (.cons (.v 0) .nil))) (.or (.not (.chain .LtE .LtE opLe opLe (.c (.int 1)) (.prim pLen (.cons (.v 0) .nil)) (.g "MOST" (.int 12)))) (.not (.prim pAll (.cons (.comp [("point", 1)] (.name 1) (.seq (.v 0)) .none (.call "is_point" f_is_point (.cons (.v 1) .nil))) .nil)))))
  (.cons (.ret (.c (.bl false)))
  .nil)
  .nil)
  (.cons (.ret (.prim pAll (.cons (.comp [("one", 2), ("other", 3)] (.tup [2, 3]) (.zip (.v 0) (.prim pSlL (.cons (.v 0) (.cons (.c (.int 1)) .nil)))) .none (.prim pLt (.cons (.prim pIx (.cons (.v 2) (.cons (.c (.int 0)) .nil))) (.cons (.prim pIx (.cons (.v 3) (.cons (.c (.int 0)) .nil))) .nil)))) .nil)))
  .nil))
def f_is_track : List D → Res D := callD 4 1 b_is_track
def b_look_track : S :=
  (.cons (.ite (.not (.call "is_track" f_is_track (.cons (.v 0) .nil)))
  (.cons (.raise "NoTrack")
  .nil)
  .nil)
  .nil)
def f_look_track : List D → Res D := callD 1 1 b_look_track
def b_looked : S :=
  (.cons (.expr (.call "look_track" f_look_track (.cons (.v 0) .nil)))
  (.cons (.ret (.v 0))
  .nil))
def f_looked : List D → Res D := callD 1 1 b_looked
def b_shifted : S :=
  (.cons (.expr (.call "look_track" f_look_track (.cons (.v 0) .nil)))
  (.cons (.ite (.not (.prim pAll (.cons (.comp [("one", 3)] (.name 3) (.seq (.prim pTup (.cons (.v 1) (.cons (.v 2) .nil)))) .none (.call "is_whole" f_is_whole (.cons (.v 3) (.cons (.prim pMul (.cons (.prim pNeg (.cons (.c (.int 2)) .nil)) (.cons (.g "FARTHEST" (.int 99)) .nil))) (.cons (.prim pMul (.cons (.c (.int 2)) (.cons (.g "FARTHEST" (.int 99)) .nil))) .nil))))) .nil)))
  (.cons (.raise "NoNumber")
  .nil)
  .nil)
  (.cons (.ret (.call "looked" f_looked (.cons (.prim pTupleOf (.cons (.comp [("time", 4), ("x", 5), ("y", 6)] (.tup [4, 5, 6]) (.seq (.v 0)) .none (.prim pTup (.cons (.v 4) (.cons (.prim pAdd (.cons (.v 5) (.cons (.v 1) .nil))) (.cons (.prim pAdd (.cons (.v 6) (.cons (.v 2) .nil))) .nil))))) .nil)) .nil)))
  .nil)))
def f_shifted : List D → Res D := callD 7 3 b_shifted
def b_turned : S :=
  (.cons (.expr (.call "look_track" f_look_track (.cons (.v 0) .nil)))
  (.cons (.ret (.prim pTupleOf (.cons (.comp [("time", 1), ("x", 2), ("y", 3)] (.tup [1, 2, 3]) (.seq (.v 0)) .none (.prim pTup (.cons (.v 1) (.cons (.prim pSub (.cons (.c (.int 0)) (.cons (.v 3) .nil))) (.cons (.v 2) .nil))))) .nil)))
  .nil))
def f_turned : List D → Res D := callD 4 1 b_turned
def b_backwards : S :=
  (.cons (.expr (.call "look_track" f_look_track (.cons (.v 0) .nil)))
  (.cons (.set true 1 (.prim pAdd (.cons (.prim pIx (.cons (.prim pIx (.cons (.v 0) (.cons (.c (.int 0)) .nil))) (.cons (.c (.int 0)) .nil))) (.cons (.prim pIx (.cons (.prim pIx (.cons (.v 0) (.cons (.prim pNeg (.cons (.c (.int 1)) .nil)) .nil))) (.cons (.c (.int 0)) .nil))) .nil))))
  (.cons (.ret (.prim pTupleOf (.cons (.comp [("time", 2), ("x", 3), ("y", 4)] (.tup [2, 3, 4]) (.seq (.prim pRev (.cons (.v 0) .nil))) .none (.prim pTup (.cons (.prim pSub (.cons (.v 1) (.cons (.v 2) .nil))) (.cons (.v 3) (.cons (.v 4) .nil))))) .nil)))
  .nil)))
def f_backwards : List D → Res D := callD 5 1 b_backwards
def b_places_of : S :=
  (.cons (.ret (.comp [("time", 1), ("x", 2), ("y", 3)] (.tup [1, 2, 3]) (.seq (.v 0)) .none (.prim pTup (.cons (.v 2) (.cons (.v 3) .nil)))))
  .nil)
def f_places_of : List D → Res D := callD 4 1 b_places_of
def b_crossed : S :=
  (.cons (.ret (.prim pSub (.cons (.prim pMul (.cons (.prim pSub (.cons (.prim pIx (.cons (.v 1) (.cons (.c (.int 0)) .nil))) (.cons (.prim pIx (.cons (.v 0) (.cons (.c (.int 0)) .nil))) .nil))) (.cons (.prim pSub (.cons (.prim pIx (.cons (.v 2) (.cons (.c (.int 1)) .nil))) (.cons (.prim pIx (.cons (.v 0) (.cons (.c (.int 1)) .nil))) .nil))) .nil))) (.cons (.prim pMul (.cons (.prim pSub (.cons (.prim pIx (.cons (.v 1) (.cons (.c (.int 1)) .nil))) (.cons (.prim pIx (.cons (.v 0) (.cons (.c (.int 1)) .nil))) .nil))) (.cons (.prim pSub (.cons (.prim pIx (.cons (.v 2) (.cons (.c (.int 0)) .nil))) (.cons (.prim pIx (.cons (.v 0) (.cons (.c (.int 0)) .nil))) .nil))) .nil))) .nil))))
  .nil)
def f_crossed : List D → Res D := callD 3 3 b_crossed
def b__law_small : S :=
  (.cons (.par true [(true, 3), (false, 4), (false, 5)] (.cons (.prim pLst .nil) (.cons (.c (.int 0)) (.cons (.c (.int 0)) .nil))))
  (.cons (.for_ (.name 6) (.rng (.cons (.prim pAdd (.cons (.c (.int 1)) (.cons (.call "_law_pick" fPick (.cons (.v 0) (.cons (.v 1) (.cons (.v 2) .nil)))) .nil))) .nil))
  (.cons (.app true 3 (.prim pTup (.cons (.prim pAdd (.cons (.prim pMul (.cons (.c (.int 2)) (.cons (.v 6) .nil))) (.cons (.c (.int 1)) .nil))) (.cons (.v 4) (.cons (.v 5) .nil)))))
  (.cons (.set true 7 (.prim pIx (.cons (.prim pLst (.cons (.c (.int 2)) (.cons (.c (.int 3)) (.cons (.c (.int 7)) .nil)))) (.cons (.call "_law_pick" fPick (.cons (.v 0) (.cons (.prim pAdd (.cons (.v 1) (.cons (.c (.int 1)) .nil))) (.cons (.c (.int 3)) .nil)))) .nil))))
  (.cons (.set true 4 (.prim pSub (.cons (.prim pAdd (.cons (.v 4) (.cons (.call "_law_pick" fPick (.cons (.v 0) (.cons (.prim pAdd (.cons (.prim pAdd (.cons (.v 1) (.cons (.prim pMul (.cons (.c (.int 2)) (.cons (.v 6) .nil))) .nil))) (.cons (.c (.int 2)) .nil))) (.cons (.v 7) .nil)))) .nil))) (.cons (.prim pFdv (.cons (.v 7) (.cons (.c (.int 2)) .nil))) .nil))))
  (.cons (.set true 5 (.prim pSub (.cons (.prim pAdd (.cons (.v 5) (.cons (.call "_law_pick" fPick (.cons (.v 0) (.cons (.prim pAdd (.cons (.prim pAdd (.cons (.v 1) (.cons (.prim pMul (.cons (.c (.int 2)) (.cons (.v 6) .nil))) .nil))) (.cons (.c (.int 3)) .nil))) (.cons (.v 7) .nil)))) .nil))) (.cons (.prim pFdv (.cons (.v 7) (.cons (.c (.int 2)) .nil))) .nil))))
  .nil)))))
  (.cons (.ret (.prim pTupleOf (.cons (.v 3) .nil)))
  .nil)))
def f__law_small : List D → Res D := callD 8 3 b__law_small
def b__law_way : S :=
  (.cons (.ret (.prim pTup (.cons (.prim pSub (.cons (.prim pIx (.cons (.v 1) (.cons (.c (.int 0)) .nil))) (.cons (.prim pIx (.cons (.v 0) (.cons (.c (.int 0)) .nil))) .nil))) (.cons (.prim pSub (.cons (.prim pIx (.cons (.v 1) (.cons (.c (.int 1)) .nil))) (.cons (.prim pIx (.cons (.v 0) (.cons (.c (.int 1)) .nil))) .nil))) .nil))))
  .nil)
def f__law_way : List D → Res D := callD 2 2 b__law_way
def b__law_det : S :=
  (.cons (.ret (.prim pSub (.cons (.prim pMul (.cons (.prim pIx (.cons (.v 0) (.cons (.c (.int 0)) .nil))) (.cons (.prim pIx (.cons (.v 1) (.cons (.c (.int 1)) .nil))) .nil))) (.cons (.prim pMul (.cons (.prim pIx (.cons (.v 0) (.cons (.c (.int 1)) .nil))) (.cons (.prim pIx (.cons (.v 1) (.cons (.c (.int 0)) .nil))) .nil))) .nil))))
  .nil)
def f__law_det : List D → Res D := callD 2 2 b__law_det
def b__law_track : S :=
  (.cons (.set true 3 (.prim pAdd (.cons (.c (.int 1)) (.cons (.call "_law_pick" fPick (.cons (.v 0) (.cons (.v 1) (.cons (.v 2) .nil)))) .nil))))
  (.cons (.set true 4 (.prim pIx (.cons (.prim pLst (.cons (.c (.int 2)) (.cons (.c (.int 5)) (.cons (.c (.int 30)) .nil)))) (.cons (.call "_law_pick" fPick (.cons (.v 0) (.cons (.prim pAdd (.cons (.v 1) (.cons (.c (.int 1)) .nil))) (.cons (.c (.int 3)) .nil)))) .nil))))
  (.cons (.set true 5 (.call "_law_pick" fPick (.cons (.v 0) (.cons (.prim pAdd (.cons (.v 1) (.cons (.c (.int 2)) .nil))) (.cons (.c (.int 20)) .nil)))))
  (.cons (.par true [(false, 6), (false, 7)] (.cons (.prim pSub (.cons (.call "_law_pick" fPick (.cons (.v 0) (.cons (.prim pAdd (.cons (.v 1) (.cons (.c (.int 3)) .nil))) (.cons (.c (.int 21)) .nil)))) (.cons (.c (.int 10)) .nil))) (.cons (.prim pSub (.cons (.call "_law_pick" fPick (.cons (.v 0) (.cons (.prim pAdd (.cons (.v 1) (.cons (.c (.int 4)) .nil))) (.cons (.c (.int 21)) .nil)))) (.cons (.c (.int 10)) .nil))) .nil)))
  (.cons (.own true 8 (.prim pLst (.cons (.prim pTup (.cons (.v 5) (.cons (.v 6) (.cons (.v 7) .nil)))) .nil)))
  (.cons (.for_ (.name 9) (.rng (.cons (.c (.int 1)) (.cons (.v 3) .nil)))
  (.cons (.set true 5 (.prim pAdd (.cons (.prim pAdd (.cons (.v 5) (.cons (.c (.int 1)) .nil))) (.cons (.call "_law_pick" fPick (.cons (.v 0) (.cons (.prim pAdd (.cons (.v 1) (.cons (.prim pMul (.cons (.c (.int 5)) (.cons (.v 9) .nil))) .nil))) (.cons (.prim pIx (.cons (.prim pLst (.cons (.c (.int 2)) (.cons (.c (.int 6)) (.cons (.c (.int 40)) .nil)))) (.cons (.call "_law_pick" fPick (.cons (.v 0) (.cons (.prim pAdd (.cons (.prim pAdd (.cons (.v 1) (.cons (.c (.int 80)) .nil))) (.cons (.v 9) .nil))) (.cons (.c (.int 3)) .nil)))) .nil))) .nil)))) .nil))))
  (.cons (.set true 6 (.prim pMax2 (.cons (.prim pNeg (.cons (.c (.int 99)) .nil)) (.cons (.prim pMin2 (.cons (.c (.int 99)) (.cons (.prim pSub (.cons (.prim pAdd (.cons (.v 6) (.cons (.call "_law_pick" fPick (.cons (.v 0) (.cons (.prim pAdd (.cons (.prim pAdd (.cons (.v 1) (.cons (.prim pMul (.cons (.c (.int 5)) (.cons (.v 9) .nil))) .nil))) (.cons (.c (.int 1)) .nil))) (.cons (.prim pAdd (.cons (.prim pMul (.cons (.c (.int 2)) (.cons (.v 4) .nil))) (.cons (.c (.int 1)) .nil))) .nil)))) .nil))) (.cons (.v 4) .nil))) .nil))) .nil))))
  (.cons (.set true 7 (.prim pMax2 (.cons (.prim pNeg (.cons (.c (.int 99)) .nil)) (.cons (.prim pMin2 (.cons (.c (.int 99)) (.cons (.prim pSub (.cons (.prim pAdd (.cons (.v 7) (.cons (.call "_law_pick" fPick (.cons (.v 0) (.cons (.prim pAdd (.cons (.prim pAdd (.cons (.v 1) (.cons (.prim pMul (.cons (.c (.int 5)) (.cons (.v 9) .nil))) .nil))) (.cons (.c (.int 2)) .nil))) (.cons (.prim pAdd (.cons (.prim pMul (.cons (.c (.int 2)) (.cons (.v 4) .nil))) (.cons (.c (.int 1)) .nil))) .nil)))) .nil))) (.cons (.v 4) .nil))) .nil))) .nil))))
  (.cons (.ite (.prim pEq (.cons (.call "_law_pick" fPick (.cons (.v 0) (.cons (.prim pAdd (.cons (.prim pAdd (.cons (.v 1) (.cons (.prim pMul (.cons (.c (.int 5)) (.cons (.v 9) .nil))) .nil))) (.cons (.c (.int 3)) .nil))) (.cons (.c (.int 4)) .nil)))) (.cons (.c (.int 0)) .nil)))
  (.cons (.unp false [6, 7] (.prim pSlL (.cons (.prim pIx (.cons (.v 8) (.cons (.prim pNeg (.cons (.c (.int 1)) .nil)) .nil))) (.cons (.c (.int 1)) .nil))))
  .nil)
  .nil)
  (.cons (.app true 8 (.prim pTup (.cons (.v 5) (.cons (.v 6) (.cons (.v 7) .nil)))))
  .nil))))))
  (.cons (.ret (.prim pTupleOf (.cons (.v 8) .nil)))
  .nil)))))))
def f__law_track : List D → Res D := callD 10 3 b__law_track
end PL

namespace PL
open PySem PySem.Spec PyProof.Rows L2
/-! ## comprehensions, slices, zips -/
theorem enT {a : E} {ρ : En} (h : ev a ρ = .ok (.bl true)) : ev (.not a) ρ = .ok (.bl false) := enot h
theorem enF {a : E} {ρ : En} (h : ev a ρ = .ok (.bl false)) : ev (.not a) ρ = .ok (.bl true) := enot h
theorem compM_map {α : Type} {F : D → Res (Option D)} (f g : α → D) : ∀ (l : List α), (∀ a ∈ l, F (f a) = .ok (some (g a))) → compM F (l.map f) = .ok (l.map g)
  | [], _ => rfl
  | a :: l, h => by
    show (F (f a)).bind (fun o => (compM F (l.map f)).bind fun out => Res.ok (match o with | some x => x :: out | none => out)) = _
    rw [h a List.mem_cons_self, compM_map f g l fun b hb => h b (List.mem_cons_of_mem _ hb)]; rfl
theorem ecomp {α : Type} {own : List (Str × Nat)} {tg : Tg} {it : IT} {elt : E} {ρ : En} (l : List α) (f g : α → D) (h1 : evI it ρ = .ok (l.map f)) (hl : l.length ≤ 1000)
    (h : ∀ a ∈ l, ∃ ρ2, setTg tg (f a) (wipeD ρ (own.map (·.2))) = .ok ρ2 ∧ ev elt ρ2 = .ok (g a)) : ev (.comp own tg it .none elt) ρ = .ok (.lst (l.map g)) := by
  show (evI it ρ).bind (fun ds => if ds.length ≤ sizeD then (compM (fun d => noExc ((setTg tg d (wipeD ρ (own.map (·.2)))).bind fun ρ2 => (evO .none ρ2).bind fun t => if t then (ev elt ρ2).bind fun x => .ok (some x) else .ok none)) ds).bind fun out => Res.ok (D.lst out) else Res.stuck) = _
  rw [h1]
  show (if (l.map f).length ≤ sizeD then _ else _) = _
  rw [if_pos (by rw [List.length_map]; unfold sizeD; omega), compM_map f g l]
  · rfl
  · intro a ha
    obtain ⟨ρ2, e1, e2⟩ := h a ha
    rw [e1]
    show noExc ((Res.ok true).bind fun t => if t then (ev elt ρ2).bind fun x => .ok (some x) else .ok none) = _
    show noExc ((ev elt ρ2).bind fun x => .ok (some x)) = _
    rw [e2]; rfl
theorem cut_lo {α : Type} (xs : List α) (k : Nat) : cutG xs (some (k : Int)) none = xs.drop k := by
  unfold cutG
  rw [HT.sIx_nat, HT.sIx_none]
  by_cases h : k ≤ xs.length
  · rw [Nat.min_eq_left h, List.take_of_length_le (by rw [List.length_drop]; exact Nat.le_refl _)]
  · rw [Nat.min_eq_right (by omega), List.drop_length, List.drop_eq_nil_of_le (by omega), List.take_nil]
theorem cut_hi {α : Type} (xs : List α) (k : Nat) : cutG xs none (some (k : Int)) = xs.take k := by
  unfold cutG
  rw [HT.sIx_nat, HT.sIx_none, List.drop_zero, Nat.sub_zero]
  by_cases h : k ≤ xs.length
  · rw [Nat.min_eq_left h]
  · rw [Nat.min_eq_right (by omega), List.take_length, List.take_of_length_le (by omega)]
theorem zipD_map {α β : Type} (f : α → D) (g : β → D) : ∀ (l : List α) (m : List β), zipD (l.map f) (m.map g) = (l.zip m).map fun p => .tup [f p.1, g p.2]
  | [], _ => rfl
  | _ :: _, [] => rfl
  | a :: l, b :: m => by
    show D.tup [f a, g b] :: zipD (l.map f) (m.map g) = _
    rw [zipD_map f g l m]; rfl
theorem all_map {α : Type} (b : α → Bool) (l : List α) : opAll (.lst (l.map fun a => .bl (b a))) = some (.bl (l.all b)) := by
  show (blsD (l.map fun a => D.bl (b a))).map (fun bs => D.bl (bs.all id)) = _
  have e : l.map (fun a => D.bl (b a)) = (l.map b).map D.bl := by rw [List.map_map]; rfl
  rw [e, blsD_map]
  show some (D.bl ((l.map b).all id)) = _
  rw [List.all_map]; rfl
theorem sum_map {α : Type} (b : α → Int) (l : List α) : opSum (.lst (l.map fun a => .int (b a))) = some (.int (l.map b).sum) := by
  show (intsD (l.map fun a => D.int (b a))).map (fun bs => D.int bs.sum) = _
  have e : l.map (fun a => D.int (b a)) = (l.map b).map D.int := by rw [List.map_map]; rfl
  rw [e, intsD_map]; rfl
theorem atI_map0 {α : Type} (f : α → D) (l : List α) {i : Nat} (h : i < l.length) : atI (l.map f) (i : Int) = some (f l[i]) := by
  rw [atN, List.getElem?_map, List.getElem?_eq_getElem h]; rfl
theorem neI (a b : Int) : opNe (.int a) (.int b) = some (.bl (!decide (a = b))) := o_neI a b
/-! ## tracks -/
abbrev P3 := Int × Int × Int
def ptD (p : P3) : D := .tup [.int p.1, .int p.2.1, .int p.2.2]
def trk (l : List P3) : D := .tup (l.map ptD)
def Rise : List P3 → Prop
  | a :: b :: r => a.1 < b.1 ∧ Rise (b :: r)
  | _ => True
def InPt (p : P3) : Prop := 0 ≤ p.1 ∧ p.1 ≤ 999 ∧ -99 ≤ p.2.1 ∧ p.2.1 ≤ 99 ∧ -99 ≤ p.2.2 ∧ p.2.2 ≤ 99
structure Good (l : List P3) : Prop where
  ne : 1 ≤ l.length
  le : l.length ≤ 12
  pt : ∀ p ∈ l, InPt p
  up : Rise l
theorem whole_ok (i a b : Int) : f_is_whole [.int i, .int a, .int b] = .ok (.bl (decide (a ≤ i) && decide (i ≤ b))) :=
  rcall rfl (rret (eandT (e1 rfl rfl) (eandT (enF (e1 rfl rfl)) (echain rfl rfl rfl rfl rfl))))
theorem whole_in {i a b : Int} (h1 : a ≤ i) (h2 : i ≤ b) : f_is_whole [.int i, .int a, .int b] = .ok (.bl true) := by
  rw [whole_ok, decide_eq_true h1, decide_eq_true h2]; rfl
theorem point_ok {p : P3} (h : InPt p) : f_is_point [ptD p] = .ok (.bl true) := by
  obtain ⟨h1, h2, h3, h4, h5, h6⟩ := h
  refine rcall rfl (riteF (eorF (enT (e1 rfl rfl)) (eorF (e2 (e1 rfl rfl) ki rfl) (enT (ec (lc (e2 rfl ki rfl) (lc ki (lc rfl l0))) (whole_in h1 h2))))) ?_)
  refine rret (e1 (ecomp [p.2.1, p.2.2] D.int (fun _ => .bl true) rfl (by simp) ?_) rfl)
  intro a ha
  refine ⟨_, rfl, ec (lc rfl (lc rfl (lc rfl l0))) (whole_in ?_ ?_)⟩ <;> (rcases List.mem_cons.mp ha with rfl | ha; omega; rw [List.mem_singleton] at ha; rw [ha]; omega)
theorem rise_zip : ∀ {l : List P3}, Rise l → ∀ q ∈ l.zip (l.drop 1), q.1.1 < q.2.1
  | [], _, q, hq => by cases hq
  | [_], _, q, hq => by cases hq
  | a :: b :: r, h, q, hq => by
    rcases List.mem_cons.mp (show q ∈ (a, b) :: (b :: r).zip r from hq) with rfl | hq
    · exact h.1
    · exact rise_zip (l := b :: r) h.2 q hq
theorem track_ok {l : List P3} (G : Good l) : f_is_track [trk l] = .ok (.bl true) := by
  have hl : (1000 : Nat) ≥ 12 := by decide
  have len : ev (.prim pLen (.cons (.v 0) .nil)) (full (startS 4 [trk l])) = .ok (.int (l.length : Nat)) := by
    refine (e1 rfl ?_ : _ = Res.ok (D.int ((l.map ptD).length : Nat))).trans (by rw [List.length_map])
    rfl
  refine rcall rfl (riteF (eorF (enT (e1 rfl rfl)) (eorF (enT ?_) (enT (e1 (ecomp l ptD (fun _ => .bl true) rfl (by have := G.le; omega) ?_) ?_)))) ?_)
  · refine (echain ki len rfl rfl rfl).trans ?_
    have := G.ne
    have := G.le
    rw [decide_eq_true (by omega), decide_eq_true (by omega)]; rfl
  · intro a ha
    exact ⟨_, rfl, ec (lc rfl l0) (point_ok (G.pt a ha))⟩
  · refine (all_map (fun _ => true) l).trans ?_
    have : l.all (fun _ => true) = true := by simp
    rw [this]
  · refine rret (e1 (ecomp (l.zip (l.drop 1)) (fun q => .tup [ptD q.1, ptD q.2]) (fun q => .bl (decide (q.1.1 < q.2.1))) ?_ ?_ ?_) ?_)
    · show zipItems (.tup (l.map ptD)) (.tup (cutG (l.map ptD) (some ((1 : Nat) : Int)) none)) = _
      rw [cut_lo, ← List.map_drop]
      show Res.ok (zipD _ _) = _
      rw [zipD_map]
    · rw [List.length_zip]; have := G.le; omega
    · intro q hq
      exact ⟨_, rfl, elt (e2 rfl ki rfl) (e2 rfl ki rfl)⟩
    · refine (all_map _ _).trans ?_
      have : (l.zip (l.drop 1)).all (fun q => decide (q.1.1 < q.2.1)) = true := List.all_eq_true.mpr fun q hq => decide_eq_true (rise_zip G.up q hq)
      rw [this]
theorem look_ok {l : List P3} (G : Good l) : f_look_track [trk l] = .ok .non := by
  show outR (PL.run b_look_track (startS 1 [trk l])) = _
  have : PL.run b_look_track (startS 1 [trk l]) = .nx (startS 1 [trk l]) := riteF (enT (ec (lc rfl l0) (track_ok G))) rfl
  rw [this]; rfl
theorem looked_ok {l : List P3} (G : Good l) : f_looked [trk l] = .ok (trk l) := rcall rfl (rexpr (ec (lc rfl l0) (look_ok G)) (rret rfl))
theorem turned_ok {l : List P3} (G : Good l) : f_turned [trk l] = .ok (trk (l.map fun p => (p.1, 0 - p.2.2, p.2.1))) := by
  refine rcall rfl (rexpr (ec (lc rfl l0) (look_ok G)) (rret (e1 (ecomp l ptD (fun p => ptD (p.1, 0 - p.2.2, p.2.1)) rfl (by have := G.le; omega) ?_) ?_)))
  · intro a ha
    exact ⟨_, rfl, rfl⟩
  · show some (D.tup _) = _
    unfold trk; rw [List.map_map]; rfl
theorem good_turned {l : List P3} (G : Good l) : Good (l.map fun p => (p.1, 0 - p.2.2, p.2.1)) := by
  refine ⟨by rw [List.length_map]; exact G.ne, by rw [List.length_map]; exact G.le, fun p hp => ?_, ?_⟩
  · obtain ⟨q, hq, rfl⟩ := List.mem_map.mp hp
    obtain ⟨h1, h2, h3, h4, h5, h6⟩ := G.pt q hq
    exact ⟨h1, h2, show -99 ≤ 0 - q.2.2 by omega, show 0 - q.2.2 ≤ 99 by omega, h3, h4⟩
  · have : ∀ l : List P3, Rise l → Rise (l.map fun p => (p.1, 0 - p.2.2, p.2.1)) := by
      intro l
      induction l with
      | nil => intro _; trivial
      | cons a r ih =>
        intro h
        cases r with
        | nil => trivial
        | cons b r => exact ⟨h.1, ih h.2⟩
    exact this l G.up
theorem rise_map {f : P3 → P3} (h : ∀ p q : P3, p.1 < q.1 → (f p).1 < (f q).1) : ∀ l : List P3, Rise l → Rise (l.map f)
  | [], _ => trivial
  | [_], _ => trivial
  | a :: b :: r, g => ⟨h a b g.1, rise_map h (b :: r) g.2⟩
theorem shifted_ok {l : List P3} {r u : Int} (G : Good l) (hr : -198 ≤ r ∧ r ≤ 198) (hu : -198 ≤ u ∧ u ≤ 198) (G' : Good (l.map fun p => (p.1, p.2.1 + r, p.2.2 + u))) :
    f_shifted [trk l, .int r, .int u] = .ok (trk (l.map fun p => (p.1, p.2.1 + r, p.2.2 + u))) := by
  refine rcall rfl (rexpr (ec (lc rfl l0) (look_ok G)) (riteF (enT (e1 (ecomp [r, u] D.int (fun _ => .bl true) rfl (by simp) ?_) rfl)) (rret (ec (lc (e1 (ecomp l ptD (fun p => ptD (p.1, p.2.1 + r, p.2.2 + u)) rfl (by have := G.le; omega) ?_) ?_) l0) (looked_ok G')))))
  · intro a ha
    refine ⟨_, rfl, ec (lc rfl (lc (emul (e1 ki rfl) rfl (mul_small (by decide))) (lc (emul ki rfl (mul_small (by decide))) l0))) (whole_in ?_ ?_)⟩ <;> (rcases List.mem_cons.mp ha with rfl | ha; omega; rw [List.mem_singleton] at ha; rw [ha]; omega)
  · intro a ha
    exact ⟨_, rfl, rfl⟩
  · show some (D.tup _) = _
    unfold trk; rw [List.map_map]; rfl
def plD (p : P3) : D := .tup [.int p.2.1, .int p.2.2]
theorem places_ok (l : List P3) (h : l.length ≤ 1000) : f_places_of [trk l] = .ok (.lst (l.map plD)) := by
  refine rcall rfl (rret (ecomp l ptD plD rfl h ?_))
  intro a ha
  exact ⟨_, rfl, rfl⟩
end PL

namespace PL
open PySem PySem.Spec PyProof.Rows L2
/-! ## tracks turned about -/
theorem rise_pw : ∀ {l : List P3}, Rise l → l.Pairwise fun p q => p.1 < q.1
  | [], _ => .nil
  | [_], _ => .cons (fun _ h => by cases h) .nil
  | a :: b :: r, h => by
    have ih := rise_pw (l := b :: r) h.2
    refine .cons (fun q hq => ?_) ih
    rcases List.mem_cons.mp hq with rfl | hq
    · exact h.1
    · have := List.rel_of_pairwise_cons ih hq
      have := h.1
      omega
theorem pw_rise : ∀ {l : List P3}, (l.Pairwise fun p q => p.1 < q.1) → Rise l
  | [], _ => trivial
  | [_], _ => trivial
  | a :: b :: r, h => ⟨List.rel_of_pairwise_cons h List.mem_cons_self, pw_rise (List.Pairwise.of_cons h)⟩
theorem pw_ends {l : List P3} {a b : P3} (h : l.Pairwise fun p q => p.1 < q.1) (ha : l.head? = some a) (hb : l.getLast? = some b) : ∀ p ∈ l, a.1 ≤ p.1 ∧ p.1 ≤ b.1 := by
  intro p hp
  constructor
  · cases l with
    | nil => cases hp
    | cons c r =>
      cases ha
      rcases List.mem_cons.mp hp with rfl | hp
      · exact Int.le_refl _
      · exact Int.le_of_lt (List.rel_of_pairwise_cons h hp)
  · obtain ⟨r, e⟩ : ∃ r, l = r ++ [b] := by
      have := List.getLast?_eq_some_iff.mp hb
      exact this
    rw [e] at hp h
    rcases List.mem_append.mp hp with hp | hp
    · exact Int.le_of_lt ((List.pairwise_append.mp h).2.2 p hp b List.mem_cons_self)
    · rw [List.mem_singleton] at hp; rw [hp]; exact Int.le_refl _
theorem atI_last {α : Type} {l : List α} {b : α} (h : l.getLast? = some b) : atI l (-1) = some b := by
  obtain ⟨r, e⟩ := List.getLast?_eq_some_iff.mp h
  subst e
  unfold atI ixN
  rw [if_neg (by decide), if_pos (by rw [List.length_append, List.length_singleton]; omega)]
  show (r ++ [b])[(-1 + ((r ++ [b]).length : Int)).toNat]? = _
  have : (-1 + ((r ++ [b]).length : Int)).toNat = r.length := by rw [List.length_append, List.length_singleton]; omega
  rw [this, List.getElem?_append_right (Nat.le_refl _), Nat.sub_self]; rfl
theorem atI_first {α : Type} {l : List α} {b : α} (h : l.head? = some b) : atI l 0 = some b := by
  cases l with
  | nil => cases h
  | cons a r =>
    cases h
    show atI (b :: r) ((0 : Nat) : Int) = _
    rw [atN]; rfl
theorem getLast_map {α β : Type} (f : α → β) {l : List α} {b : α} (h : l.getLast? = some b) : (l.map f).getLast? = some (f b) := by
  rw [List.getLast?_map, h]; rfl
theorem head_map {α β : Type} (f : α → β) {l : List α} {b : α} (h : l.head? = some b) : (l.map f).head? = some (f b) := by
  rw [List.head?_map, h]; rfl
theorem backwards_ok {l : List P3} {a b : P3} (G : Good l) (ha : l.head? = some a) (hb : l.getLast? = some b) : f_backwards [trk l] = .ok (trk (l.reverse.map fun p => (a.1 + b.1 - p.1, p.2.1, p.2.2))) := by
  refine rcall rfl (rexpr (ec (lc rfl l0) (look_ok G)) (rset (d := .int (a.1 + b.1)) (eadd (e2 (e2 (x := trk l) rfl ki (atI_first (head_map ptD ha))) ki rfl) (e2 (e2 (x := trk l) rfl (e1 ki rfl) (atI_last (getLast_map ptD hb))) ki rfl)) rfl (rret (e1 (ecomp l.reverse ptD (fun p => ptD (a.1 + b.1 - p.1, p.2.1, p.2.2)) ?_ (by rw [List.length_reverse]; have := G.le; omega) ?_) ?_))))
  · show Res.ok ((l.map ptD).reverse) = _
    rw [List.map_reverse]
  · intro a ha
    exact ⟨_, rfl, rfl⟩
  · show some (D.tup _) = _
    unfold trk; rw [List.map_map]; rfl
theorem good_back {l : List P3} {a b : P3} (G : Good l) (ha : l.head? = some a) (hb : l.getLast? = some b) : Good (l.reverse.map fun p => (a.1 + b.1 - p.1, p.2.1, p.2.2)) := by
  have pw := rise_pw G.up
  have en := pw_ends pw ha hb
  have ia : InPt a := G.pt a (List.mem_of_head? ha)
  have ib : InPt b := G.pt b (List.mem_of_getLast? hb)
  refine ⟨by rw [List.length_map, List.length_reverse]; exact G.ne, by rw [List.length_map, List.length_reverse]; exact G.le, fun p hp => ?_, pw_rise ?_⟩
  · obtain ⟨q, hq, rfl⟩ := List.mem_map.mp hp
    have hq := List.mem_reverse.mp hq
    obtain ⟨h1, h2⟩ := en q hq
    have := ia.1
    have := ib.2.1
    exact ⟨show 0 ≤ a.1 + b.1 - q.1 by omega, show a.1 + b.1 - q.1 ≤ 999 by omega, (G.pt q hq).2.2⟩
  · rw [List.pairwise_map, List.pairwise_reverse]
    exact pw.imp fun {p q} h => show a.1 + b.1 - q.1 < a.1 + b.1 - p.1 by omega
theorem irng {as : EL} {ρ : En} {ds es : List D} (h : evL as ρ = .ok ds) (h2 : rngD ds = .ok es) : evI (.rng as) ρ = .ok es := by
  show (evL as ρ).bind rngD = _
  rw [h]; exact h2
/-! ## drawn tracks of small steps -/
def sel3 (a b c j : Int) : Int := if j = 0 then a else if j = 1 then b else c
theorem ix3 (a b c : Int) {j : Int} (h1 : 0 ≤ j) (h2 : j < 3) : opIx (.lst [.int a, .int b, .int c]) (.int j) = some (.int (sel3 a b c j)) := by
  have : j = 0 ∨ j = 1 ∨ j = 2 := by omega
  rcases this with rfl | rfl | rfl <;> rfl
def smallW (ns : List Int) (at_ : Int) : Int := sel3 2 3 7 (pickI ns (at_ + 1) 3)
theorem smallW_is (ns : List Int) (at_ : Int) : smallW ns at_ = 2 ∨ smallW ns at_ = 3 ∨ smallW ns at_ = 7 := by
  unfold smallW sel3
  split
  · exact .inl rfl
  · split
    · exact .inr (.inl rfl)
    · exact .inr (.inr rfl)
def smallL (ns : List Int) (at_ : Int) : Nat → Nat → Int → Int → List P3
  | _, 0, _, _ => []
  | k, m + 1, x, y => (2 * (k : Int) + 1, x, y) :: smallL ns at_ (k + 1) m (x + pickI ns (at_ + 2 * k + 2) (smallW ns at_) - smallW ns at_ / 2) (y + pickI ns (at_ + 2 * k + 3) (smallW ns at_) - smallW ns at_ / 2)
theorem small_step (ns : List Int) (at_ : Int) (most : Sl) (h0 : 0 ≤ at_) (h1 : at_ < 100000) (l : List D) (hl : l.length < sizeD) (x y : Int) (k : Nat) (hk : k < 1000) (B : Sl) :
    PL.run (S.loop (S.drop b__law_small 1)) [.ro (.scr ns), .ro (.int at_), most, .own l, .ro (.int x), .ro (.int y), .ro (.int (k : Nat)), B] = .nx [.ro (.scr ns), .ro (.int at_), most, .own (l ++ [ptD (2 * (k : Int) + 1, x, y)]), .ro (.int (x + pickI ns (at_ + 2 * k + 2) (smallW ns at_) - smallW ns at_ / 2)), .ro (.int (y + pickI ns (at_ + 2 * k + 3) (smallW ns at_) - smallW ns at_ / 2)), .ro (.int (k : Nat)), .ro (.int (smallW ns at_))] := by
  have hw : 0 < smallW ns at_ := by rcases smallW_is ns at_ with h | h | h <;> rw [h] <;> decide
  have hp := pickI_nn ns (at_ + 1) (m := 3) (by decide)
  have hp2 := pickI_lt ns (at_ + 1) (m := 3) (by decide)
  refine rapp (d := ptD (2 * (k : Int) + 1, x, y)) rfl (en (lc (eadd (emul ki rfl (mul_small (by decide))) ki) (lc rfl (lc rfl l0))) rfl) rfl hl ?_
  refine rset (e2 (en (lc ki (lc ki (lc ki l0))) rfl) (ec (lc rfl (lc (eadd rfl ki) (lc ki l0))) (pick_ok (by omega) (by omega) (by decide))) (ix3 2 3 7 hp hp2)) rfl ?_
  refine rset (esub (eadd rfl (ec (lc rfl (lc (eadd (eadd rfl (emul ki rfl (mul_small (by decide)))) ki) (lc rfl l0))) (pick_ok (by omega) (by omega) hw))) (efdv rfl ki (div_small (by decide) (by decide)))) rfl ?_
  refine rset (esub (eadd rfl (ec (lc rfl (lc (eadd (eadd rfl (emul ki rfl (mul_small (by decide)))) ki) (lc rfl l0))) (pick_ok (by omega) (by omega) hw))) (efdv rfl ki (div_small (by decide) (by decide)))) rfl ?_
  rfl
theorem small_loop (ns : List Int) (at_ : Int) (most : Sl) (h0 : 0 ≤ at_) (h1 : at_ < 100000) (f : SE → Out) (hf : f = fun s => PL.run (S.loop (S.drop b__law_small 1)) s) : ∀ (m k : Nat), k + m < 1000 → ∀ (l : List D) (x y : Int) (A B : Sl), l.length + m < 1000 →
    ∃ A' B' C' D', forM f (.name 6) ((List.range' k m).map fun (i : Nat) => D.int (0 + (i : Int))) [.ro (.scr ns), .ro (.int at_), most, .own l, .ro (.int x), .ro (.int y), A, B] = .nx [.ro (.scr ns), .ro (.int at_), most, .own (l ++ (smallL ns at_ k m x y).map ptD), A', B', C', D'] := by
  intro m
  induction m with
  | zero =>
    intro k _ l x y A B _
    refine ⟨.ro (.int x), .ro (.int y), A, B, ?_⟩
    show Out.nx _ = _
    show _ = Out.nx [_, _, _, .own (l ++ []), _, _, _, _]
    rw [List.append_nil]
  | succ m ih =>
    intro k hk l x y A B hl
    obtain ⟨A', B', C', D', e⟩ := ih (k + 1) (by omega) (l ++ [ptD (2 * (k : Int) + 1, x, y)]) (x + pickI ns (at_ + 2 * k + 2) (smallW ns at_) - smallW ns at_ / 2) (y + pickI ns (at_ + 2 * k + 3) (smallW ns at_) - smallW ns at_ / 2) (.ro (.int (k : Nat))) (.ro (.int (smallW ns at_))) (by rw [List.length_append, List.length_singleton]; omega)
    refine ⟨A', B', C', D', ?_⟩
    have st := small_step ns at_ most h0 h1 l (by unfold sizeD; omega) x y k (by omega) B
    have kk : (0 + (k : Int)) = (k : Int) := by omega
    show seqO (f [.ro (.scr ns), .ro (.int at_), most, .own l, .ro (.int x), .ro (.int y), .ro (.int (0 + (k : Int))), B]) (forM f (.name 6) ((List.range' (k + 1) m).map fun (i : Nat) => D.int (0 + (i : Int)))) = _
    rw [kk]
    have fe : f [.ro (.scr ns), .ro (.int at_), most, .own l, .ro (.int x), .ro (.int y), .ro (.int (k : Int)), B] = PL.run (S.loop (S.drop b__law_small 1)) [.ro (.scr ns), .ro (.int at_), most, .own l, .ro (.int x), .ro (.int y), .ro (.int (k : Nat)), B] := by rw [hf]
    rw [fe, st]
    show forM f (.name 6) _ _ = _
    rw [e]
    show _ = Out.nx [_, _, _, .own (l ++ (ptD _ :: _)), _, _, _, _]
    rw [List.append_assoc]; rfl
def smallT (ns : List Int) (at_ most : Int) : List P3 := smallL ns at_ 0 (1 + pickI ns at_ most).toNat 0 0
theorem small_ok {ns : List Int} {at_ most : Int} (h0 : 0 ≤ at_) (h1 : at_ < 100000) (hm : 0 < most) (hm2 : most ≤ 12) : f__law_small [.scr ns, .int at_, .int most] = .ok (trk (smallT ns at_ most)) := by
  have a := pickI_nn ns at_ hm
  have b := pickI_lt ns at_ hm
  have hz : okZ (1 + pickI ns at_ most) = true := by unfold okZ; rw [decide_eq_true (by omega), decide_eq_true (by omega)]; rfl
  obtain ⟨A', B', C', D', e⟩ := small_loop ns at_ (.ro (.int most)) h0 h1 _ rfl (1 + pickI ns at_ most).toNat 0 (by omega) [] 0 0 .no .no (by simp only [List.length_nil]; omega)
  refine rcall rfl (rpar (lc rfl (lc ki (lc ki l0))) rfl (rfor (ds := (List.range' 0 (1 + pickI ns at_ most).toNat).map fun (i : Nat) => D.int (0 + (i : Int))) ?_ e (rret (e1 rfl rfl))))
  refine irng (lc (eadd ki (ec (lc rfl (lc rfl (lc rfl l0))) (pick_ok h0 (by omega) hm))) l0) ?_
  show (if okZ (1 + pickI ns at_ most) = true then Res.ok (rangeD 0 (1 + pickI ns at_ most)) else Res.stuck) = _
  rw [if_pos hz]
  unfold rangeD
  rw [Int.sub_zero, List.range_eq_range']
theorem smallL_len (ns : List Int) (at_ : Int) : ∀ (m k : Nat) (x y : Int), (smallL ns at_ k m x y).length = m
  | 0, _, _, _ => rfl
  | m + 1, k, x, y => by show (smallL ns at_ (k + 1) m _ _).length + 1 = _; rw [smallL_len ns at_ m]
theorem smallL_pt (ns : List Int) (at_ : Int) : ∀ (m k : Nat) (x y B : Int), -B ≤ x → x ≤ B → -B ≤ y → y ≤ B → ∀ p ∈ smallL ns at_ k m x y, 2 * (k : Int) + 1 ≤ p.1 ∧ p.1 ≤ 2 * ((k : Int) + m) - 1 ∧ -(B + 3 * m) ≤ p.2.1 ∧ p.2.1 ≤ B + 3 * m ∧ -(B + 3 * m) ≤ p.2.2 ∧ p.2.2 ≤ B + 3 * m
  | 0, _, _, _, _, _, _, _, _, p, hp => by cases hp
  | m + 1, k, x, y, B, h1, h2, h3, h4, p, hp => by
    rcases List.mem_cons.mp (show p ∈ (2 * (k : Int) + 1, x, y) :: smallL ns at_ (k + 1) m _ _ from hp) with rfl | hp
    · refine ⟨show 2 * (k : Int) + 1 ≤ 2 * (k : Int) + 1 by omega, show 2 * (k : Int) + 1 ≤ _ by omega, show -(B + 3 * ((m + 1 : Nat) : Int)) ≤ x by omega, show x ≤ _ by omega, show _ ≤ y by omega, show y ≤ _ by omega⟩
    · have hw := smallW_is ns at_
      have w0 : 0 < smallW ns at_ := by omega
      have a1 := pickI_nn ns (at_ + 2 * k + 2) w0
      have a2 := pickI_lt ns (at_ + 2 * k + 2) w0
      have a3 := pickI_nn ns (at_ + 2 * k + 3) w0
      have a4 := pickI_lt ns (at_ + 2 * k + 3) w0
      have := smallL_pt ns at_ m (k + 1) _ _ (B + 3) (by omega) (by omega) (by omega) (by omega) p hp
      omega
theorem smallL_rise (ns : List Int) (at_ : Int) : ∀ (m k : Nat) (x y : Int), Rise (smallL ns at_ k m x y)
  | 0, _, _, _ => trivial
  | 1, _, _, _ => trivial
  | m + 2, k, x, y => ⟨show 2 * (k : Int) + 1 < 2 * ((k + 1 : Nat) : Int) + 1 by omega, smallL_rise ns at_ (m + 1) (k + 1) _ _⟩
theorem smallT_pt {ns : List Int} {at_ most : Int} (hm : 0 < most) (hm2 : most ≤ 12) : ∀ p ∈ smallT ns at_ most, 1 ≤ p.1 ∧ p.1 ≤ 23 ∧ -36 ≤ p.2.1 ∧ p.2.1 ≤ 36 ∧ -36 ≤ p.2.2 ∧ p.2.2 ≤ 36 := by
  intro p hp
  have a := pickI_nn ns at_ hm
  have b := pickI_lt ns at_ hm
  have := smallL_pt ns at_ (1 + pickI ns at_ most).toNat 0 0 0 0 (by omega) (by omega) (by omega) (by omega) p hp
  omega
theorem smallT_good {ns : List Int} {at_ most : Int} (hm : 0 < most) (hm2 : most ≤ 12) : Good (smallT ns at_ most) := by
  have a := pickI_nn ns at_ hm
  have b := pickI_lt ns at_ hm
  refine ⟨by unfold smallT; rw [smallL_len]; omega, by unfold smallT; rw [smallL_len]; omega, fun p hp => ?_, smallL_rise ns at_ _ _ _ _⟩
  have := smallT_pt (ns := ns) (at_ := at_) hm hm2 p hp
  unfold InPt
  omega
end PL

namespace PL
open PySem PySem.Spec PyProof.Rows L2
/-! ## data that can be compared -/
structure Sh (n : Nat) (d : D) : Prop where
  pl : d.pl = true
  lay : d.py.canLay0 = true
  dep : d.py.depth ≤ n
theorem sh_all {n : Nat} : ∀ {l : List D}, (∀ d ∈ l, Sh n d) → plAll l = true ∧ PyData.canLayAll0 (pyAll l) = true ∧ PyData.depthAll (pyAll l) ≤ n
  | [], _ => ⟨rfl, rfl, Nat.zero_le n⟩
  | d :: l, h => by
    obtain ⟨a, b, c⟩ := sh_all (l := l) fun x hx => h x (List.mem_cons_of_mem _ hx)
    have q := h d List.mem_cons_self
    refine ⟨?_, ?_, ?_⟩
    · show (d.pl && plAll l) = true; rw [q.pl, a]; rfl
    · show (PyData.canLay0 d.py && PyData.canLayAll0 (pyAll l)) = true; rw [q.lay, b]; rfl
    · show max d.py.depth (PyData.depthAll (pyAll l)) ≤ n; exact Nat.max_le.mpr ⟨q.dep, c⟩
theorem Sh.lst {n : Nat} {l : List D} (h : ∀ d ∈ l, Sh n d) : Sh (n + 1) (.lst l) := by
  obtain ⟨a, b, c⟩ := sh_all h
  exact ⟨a, b, Nat.succ_le_succ c⟩
theorem Sh.tup {n : Nat} {l : List D} (h : ∀ d ∈ l, Sh n d) : Sh (n + 1) (.tup l) := by
  obtain ⟨a, b, c⟩ := sh_all h
  exact ⟨a, b, Nat.succ_le_succ c⟩
theorem Sh.int (n : Nat) (i : Int) : Sh n (.int i) := ⟨rfl, rfl, Nat.zero_le n⟩
theorem Sh.shp {n : Nat} {d : D} (h : Sh n d) (hn : n ≤ 64) : shp d = true := by
  unfold PL.shp SeqAt.shaped
  rw [h.pl, h.lay, decide_eq_true (Nat.le_trans h.dep hn)]; rfl
theorem ne_refl {n : Nat} {d : D} (h : Sh n d) (hn : n ≤ 64) : opNe d d = some (.bl false) := by
  unfold opNe deq
  rw [h.shp hn, SeqAt.eqv_refl d.py h.lay]; rfl
theorem eq_refl {n : Nat} {d : D} (h : Sh n d) (hn : n ≤ 64) : opEq d d = some (.bl true) := by
  unfold opEq deq
  rw [h.shp hn, SeqAt.eqv_refl d.py h.lay]; rfl
/-! ## places by number -/
def at3 (l : List P3) (i : Nat) : P3 := l.getD i (0, 0, 0)
theorem ix_lst {α : Type} {l : List α} {f : α → D} {j : Int} {i : Nat} {a : α} (hj : j = (i : Int)) (h : l[i]? = some a) : opIx (.lst (l.map f)) (.int j) = some (f a) := by
  show atI (l.map f) j = _
  rw [hj, atN, List.getElem?_map, h]; rfl
theorem ix_tup {α : Type} {l : List α} {f : α → D} {j : Int} {i : Nat} {a : α} (hj : j = (i : Int)) (h : l[i]? = some a) : opIx (.tup (l.map f)) (.int j) = some (f a) := by
  show atI (l.map f) j = _
  rw [hj, atN, List.getElem?_map, h]; rfl
theorem at3_get {l : List P3} {i : Nat} (h : i < l.length) : l[i]? = some (at3 l i) := by
  unfold at3
  rw [List.getD_eq_getElem?_getD, List.getElem?_eq_getElem h]; rfl
theorem at3_map {l : List P3} {i : Nat} (f : P3 → P3) (h : i < l.length) : at3 (l.map f) i = f (at3 l i) := by
  unfold at3
  rw [List.getD_eq_getElem?_getD, List.getD_eq_getElem?_getD, List.getElem?_map, List.getElem?_eq_getElem h]; rfl
theorem at3_rev {l : List P3} {i : Nat} (h : i < l.length) : at3 l.reverse i = at3 l (l.length - 1 - i) := by
  unfold at3
  rw [List.getD_eq_getElem?_getD, List.getD_eq_getElem?_getD, List.getElem?_reverse h]
theorem at3_mem {l : List P3} {i : Nat} (h : i < l.length) : at3 l i ∈ l := List.mem_of_getElem? (at3_get h)
theorem good_take {l : List P3} (G : Good l) {k : Nat} (h : 1 ≤ k) : Good (l.take k) := by
  have := G.ne
  have := G.le
  refine ⟨by rw [List.length_take]; omega, by rw [List.length_take]; omega, fun p hp => G.pt p (List.mem_of_mem_take hp), pw_rise ((rise_pw G.up).sublist (List.take_sublist k l))⟩
theorem cut_trk {l : List P3} (k : Nat) : opSlU (trk l) (.int (k : Int)) = some (trk (l.take k)) := by
  show some (D.tup (cutG (l.map ptD) none (some (k : Int)))) = _
  rw [cut_hi, ← List.map_take]; rfl
theorem Good.mul {l : List P3} (G : Good l) {i : Nat} (h : i < l.length) : InPt (at3 l i) := G.pt _ (at3_mem h)
end PL

namespace PL
open PySem PySem.Spec PyProof.Rows L2
/-! ## drawn tracks -/
def clip (v : Int) : Int := if (if v < 99 then v else 99) > -99 then (if v < 99 then v else 99) else -99
theorem clip_in (v : Int) : -99 ≤ clip v ∧ clip v ≤ 99 := by
  unfold clip
  split
  · split at * <;> omega
  · omega
theorem eclip {a : E} {ρ : En} {v : Int} (h : ev a ρ = .ok (.int v)) : ev (.prim pMax2 (.cons (.prim pNeg (.cons (.c (.int 99)) .nil)) (.cons (.prim pMin2 (.cons (.c (.int 99)) (.cons a .nil))) .nil))) ρ = .ok (.int (clip v)) :=
  e2 (e1 ki rfl) (e2 ki h rfl) rfl
def tStep (ns : List Int) (at_ k t : Int) : Int := t + 1 + pickI ns (at_ + 5 * k) (sel3 2 6 40 (pickI ns (at_ + 80 + k) 3))
def xStep (ns : List Int) (at_ w k j x : Int) : Int := if pickI ns (at_ + 5 * k + 3) 4 = 0 then x else clip (x + pickI ns (at_ + 5 * k + j) (2 * w + 1) - w)
def trackL (ns : List Int) (at_ w : Int) : Nat → Nat → Int → Int → Int → List P3
  | _, 0, _, _, _ => []
  | i, m + 1, t, x, y => (tStep ns at_ (1 + i) t, xStep ns at_ w (1 + i) 1 x, xStep ns at_ w (1 + i) 2 y) :: trackL ns at_ w (i + 1) m (tStep ns at_ (1 + i) t) (xStep ns at_ w (1 + i) 1 x) (xStep ns at_ w (1 + i) 2 y)
theorem sel3_in (a b c j : Int) : sel3 a b c j = a ∨ sel3 a b c j = b ∨ sel3 a b c j = c := by
  unfold sel3
  split
  · exact .inl rfl
  · split
    · exact .inr (.inl rfl)
    · exact .inr (.inr rfl)
theorem track_step (ns : List Int) (at_ w : Int) (h0 : 0 ≤ at_) (h1 : at_ < 100000) (hw : 0 ≤ w ∧ w ≤ 100) (most many : Sl) (l : List D) (hl : l.length < sizeD) (t x y : Int) (hlast : l.getLast? = some (ptD (t, x, y))) (i : Nat) (hi : i < 1000) :
    PL.run (S.loop (S.drop b__law_track 5)) [.ro (.scr ns), .ro (.int at_), most, many, .ro (.int w), .ro (.int t), .ro (.int x), .ro (.int y), .own l, .ro (.int (1 + (i : Int)))] =
      .nx [.ro (.scr ns), .ro (.int at_), most, many, .ro (.int w), .ro (.int (tStep ns at_ (1 + i) t)), .ro (.int (xStep ns at_ w (1 + i) 1 x)), .ro (.int (xStep ns at_ w (1 + i) 2 y)), .own (l ++ [ptD (tStep ns at_ (1 + i) t, xStep ns at_ w (1 + i) 1 x, xStep ns at_ w (1 + i) 2 y)]), .ro (.int (1 + (i : Int)))] := by
  have p1 := pickI_nn ns (at_ + 80 + (1 + (i : Int))) (m := 3) (by decide)
  have p2 := pickI_lt ns (at_ + 80 + (1 + (i : Int))) (m := 3) (by decide)
  have s1 := sel3_in 2 6 40 (pickI ns (at_ + 80 + (1 + (i : Int))) 3)
  refine rset (d := .int (tStep ns at_ (1 + i) t)) (eadd (eadd rfl ki) (ec (lc rfl (lc (eadd rfl (emul ki rfl (mul_small (by decide)))) (lc (e2 (en (lc ki (lc ki (lc ki l0))) rfl) (ec (lc rfl (lc (eadd (eadd rfl ki) rfl) (lc ki l0))) (pick_ok (by omega) (by omega) (by decide))) (ix3 2 6 40 p1 p2)) l0))) (pick_ok (by omega) (by omega) (by omega)))) rfl ?_
  refine rset (eclip (esub (eadd rfl (ec (lc rfl (lc (eadd (eadd rfl (emul ki rfl (mul_small (by decide)))) ki) (lc (eadd (emul ki rfl (mul_small (by decide))) ki) l0))) (pick_ok (by omega) (by omega) (by omega)))) rfl)) rfl ?_
  refine rset (eclip (esub (eadd rfl (ec (lc rfl (lc (eadd (eadd rfl (emul ki rfl (mul_small (by decide)))) ki) (lc (eadd (emul ki rfl (mul_small (by decide))) ki) l0))) (pick_ok (by omega) (by omega) (by omega)))) rfl)) rfl ?_
  refine rite (e2 (ec (lc rfl (lc (eadd (eadd rfl (emul ki rfl (mul_small (by decide)))) ki) (lc ki l0))) (pick_ok (by omega) (by omega) (by decide))) ki (o_eqI _ 0)) ?_
  unfold xStep
  by_cases z : pickI ns (at_ + 5 * (1 + (i : Int)) + 3) 4 = 0
  · rw [decide_eq_true z, if_pos z, if_pos z, if_pos rfl]
    have u : PL.run (S.yes (S.drop (S.loop (S.drop b__law_track 5)) 3)) [.ro (.scr ns), .ro (.int at_), most, many, .ro (.int w), .ro (.int (tStep ns at_ (1 + i) t)), .ro (.int (clip (x + pickI ns (at_ + 5 * (1 + (i : Int)) + 1) (2 * w + 1) - w))), .ro (.int (clip (y + pickI ns (at_ + 5 * (1 + (i : Int)) + 2) (2 * w + 1) - w))), .own l, .ro (.int (1 + (i : Int)))] = .nx [.ro (.scr ns), .ro (.int at_), most, many, .ro (.int w), .ro (.int (tStep ns at_ (1 + i) t)), .ro (.int x), .ro (.int y), .own l, .ro (.int (1 + (i : Int)))] := by
      refine runp (d := .tup [.int x, .int y]) (e2 (e2 (x := .lst l) rfl (e1 ki rfl) (atI_last hlast)) ki rfl) rfl rfl
    refine (congrArg (fun o => seqO o _) u).trans ?_
    exact rapp (d := ptD (tStep ns at_ (1 + i) t, x, y)) rfl rfl rfl hl rfl
  · rw [decide_eq_false z, if_neg z, if_neg z, if_neg Bool.false_ne_true]
    exact rapp (d := ptD (tStep ns at_ (1 + i) t, clip (x + pickI ns (at_ + 5 * (1 + (i : Int)) + 1) (2 * w + 1) - w), clip (y + pickI ns (at_ + 5 * (1 + (i : Int)) + 2) (2 * w + 1) - w))) rfl rfl rfl hl rfl
theorem track_loop (ns : List Int) (at_ w : Int) (h0 : 0 ≤ at_) (h1 : at_ < 100000) (hw : 0 ≤ w ∧ w ≤ 100) (most many : Sl) (f : SE → Out) (hf : f = fun s => PL.run (S.loop (S.drop b__law_track 5)) s) : ∀ (m i : Nat), i + m < 1000 → ∀ (l : List D) (t x y : Int) (K : Sl), l.length + m < 1000 → l.getLast? = some (ptD (t, x, y)) →
    ∃ A' B' C' K', forM f (.name 9) ((List.range' i m).map fun (j : Nat) => D.int (1 + (j : Int))) [.ro (.scr ns), .ro (.int at_), most, many, .ro (.int w), .ro (.int t), .ro (.int x), .ro (.int y), .own l, K] = .nx [.ro (.scr ns), .ro (.int at_), most, many, .ro (.int w), A', B', C', .own (l ++ (trackL ns at_ w i m t x y).map ptD), K'] := by
  intro m
  induction m with
  | zero =>
    intro i _ l t x y K _ _
    refine ⟨.ro (.int t), .ro (.int x), .ro (.int y), K, ?_⟩
    show Out.nx _ = Out.nx [_, _, _, _, _, _, _, _, .own (l ++ []), _]
    rw [List.append_nil]
  | succ m ih =>
    intro i hi l t x y K hl hlast
    obtain ⟨A', B', C', K', e⟩ := ih (i + 1) (by omega) (l ++ [ptD (tStep ns at_ (1 + i) t, xStep ns at_ w (1 + i) 1 x, xStep ns at_ w (1 + i) 2 y)]) (tStep ns at_ (1 + i) t) (xStep ns at_ w (1 + i) 1 x) (xStep ns at_ w (1 + i) 2 y) (.ro (.int (1 + (i : Int)))) (by rw [List.length_append, List.length_singleton]; omega) (by rw [List.getLast?_append]; rfl)
    refine ⟨A', B', C', K', ?_⟩
    have st := track_step ns at_ w h0 h1 hw most many l (by unfold sizeD; omega) t x y hlast i (by omega)
    have fe : f [.ro (.scr ns), .ro (.int at_), most, many, .ro (.int w), .ro (.int t), .ro (.int x), .ro (.int y), .own l, .ro (.int (1 + (i : Int)))] = PL.run (S.loop (S.drop b__law_track 5)) [.ro (.scr ns), .ro (.int at_), most, many, .ro (.int w), .ro (.int t), .ro (.int x), .ro (.int y), .own l, .ro (.int (1 + (i : Int)))] := by rw [hf]
    show seqO (f [.ro (.scr ns), .ro (.int at_), most, many, .ro (.int w), .ro (.int t), .ro (.int x), .ro (.int y), .own l, .ro (.int (1 + (i : Int)))]) (forM f (.name 9) ((List.range' (i + 1) m).map fun (j : Nat) => D.int (1 + (j : Int)))) = _
    rw [fe, st]
    show forM f (.name 9) _ _ = _
    rw [e, List.append_assoc]; rfl
def trackT (ns : List Int) (at_ most : Int) : List P3 :=
  (pickI ns (at_ + 2) 20, pickI ns (at_ + 3) 21 - 10, pickI ns (at_ + 4) 21 - 10) :: trackL ns at_ (sel3 2 5 30 (pickI ns (at_ + 1) 3)) 0 (pickI ns at_ most).toNat (pickI ns (at_ + 2) 20) (pickI ns (at_ + 3) 21 - 10) (pickI ns (at_ + 4) 21 - 10)
theorem drawn_ok {ns : List Int} {at_ most : Int} (h0 : 0 ≤ at_) (h1 : at_ < 100000) (hm : 0 < most) (hm2 : most ≤ 12) : f__law_track [.scr ns, .int at_, .int most] = .ok (trk (trackT ns at_ most)) := by
  have a := pickI_nn ns at_ hm
  have b := pickI_lt ns at_ hm
  have p1 := pickI_nn ns (at_ + 1) (m := 3) (by decide)
  have p2 := pickI_lt ns (at_ + 1) (m := 3) (by decide)
  have s1 := sel3_in 2 5 30 (pickI ns (at_ + 1) 3)
  have hz : okZ (1 + pickI ns at_ most) = true := by unfold okZ; rw [decide_eq_true (by omega), decide_eq_true (by omega)]; rfl
  obtain ⟨A', B', C', K', e⟩ := track_loop ns at_ (sel3 2 5 30 (pickI ns (at_ + 1) 3)) h0 h1 (by omega) (.ro (.int most)) (.ro (.int (1 + pickI ns at_ most))) _ rfl (pickI ns at_ most).toNat 0 (by omega) [ptD (pickI ns (at_ + 2) 20, pickI ns (at_ + 3) 21 - 10, pickI ns (at_ + 4) 21 - 10)] (pickI ns (at_ + 2) 20) (pickI ns (at_ + 3) 21 - 10) (pickI ns (at_ + 4) 21 - 10) .no (by rw [List.length_singleton]; omega) rfl
  refine rcall rfl (rset (eadd ki (ec (lc rfl (lc rfl (lc rfl l0))) (pick_ok h0 (by omega) hm))) rfl ?_)
  refine rset (e2 (en (lc ki (lc ki (lc ki l0))) rfl) (ec (lc rfl (lc (eadd rfl ki) (lc ki l0))) (pick_ok (by omega) (by omega) (by decide))) (ix3 2 5 30 p1 p2)) rfl ?_
  refine rset (ec (lc rfl (lc (eadd rfl ki) (lc ki l0))) (pick_ok (by omega) (by omega) (by decide))) rfl ?_
  refine rpar (lc (esub (ec (lc rfl (lc (eadd rfl ki) (lc ki l0))) (pick_ok (by omega) (by omega) (by decide))) ki) (lc (esub (ec (lc rfl (lc (eadd rfl ki) (lc ki l0))) (pick_ok (by omega) (by omega) (by decide))) ki) l0)) rfl ?_
  refine rown (l := [ptD (pickI ns (at_ + 2) 20, pickI ns (at_ + 3) 21 - 10, pickI ns (at_ + 4) 21 - 10)]) rfl rfl ?_
  refine rfor (ds := (List.range' 0 (pickI ns at_ most).toNat).map fun (j : Nat) => D.int (1 + (j : Int))) ?_ e (rret (e1 rfl rfl))
  refine irng (lc ki (lc rfl l0)) ?_
  show (if (okZ 1 && okZ (1 + pickI ns at_ most)) = true then Res.ok (rangeD 1 (1 + pickI ns at_ most)) else Res.stuck) = _
  rw [hz]
  show Res.ok (rangeD 1 (1 + pickI ns at_ most)) = _
  unfold rangeD
  have : (1 + pickI ns at_ most - 1).toNat = (pickI ns at_ most).toNat := by omega
  rw [this, List.range_eq_range']
theorem trackL_len (ns : List Int) (at_ w : Int) : ∀ (m i : Nat) (t x y : Int), (trackL ns at_ w i m t x y).length = m
  | 0, _, _, _, _ => rfl
  | m + 1, i, t, x, y => by show (trackL ns at_ w (i + 1) m _ _ _).length + 1 = _; rw [trackL_len ns at_ w m]
theorem tStep_in (ns : List Int) (at_ k t : Int) : t + 1 ≤ tStep ns at_ k t ∧ tStep ns at_ k t ≤ t + 40 := by
  have s1 := sel3_in 2 6 40 (pickI ns (at_ + 80 + k) 3)
  have hp : 0 < sel3 2 6 40 (pickI ns (at_ + 80 + k) 3) := by omega
  have a := pickI_nn ns (at_ + 5 * k) hp
  have b := pickI_lt ns (at_ + 5 * k) hp
  unfold tStep
  omega
theorem xStep_in (ns : List Int) (at_ w k j x : Int) (h : -99 ≤ x ∧ x ≤ 99) : -99 ≤ xStep ns at_ w k j x ∧ xStep ns at_ w k j x ≤ 99 := by
  unfold xStep
  split
  · exact h
  · exact clip_in _
theorem trackL_pt (ns : List Int) (at_ w : Int) : ∀ (m i : Nat) (t x y : Int), (-99 ≤ x ∧ x ≤ 99) → (-99 ≤ y ∧ y ≤ 99) → ∀ p ∈ trackL ns at_ w i m t x y, t + 1 ≤ p.1 ∧ p.1 ≤ t + 40 * m ∧ -99 ≤ p.2.1 ∧ p.2.1 ≤ 99 ∧ -99 ≤ p.2.2 ∧ p.2.2 ≤ 99
  | 0, _, _, _, _, _, _, p, hp => by cases hp
  | m + 1, i, t, x, y, hx, hy, p, hp => by
    have ht := tStep_in ns at_ (1 + i) t
    have hx' := xStep_in ns at_ w (1 + i) 1 x hx
    have hy' := xStep_in ns at_ w (1 + i) 2 y hy
    rcases List.mem_cons.mp hp with rfl | hp
    · exact ⟨ht.1, by show tStep ns at_ (1 + i) t ≤ t + 40 * ((m + 1 : Nat) : Int); omega, hx'.1, hx'.2, hy'.1, hy'.2⟩
    · have := trackL_pt ns at_ w m (i + 1) _ _ _ hx' hy' p hp
      omega
theorem trackL_rise (ns : List Int) (at_ w : Int) : ∀ (m i : Nat) (t x y : Int) (x' y' : Int), Rise ((t, x', y') :: trackL ns at_ w i m t x y)
  | 0, _, _, _, _, _, _ => trivial
  | m + 1, i, t, x, y, x', y' => ⟨by have := (tStep_in ns at_ (1 + i) t).1; show t < tStep ns at_ (1 + i) t; omega, trackL_rise ns at_ w m (i + 1) _ _ _ _ _⟩
theorem trackT_good {ns : List Int} {at_ most : Int} (hm : 0 < most) (hm2 : most ≤ 12) : Good (trackT ns at_ most) := by
  have a := pickI_nn ns at_ hm
  have b := pickI_lt ns at_ hm
  have t1 := pickI_nn ns (at_ + 2) (m := 20) (by decide)
  have t2 := pickI_lt ns (at_ + 2) (m := 20) (by decide)
  have x1 := pickI_nn ns (at_ + 3) (m := 21) (by decide)
  have x2 := pickI_lt ns (at_ + 3) (m := 21) (by decide)
  have y1 := pickI_nn ns (at_ + 4) (m := 21) (by decide)
  have y2 := pickI_lt ns (at_ + 4) (m := 21) (by decide)
  refine ⟨by unfold trackT; rw [List.length_cons, trackL_len]; omega, by unfold trackT; rw [List.length_cons, trackL_len]; omega, fun p hp => ?_, trackL_rise ns at_ _ _ _ _ _ _ _ _⟩
  rcases List.mem_cons.mp hp with rfl | hp
  · exact ⟨t1, by show pickI ns (at_ + 2) 20 ≤ 999; omega, by show -99 ≤ pickI ns (at_ + 3) 21 - 10; omega, by show pickI ns (at_ + 3) 21 - 10 ≤ 99; omega, by show -99 ≤ pickI ns (at_ + 4) 21 - 10; omega, by show pickI ns (at_ + 4) 21 - 10 ≤ 99; omega⟩
  · have := trackL_pt ns at_ _ _ _ _ _ _ (by omega) (by omega) p hp
    unfold InPt
    omega
end PL

namespace PL
open PySem PySem.Spec PyProof.Rows L2
/-! ## more steps -/
theorem ne_nil {n : Nat} {l : List D} (h : ∀ d ∈ l, Sh n d) (hn : n + 1 ≤ 64) : opNe (.lst l) (.lst []) = some (.bl (!l.isEmpty)) := by
  unfold opNe
  rw [(Sh.lst h).shp hn]
  cases l <;> rfl
theorem eq_nil {n : Nat} {l : List D} (h : ∀ d ∈ l, Sh n d) (hn : n + 1 ≤ 64) : opEq (.lst l) (.lst []) = some (.bl l.isEmpty) := by
  unfold opEq
  rw [(Sh.lst h).shp hn]
  cases l <;> rfl
theorem rsix {h : Bool} {s : SE} {i j : Nat} {x e : E} {r : S} {l : List D} {d : D} {k : Int} {o : Out} (hs : s[i]? = some (.own l)) (h1 : ev e (see h s) = .ok d) (hx : ev x (full s) = .ok (.int k)) (hj : ixN l.length k = some j) (ho : okFor h d = true) (h2 : run r (s.set i (.own (l.set j d))) = o) : run (.cons (.six h i x e) r) s = o := by
  refine rc (s' := s.set i (.own (l.set j d))) ?_ h2
  show withOwn s i (fun l => outE (ev e (see h s)) fun d => outE (noExc (ev x (full s))) fun k => sixD h i s l d k) = _
  unfold withOwn
  rw [hs]
  show outE (ev e (see h s)) (fun d => outE (noExc (ev x (full s))) fun k => sixD h i s l d k) = _
  rw [h1, hx]
  show (match ixN l.length k with | some j => if okFor h d = true then Out.nx (s.set i (.own (l.set j d))) else .stuck | none => .stuck) = _
  rw [hj]
  show (if okFor h d = true then _ else _) = _
  rw [if_pos ho]
theorem len_trk (l : List P3) : opLen (trk l) = some (.int (l.length : Nat)) := by
  show some (D.int ((l.map ptD).length : Nat)) = _
  rw [List.length_map]
theorem izip {a b : E} {ρ : En} {x y : D} {ds : List D} (h1 : ev a ρ = .ok x) (h2 : ev b ρ = .ok y) (h : zipItems x y = .ok ds) : evI (.zip a b) ρ = .ok ds := by
  show (ev a ρ).bind (fun x => (ev b ρ).bind fun y => zipItems x y) = _
  rw [h1, h2]; exact h
theorem cut_lo_trk {l : List P3} (k : Nat) : opSlL (trk l) (.int (k : Int)) = some (trk (l.drop k)) := by
  show some (D.tup (cutG (l.map ptD) (some (k : Int)) none)) = _
  rw [cut_lo, ← List.map_drop]; rfl
theorem iseq {a : E} {ρ : En} {x : D} {ds : List D} (h1 : ev a ρ = .ok x) (h : itemsD x = .ok ds) : evI (.seq a) ρ = .ok ds := by
  show (ev a ρ).bind itemsD = _
  rw [h1]; exact h
theorem pt_tail (p : P3) : opSlL (ptD p) (.int 1) = some (plD p) := rfl
theorem compM_filter {α : Type} {F : D → Res (Option D)} (f : α → D) (g : α → Option D) : ∀ (l : List α), (∀ a ∈ l, F (f a) = .ok (g a)) → compM F (l.map f) = .ok (l.filterMap g)
  | [], _ => rfl
  | a :: l, h => by
    show (F (f a)).bind (fun o => (compM F (l.map f)).bind fun out => Res.ok (match o with | some x => x :: out | none => out)) = _
    rw [h a List.mem_cons_self, compM_filter f g l fun b hb => h b (List.mem_cons_of_mem _ hb), List.filterMap_cons]
    cases g a <;> rfl
theorem ecompF {α : Type} {own : List (Str × Nat)} {tg : Tg} {it : IT} {cond elt : E} {ρ : En} (l : List α) (f : α → D) (g : α → Option D) (h1 : evI it ρ = .ok (l.map f)) (hl : l.length ≤ 1000)
    (h : ∀ a ∈ l, ∃ ρ2 k, setTg tg (f a) (wipeD ρ (own.map (·.2))) = .ok ρ2 ∧ ev cond ρ2 = .ok (.bl k) ∧ (k = false → g a = none) ∧ (k = true → ∃ d, ev elt ρ2 = .ok d ∧ g a = some d)) : ev (.comp own tg it (.some cond) elt) ρ = .ok (.lst (l.filterMap g)) := by
  show (evI it ρ).bind (fun ds => if ds.length ≤ sizeD then (compM (fun d => noExc ((setTg tg d (wipeD ρ (own.map (·.2)))).bind fun ρ2 => (evO (.some cond) ρ2).bind fun t => if t then (ev elt ρ2).bind fun x => .ok (some x) else .ok none)) ds).bind fun out => Res.ok (D.lst out) else Res.stuck) = _
  rw [h1]
  show (if (l.map f).length ≤ sizeD then _ else _) = _
  rw [if_pos (by rw [List.length_map]; unfold sizeD; omega), compM_filter f g l]
  · rfl
  · intro a ha
    obtain ⟨ρ2, k, e1, e2, hF, hT⟩ := h a ha
    rw [e1]
    show noExc (((ev cond ρ2).bind truth).bind fun t => if t then (ev elt ρ2).bind fun x => .ok (some x) else .ok none) = _
    rw [e2]
    show noExc (if k then (ev elt ρ2).bind fun x => .ok (some x) else .ok none) = _
    cases k with
    | false => rw [hF rfl]; rfl
    | true =>
      obtain ⟨d, e3, e4⟩ := hT rfl
      rw [if_pos rfl, e3, e4]; rfl
theorem rforO {tg : Tg} {it : IT} {u r : S} {s : SE} {ds : List D} {o : Out} (h1 : evI it (hid s) = .ok ds) (ho : forM (fun s => run u s) tg ds s = o) : run (.cons (.for_ tg it u) r) s = seqO o (fun s => run r s) := by
  show seqO (outE (evI it (hid s)) (fun ds => forM (fun s => run u s) tg ds s)) (fun s => run r s) = _
  rw [h1]
  show seqO (forM (fun s => run u s) tg ds s) _ = _
  rw [ho]
theorem rextd {h : Bool} {e : E} {s : SE} {i : Nat} {r : S} {l es : List D} {o : Out} (hs : s[i]? = some (.own l)) (h1 : ev e (see h s) = .ok (.lst es)) (ho : (h || flatAll es) = true) (hl : l.length + es.length < sizeD) (h2 : run r (s.set i (.own (l ++ es))) = o) : run (.cons (.extd h i e) r) s = o := by
  refine rc (s' := s.set i (.own (l ++ es))) ?_ h2
  show withOwn s i (fun l => outE (ev e (see h s)) fun d => extD h i s l d) = _
  unfold withOwn
  rw [hs]
  show outE (ev e (see h s)) (fun d => extD h i s l d) = _
  rw [h1]
  show (if ((h || flatAll es) && decide (l.length + es.length < sizeD)) = true then _ else _) = _
  rw [ho, decide_eq_true hl]; rfl
theorem sh_pt (p : P3) : Sh 1 (ptD p) := Sh.tup (n := 0) fun d hd => by
  simp only [List.mem_cons, List.not_mem_nil, or_false] at hd
  rcases hd with rfl | rfl | rfl <;> exact Sh.int 0 _
theorem sh_trk (l : List P3) : Sh 2 (trk l) := Sh.tup (n := 1) fun d hd => by
  obtain ⟨p, _, rfl⟩ := List.mem_map.mp hd
  exact sh_pt p
theorem filterMap_ite {α β : Type} (c : α → Bool) (f : α → β) : ∀ l : List α, l.filterMap (fun a => if c a then some (f a) else none) = (l.filter c).map f
  | [] => rfl
  | a :: l => by
    rw [List.filterMap_cons, List.filter_cons, filterMap_ite c f l]
    cases c a <;> rfl
theorem good_sub {l m : List P3} (G : Good l) (s : m.Sublist l) (h : 1 ≤ m.length) : Good m :=
  ⟨h, Nat.le_trans s.length_le G.le, fun p hp => G.pt p (s.subset hp), pw_rise ((rise_pw G.up).sublist s)⟩
theorem eq_trk {l m : List P3} (h : l = m) : opNe (trk l) (trk m) = some (.bl false) := by rw [h]; exact ne_refl (sh_trk m) (by decide)
end PL

namespace PL
open PySem PySem.Spec PyProof.Rows L2
/-! ## sorted(set(xs)), xs a list of pairs of whole numbers of any sign -/
def k2 (ns : List Int) : Int × Int := (ns.getD 0 0, ns.getD 1 0)
section
variable {P : Program} {w : World} {A : Around} {E : Value → Shared → Prop} {s : Shared}
theorem sorted_setP {a : Addr} {L : List (Addr × List Int)} {es : Array (Int × Value)} {ep : Nat} {t : SetTable} {Q : Value → Shared → Prop} (R : SetTR P w s.heap a L es ep t) (hh : A.handled = none)
    (hB : ∀ p ∈ L, p.2.length = 2)
    (hQ : ∀ s' p (out : Array Value) (c : Nat) (L' : List (Addr × List Int)), (∀ b o, s.heap.get? b = some o → s'.heap.get? b = some o) → s'.gens = s.gens → s'.os = s.os → s.heap.objs.size ≤ p →
      s'.heap.get? p = some (seqObj "list" out c) → out.toList = L'.map (fun q => Value.ref q.1) → L'.Perm L → L'.Pairwise (fun q r => ¬ SrtO.lexB (k2 r.2) (k2 q.2) = true) → Q (.ref p) s') :
    wpAny (model P w) A (call (.builtin "sorted") [.ref a]) Q E s := by
  obtain ⟨o, ho, hex, hd⟩ := R.ob
  have hsz := R.size
  have hfew := R.few
  refine Calls.call_function_entry kind_sorted plain_sorted entry_sorted (args_sorted1 _) ?_
  unfold Builtin.«sorted»
  refine wpAny_bind (m := checkCount "sorted" 1 1 _) (wpAny_pure ?_)
  refine wpAny_bind (collect_set (A := A.in1) hh ⟨o, ho, hex.1, hd⟩ R.fits (by unfold scanBound; omega) R.tab.ris R.led fun s1 vs k1 hz g1 o1 pm => ?_)
  have hes : es.toList.map (·.2) = L.map fun q => Value.ref q.1 := by
    rw [R.rows]
    unfold rowsOf
    rw [List.map_map] <;> rfl
  rw [hes] at pm
  have ord : ∀ vs : List Value, (∀ v ∈ vs, ∃ q ∈ L, v = Value.ref q.1) → ∃ L1 : List (Addr × List Int), vs = L1.map (fun q => Value.ref q.1) ∧ ∀ q ∈ L1, q ∈ L := by
    intro vs
    induction vs with
    | nil => intro _; exact ⟨[], rfl, fun q hq => (by cases hq)⟩
    | cons v vs ih =>
      intro hv
      obtain ⟨q, hq, e⟩ := hv v List.mem_cons_self
      obtain ⟨L1, e1, hs⟩ := ih fun u hu => hv u (List.mem_cons_of_mem _ hu)
      refine ⟨q :: L1, by rw [List.map_cons, e, e1], fun r hr => ?_⟩
      rcases List.mem_cons.mp hr with z | z
      · rw [z]; exact hq
      · exact hs r z
  have one : ∀ q ∈ L, ∀ r ∈ L, q.1 = r.1 → q = r := fun q hq r hr e => by
    have a1 := R.tup q hq
    have a2 := R.tup r hr
    rw [e] at a1
    have e2 : q.2 = r.2 := a1.inj a2
    exact Prod.ext e e2
  have perm_of : ∀ L1 : List (Addr × List Int), (∀ q ∈ L1, q ∈ L) → (L1.map (fun q => Value.ref q.1)).Perm (L.map fun q => Value.ref q.1) → L1.Perm L := by
    intro L1 hs pm1
    have nL : L.Nodup := nodup_of_map R.nd
    have nref : (L.map fun q => Value.ref q.1).Nodup := by
      refine List.pairwise_map.mpr (List.Pairwise.imp_of_mem (fun {q r} hq hr hne e => ?_) nL)
      injection e with e
      exact hne (one q hq r hr e)
    have n1 : L1.Nodup := nodup_of_map (pm1.nodup_iff.mpr nref)
    refine (List.perm_ext_iff_of_nodup n1 nL).mpr fun q => ⟨hs q, fun hq => ?_⟩
    have hm : Value.ref q.1 ∈ L1.map (fun q => Value.ref q.1) := pm1.mem_iff.mpr (List.mem_map.mpr ⟨q, hq, rfl⟩)
    obtain ⟨r, hr, e⟩ := List.mem_map.mp hm
    injection e with e
    rw [← one r (hs r hr) q hq e]
    exact hr
  have hvl : vs.length < 64 := by rw [pm.length_eq, List.length_map]; exact hfew
  have hvz : vs.length ≤ sizeLine := by rw [sizeLine_eq]; omega
  refine wpAny_bind (wpAny_newList ?_ hvz)
  have hoL : (s1.heap.push (seqObj "list" vs.toArray 0)).get? s1.heap.objs.size = some (seqObj "list" vs.toArray 0) := Heap.get?_push_size _ rfl
  have tk : ∀ q ∈ L, TS.TupInts (s1.heap.push (seqObj "list" vs.toArray 0)) (.ref q.1) q.2 := fun q hq => tupInts_of (P := P) (w := w) (isT_keep (R.tup q hq) fun b u e => Heap.get?_push_of_some _ (k1 b u e))
  let h1 := s1.heap.push (seqObj "list" vs.toArray 0)
  have hp : ∀ v ∈ vs, Srt.IsPair h1 v (k2 (TS.intsOf h1 v)).1 (k2 (TS.intsOf h1 v)).2 := fun v hv => by
    obtain ⟨q, hq, e⟩ := List.mem_map.mp (pm.mem_iff.mp hv)
    subst e
    have tq := tk q hq
    have ei : TS.intsOf h1 (.ref q.1) = q.2 := tq.ints
    rw [ei]
    have l2 := hB q hq
    obtain ⟨b, items, e, ⟨o, ho, hc, n, hd⟩, hi⟩ := tq
    generalize q.2 = ns at *
    obtain ⟨il, rfl⟩ : ∃ il : List Value, items = il.toArray := ⟨items.toList, rfl⟩
    have hil : IntsAre il ns := by simpa using hi
    cases hil with
    | nil => cases l2
    | cons x t hil =>
      cases hil with
      | nil => cases l2
      | cons y u hil =>
        cases hil with
        | nil => exact ⟨b, o, t, u, n, e, ho, hc, hd⟩
        | cons z v hil => cases l2
  refine wpAny_bind (wpAny_holding (wpAny_call_entry slot_list_sort ⟨_, hoL, rfl⟩ entry_list_sort (SrtO.list_sort_ord (s := { s1 with heap := h1 }) (SrtO.swo_lex fun v => k2 (TS.intsOf h1 v)) hoL hvz (fun g2 => SrtO.pairs_sortableO (s := { s1 with heap := h1 }) (k := fun v => k2 (TS.intsOf h1 v)) (by omega) hp fun o e => ?_) fun out hs hb => ⟨_, rfl, ?_⟩) (args_list_sort _)))
  · have e' : some o = some (seqObj "list" vs.toArray 0) := e.symm.trans hoL
    cases e'
    intro c
    exact absurd (Value.type.inj c) (by decide)
  obtain ⟨c, hc⟩ := sortedHeap_at (vs := vs) (out := out.toArray) hoL
  obtain ⟨L', e', hs'⟩ := ord out fun v hv => by
    obtain ⟨q, hq, e⟩ := List.mem_map.mp (pm.mem_iff.mp (hb.perm.mem_iff.mp hv))
    exact ⟨q, hq, e.symm⟩
  have pL : L'.Perm L := perm_of L' hs' (by rw [← e']; exact hb.perm.trans pm)
  have pw : L'.Pairwise (fun q r => ¬ SrtO.lexB (k2 r.2) (k2 q.2) = true) := by
    rw [e'] at hs
    refine List.Pairwise.imp_of_mem (fun {q r} hq hr hle => ?_) (List.pairwise_map.mp hs)
    have f1 : TS.intsOf h1 (.ref q.1) = q.2 := (tk q (hs' q hq)).ints
    have f2 : TS.intsOf h1 (.ref r.1) = r.2 := (tk r (hs' r hr)).ints
    have hle : SrtO.lexB (k2 (TS.intsOf h1 (.ref r.1))) (k2 (TS.intsOf h1 (.ref q.1))) = false := hle
    rw [f1, f2] at hle
    rw [hle]; exact Bool.false_ne_true
  refine wpAny_pure ⟨_, rfl, hQ _ s1.heap.objs.size out.toArray c L' (fun b u e => ?_) g1 o1 hz hc (by simpa using e') pL pw⟩
  have q := k1 b u e
  have hlt := Heap.lt_size q
  show (sortedHeap (s1.heap.push (seqObj "list" vs.toArray 0)) s1.heap.objs.size vs out.toArray).get? b = some u
  rw [sortedHeap_old (Nat.ne_of_lt hlt) (by rw [size_push']; exact Nat.lt_succ_of_lt hlt)]
  exact Heap.get?_push_of_some _ q
end
def rSortedP (K : PySem.W.Frag) (P : Program) (w : World) : List V → Hp → VK → Prop := fun vs H Q => ∃ (a : Addr) (L : List (Addr × List Int)), vs = [V.ref a] ∧ H a = some (SetTO P w a L) ∧ (∀ p ∈ L, SqT K H p.1 (p.2.map V.int)) ∧
  (∀ p ∈ L, p.2.length = 2) ∧
  ∀ (L' : List (Addr × List Int)) (p : Addr), L'.Perm L → (L'.map (·.2)).Nodup → L'.length < 64 → L'.Pairwise (fun q r => ¬ SrtO.lexB (k2 r.2) (k2 q.2) = true) → H p = none → Q (.ref p) (upd H p (.lst (L'.map fun q => V.ref q.1)))
theorem cr_sortedP {X : Cx} (hc : X.calm = true) : CallR X (.builtin "sorted") (rSortedP X.K X.prog X.w) := by
  intro pins s σ H vs us Q I r h
  obtain ⟨a, L, rfl, ha, hk, hB, q⟩ := h
  have R0 : SetT0 X.prog X.w s.heap a L := (I.hok a _ ha).1
  obtain ⟨es, ep, t, R⟩ := R0.full fun p hp => I.isT (hk p hp)
  rw [Vals.ref1 r]
  refine sorted_setP R (I.ok.hd hc) hB fun s' p out c L' k g o hp hg hout pm pw => ?_
  have hfew : L'.length < 64 := by rw [pm.length_eq]; exact R.few
  have hlen : (L'.map fun q => V.ref q.1).length ≤ sizeLine := by rw [List.length_map, sizeLine_eq]; omega
  have hn : H p = none := I.hok.fresh hp
  have hv : Vals (L'.map fun q => V.ref q.1) out.toList := by rw [hout]; exact vals_of_refs L'
  have J : Inv X pins σ (upd H p (.lst (L'.map fun q => V.ref q.1))) { s with heap := s'.heap, gens := s'.gens, drawn := s'.drawn, toks := s'.toks } :=
    I.call (ch := []) (Un.laid k hp hn) (I.hok.laid k hp ⟨hlen, out.toList, c, hv, hg⟩) (by rw [g]; exact I.bare) (fun _ z => nomatch z)
  have e : s' = { s with heap := s'.heap, gens := s'.gens, drawn := s'.drawn, toks := s'.toks } := by
    cases s'
    cases s
    cases o
    rfl
  rw [e]
  exact ⟨.ref p, _, J, rfl, q L' p pm ((pm.map (·.2)).nodup_iff.mpr R.nd) hfew pw hn⟩
/-! ### plain: strictly sorted, none twice -/
def ltP (a b : P2) : Prop := a.1 < b.1 ∨ (a.1 = b.1 ∧ a.2 < b.2)
instance (a b : P2) : Decidable (ltP a b) := inferInstanceAs (Decidable (_ ∨ _))
def insS (a : P2) : List P2 → List P2
  | [] => [a]
  | b :: r => if ltP a b then a :: b :: r else if a = b then b :: r else b :: insS a r
def ssP : List P2 → List P2
  | [] => []
  | a :: r => insS a (ssP r)
theorem ltP_tri (a b : P2) : ltP a b ∨ a = b ∨ ltP b a := by
  unfold ltP
  rcases Int.lt_trichotomy a.1 b.1 with h | h | h
  · exact .inl (.inl h)
  · rcases Int.lt_trichotomy a.2 b.2 with k | k | k
    · exact .inl (.inr ⟨h, k⟩)
    · exact .inr (.inl (Prod.ext h k))
    · exact .inr (.inr (.inr ⟨h.symm, k⟩))
  · exact .inr (.inr (.inl h))
theorem ltP_irr (a : P2) : ¬ ltP a a := by unfold ltP; omega
theorem ltP_tr {a b c : P2} (h : ltP a b) (k : ltP b c) : ltP a c := by unfold ltP at *; omega
theorem insS_mem (a x : P2) : ∀ l : List P2, x ∈ insS a l ↔ x = a ∨ x ∈ l
  | [] => by simp [insS]
  | b :: r => by
    unfold insS
    split
    · simp
    · split
      · rename_i e; subst e; simp
      · rw [List.mem_cons, insS_mem a x r, List.mem_cons]
        constructor
        · rintro (h | h | h)
          · exact .inr (.inl h)
          · exact .inl h
          · exact .inr (.inr h)
        · rintro (h | h | h)
          · exact .inr (.inl h)
          · exact .inl h
          · exact .inr (.inr h)
theorem insS_pw (a : P2) : ∀ {l : List P2}, l.Pairwise ltP → (insS a l).Pairwise ltP
  | [], _ => .cons (fun _ h => by cases h) .nil
  | b :: r, h => by
    unfold insS
    split
    · rename_i hab
      refine .cons (fun q hq => ?_) h
      rcases List.mem_cons.mp hq with rfl | hq
      · exact hab
      · exact ltP_tr hab (List.rel_of_pairwise_cons h hq)
    · split
      · exact h
      · rename_i h1 h2
        refine .cons (fun q hq => ?_) (insS_pw a h.of_cons)
        rcases (insS_mem a q r).mp hq with rfl | hq
        · rcases ltP_tri q b with z | z | z
          · exact absurd z h1
          · exact absurd z h2
          · exact z
        · exact List.rel_of_pairwise_cons h hq
theorem ssP_mem (x : P2) : ∀ l : List P2, x ∈ ssP l ↔ x ∈ l
  | [] => Iff.rfl
  | a :: r => by
    show x ∈ insS a (ssP r) ↔ _
    rw [insS_mem, ssP_mem x r, List.mem_cons]
theorem ssP_pw : ∀ l : List P2, (ssP l).Pairwise ltP
  | [] => .nil
  | a :: r => insS_pw a (ssP_pw r)
theorem pw_ext {l m : List P2} (hl : l.Pairwise ltP) (hm : m.Pairwise ltP) (h : ∀ x, x ∈ l ↔ x ∈ m) : l = m := by
  have nd : ∀ {l : List P2}, l.Pairwise ltP → l.Nodup := fun h => List.Pairwise.imp (S := fun a b => a ≠ b) (fun {a b} k e => ltP_irr a (by rw [← e] at k; exact k)) h
  have nl := nd hl
  have nm := nd hm
  exact List.Perm.eq_of_pairwise (fun a b _ _ h1 h2 => absurd (ltP_tr h1 h2) (ltP_irr a)) hl hm ((List.perm_ext_iff_of_nodup nl nm).mpr h)
theorem ssP_is {l m : List P2} (hm : m.Pairwise ltP) (h : ∀ x, x ∈ m ↔ x ∈ l) : m = ssP l := pw_ext hm (ssP_pw l) fun x => by rw [h, ssP_mem]
/-! ### the prim -/
def opSortedSet : D → Option D
  | .lst l => (pairsD l).bind fun ps => if ps.length < 64 then some (.lst ((ssP ps).map prD)) else none
  | _ => none
def sortedSetSyn : Scope → Expr → Option (List Expr) := fun sc e => match e with
  | .Call (.Name x _) [.Call (.Name y _) [a] [] _] [] _ => if (decide (x = "sorted") && glB sc x) && (decide (y = "set") && glB sc y) then some [a] else none
  | _ => none
def pSortedSet : Prim := { syn := sortedSetSyn, sem := one1 opSortedSet }
theorem refs_of {K : PySem.W.Frag} {M : Mk} {H : Hp} : ∀ {xs : List V} {ps : List P2}, RepAll K M H xs (ps.map prD) → ∃ ks : List (Addr × List Int), xs = ks.map (fun p => V.ref p.1) ∧ ks.map (fun p => p.2) = ps.map (fun p => [p.1, p.2]) ∧ ∀ k ∈ ks, SqT K H k.1 (k.2.map V.int) ∧ k.2.length = 2 ∧ Rep K M H (.ref k.1) (prD (k2 k.2))
  | [], [], _ => ⟨[], rfl, rfl, fun _ h => by cases h⟩
  | x :: xs, p :: ps, .cons r rs => by
    obtain ⟨t, e, h, n⟩ := rep_pair r
    obtain ⟨ks, e1, e2, h3⟩ := refs_of rs
    subst e
    refine ⟨(t, [p.1, p.2]) :: ks, by rw [List.map_cons, e1], by rw [List.map_cons, e2]; rfl, fun k hk => ?_⟩
    rcases List.mem_cons.mp hk with rfl | hk
    · exact ⟨SqT.of h, rfl, r⟩
    · exact h3 k hk
theorem sortedSetG : PrimG pSortedSet := by
  intro X k W xo
  have main : ∀ {e : Expr} {es : List Expr} {ms : List (En → Res D)}, sortedSetSyn X.env.scope e = some es → PEs X W es ms → ∃ a b pos, e = .Call a b [] pos ∧ PE X e (tS X W fun ρ => (seqM ms ρ).bind fun ds => ofO (one1 opSortedSet ds)) := by
    intro e es ms h hp
    unfold sortedSetSyn at h
    split at h
    · rename_i x p y p2 a q pos
      split at h
      · rename_i hg
        cases h
        rw [Bool.and_eq_true, Bool.and_eq_true, Bool.and_eq_true, decide_eq_true_eq, decide_eq_true_eq] at hg
        obtain ⟨⟨rfl, g1⟩, rfl, g2⟩ := hg
        obtain ⟨ma, rfl, h1, n1⟩ := one_pes hp
        refine ⟨_, _, pos, rfl, pe_weak (pe_callB (cr_sortedP xo.calm) (gl_of g1) (xo.bf _ (by decide)) (by decide +kernel) (pa_cons (pe_callTy (cr_setOfT xo.calm xo.room.units) (gl_of g2) (xo.bf _ (by decide)) (by decide +kernel) (pa_cons h1 pa_nil (star_of n1 [] X.env)) (by decide) (by decide) (star_of n1 [] X.env) rfl) pa_nil rfl) (by decide) (by decide) rfl rfl) fun σ H Q q => ?_⟩
        refine w_1 (r := fun x H Q => rSetOfT X.K X.prog X.w [x] H fun y H1 => rSortedP X.K X.prog X.w [y] H1 Q) (fun M H x d1 d dm r1 e k => ?_) q
        have e' : opSortedSet d1 = some d := e
        cases d1 with
        | lst l =>
          cases r1 with
          | @lst b vs _ s n ra =>
            have e2 : ((pairsD l).bind fun ps => if ps.length < 64 then some (D.lst ((ssP ps).map prD)) else none) = some d := e'
            cases e3 : pairsD l with
            | none => rw [e3] at e2; cases e2
            | some ps =>
              rw [e3] at e2
              have e4 : (if ps.length < 64 then some (D.lst ((ssP ps).map prD)) else none) = some d := e2
              split at e4
              · rename_i hl
                cases e4
                have el := pairsD_is e3
                subst el
                obtain ⟨ks, k1, k2', k3⟩ := refs_of ra
                subst k1
                have kl : ks.length = ps.length := by
                  have := congrArg List.length k2'
                  simpa using this
                refine ⟨b, ks, rfl, SqL.of s, fun p hp => (k3 p hp).1, by omega, fun a L ha hL hA => ?_⟩
                have same1 : Same X.K H (upd H a (SetTO X.prog X.w a L)) := same_new ha
                refine ⟨a, L, rfl, upd_same, fun p hp => ?_, fun p hp => (k3 p (hL p hp)).2.1, fun L' p pm nd hlt pw hn => ?_⟩
                · have := (k3 p (hL p hp)).1
                  rcases this with (z | ⟨o, z⟩) | z
                  · exact .inl (.inl (same1.get _ _ z))
                  · exact .inl (.inr ⟨o, same1.get _ _ z⟩)
                  · exact .inr z
                · have same2 := same_new (K := X.K) (o := .lst (L'.map fun q => V.ref q.1)) hn
                  have np : Fr H p := same1.free (Fr.of hn)
                  have eq : ssP ps = L'.map fun q => k2 q.2 := by
                    refine (ssP_is ?_ fun x => ?_).symm
                    · rw [List.pairwise_map]
                      have nd' : L'.Pairwise fun q r => q.2 ≠ r.2 := List.pairwise_map.mp nd
                      refine List.Pairwise.imp_of_mem (fun {q r} hq hr hh => ?_) (pw.and nd')
                      obtain ⟨h1, h2⟩ := hh
                      rw [SrtO.lexB_iff] at h1
                      have lq := (k3 q (hL q (pm.mem_iff.mp hq))).2.1
                      have lr := (k3 r (hL r (pm.mem_iff.mp hr))).2.1
                      rcases ltP_tri (k2 q.2) (k2 r.2) with z | z | z
                      · exact z
                      · refine absurd ?_ h2
                        have two : ∀ l : List Int, l.length = 2 → l = [(k2 l).1, (k2 l).2] := fun l hl => by
                          match l, hl with
                          | [a, b], _ => rfl
                        rw [two q.2 lq, two r.2 lr, z]
                      · exact absurd z h1
                    · constructor
                      · intro hx
                        obtain ⟨q, hq, rfl⟩ := List.mem_map.mp hx
                        have mk : q.2 ∈ ks.map (fun p => p.2) := List.mem_map.mpr ⟨q, hL q (pm.mem_iff.mp hq), rfl⟩
                        rw [k2'] at mk
                        obtain ⟨p', hp', e5⟩ := List.mem_map.mp mk
                        rw [← e5]; exact hp'
                      · intro hx
                        have mk : [x.1, x.2] ∈ ks.map (fun p => p.2) := by rw [k2']; exact List.mem_map.mpr ⟨x, hx, rfl⟩
                        obtain ⟨q, hq, e5⟩ := List.mem_map.mp mk
                        obtain ⟨q', hq', e6⟩ := List.mem_map.mp (hA q hq)
                        refine List.mem_map.mpr ⟨q', pm.mem_iff.mpr hq', ?_⟩
                        rw [e6, e5]; rfl
                  refine k _ _ (same1.trans same2) (.lst upd_same (dm.fresh np) ?_)
                  rw [eq]
                  have all : ∀ {m : List (Addr × List Int)}, (∀ q ∈ m, q ∈ ks) → RepAll X.K M H (m.map fun q => V.ref q.1) ((m.map fun q => k2 q.2).map prD) := by
                    intro m
                    induction m with
                    | nil => intro _; exact .nil
                    | cons q m ih => intro hm; exact .cons (k3 q (hm q List.mem_cons_self)).2.2 (ih fun r hr => hm r (List.mem_cons_of_mem _ hr))
                  exact ((all fun q hq => hL q (pm.mem_iff.mp hq)).same same1).same same2
              · cases e4
        | _ => cases e'
      · cases h
    · cases h
  refine ⟨fun h hp => (main h hp).choose_spec.choose_spec.choose_spec.2, (fun z => nomatch z), fun {e es ms} h hp => ?_⟩
  obtain ⟨a, b, pos, rfl, pe⟩ := main h hp
  exact pt_of_pe pe (fun _ => rfl)
end PL

namespace PL
open PySem PySem.Spec PyProof.Rows L2
/-! ## x[a:b]; len(set(pairs)) -/
def slLUChk (a lo hi : E) : List Str → Scope → Expr → Bool := fun N sc e => match e with
  | .Subscript x (.Slice (some l) (some h) none _) _ => chk N sc a x && (chk N sc lo l && chk N sc hi h)
  | _ => false
def bnI : D → Res Int
  | .int i => .ok i
  | _ => .stuck
def aSlLU (a lo hi : E) : Atom := ⟨slLUChk a lo hi, fun ρ => (ev a ρ).bind fun x => ((ev lo ρ).bind bnI).bind fun i => ((ev hi ρ).bind bnI).bind fun j => ofO (opSl (some i) (some j) x)⟩
theorem slLUA {P : Str → (List D → Res D) → Prop} {C : Str → Cn → Prop} {a lo hi : E} (ga : good P C a) (gl : good P C lo) (gh : good P C hi) : AtomG P C (aSlLU a lo hi) := by
  intro X k W xo eP eC x hx
  subst eP; subst eC
  have main : ∃ u v pos, x = .Subscript u v pos ∧ PE X x (tS X W (aSlLU a lo hi).sem) := by
    unfold aSlLU slLUChk at hx
    dsimp only at hx
    split at hx
    · rename_i u l h p2 pos
      rw [Bool.and_eq_true, Bool.and_eq_true] at hx
      obtain ⟨c1, c2, c3⟩ := hx
      refine ⟨u, _, pos, rfl, pe_weak (pe_slice sl_D (snd_e a xo ga u c1).pe (po_some (snd_e lo xo gl l c2).pe) (po_some (snd_e hi xo gh h c3).pe)) fun σ H Q q => ?_⟩
      obtain ⟨M, ρ, dm, re, o⟩ := q
      refine ⟨M, ρ, dm, re, ?_⟩
      have o : OutE X W M σ H Q ((ev a ρ).bind fun x => ((ev lo ρ).bind bnI).bind fun i => ((ev hi ρ).bind bnI).bind fun j => ofO (opSl (some i) (some j) x)) := o
      cases e1 : ev a ρ with
      | exc c => rw [e1] at o; exact o
      | stuck => rw [e1] at o; exact o
      | ok d1 =>
        rw [e1] at o
        intro x H1 s1 r1
        refine ⟨M, ρ, dm.mono s1, re.same s1, ?_⟩
        cases e2 : ev lo ρ with
        | exc c => rw [e2] at o; exact fun H' s' => o H' (s1.trans s')
        | stuck => rw [e2] at o; exact o
        | ok d2 =>
          rw [e2] at o
          intro y H2 s2 r2
          cases d2 with
          | int i =>
            cases r2
            refine ⟨i, rfl, M, ρ, (dm.mono s1).mono s2, (re.same s1).same s2, ?_⟩
            cases e3 : ev hi ρ with
            | exc c => rw [e3] at o; exact fun H' s' => o H' ((s1.trans s2).trans s')
            | stuck => rw [e3] at o; exact o
            | ok d3 =>
              rw [e3] at o
              intro z H3 s3 r3
              cases d3 with
              | int j =>
                cases r3
                have o' : OutE X W M σ H Q (ofO (opSl (some i) (some j) d1)) := o
                cases e4 : opSl (some i) (some j) d1 with
                | none => rw [e4] at o'; exact o'.elim
                | some d =>
                  rw [e4] at o'
                  exact ⟨j, rfl, sl_w (((dm.mono s1).mono s2).mono s3) ((r1.same s2).same s3) e4 fun v H' s' rv => o' v H' (((s1.trans s2).trans s3).trans s') rv⟩
              | _ => exact o.elim
          | _ => exact o.elim
    · cases hx
  obtain ⟨u, v, pos, rfl, pe⟩ := main
  exact ⟨pe, pt_of_pe pe (fun _ => rfl)⟩
theorem eslLU {a lo hi : E} {ρ : En} {x d : D} {i j : Int} (h1 : ev a ρ = .ok x) (h2 : ev lo ρ = .ok (.int i)) (h3 : ev hi ρ = .ok (.int j)) (h : opSl (some i) (some j) x = some d) : ev (.atom (aSlLU a lo hi)) ρ = .ok d := by
  show (ev a ρ).bind (fun x => ((ev lo ρ).bind bnI).bind fun i => ((ev hi ρ).bind bnI).bind fun j => ofO (opSl (some i) (some j) x)) = _
  rw [h1, h2, h3]
  show ofO (opSl (some i) (some j) x) = _
  rw [h]; rfl
/-! len(set(xs)), xs a list of pairs -/
def rLenT (P : Program) (w : World) : List V → Hp → VK → Prop := fun vs H Q => ∃ (a : Addr) (L : List (Addr × List Int)), vs = [V.ref a] ∧ H a = some (SetTO P w a L) ∧ ((L.map (·.2)).Nodup → L.length < 64 → Q (.int (L.length : Nat)) H)
theorem cr_lenT {X : Cx} : CallR X (.builtin "len") (rLenT X.prog X.w) := by
  intro pins s σ H vs us Q I r h
  obtain ⟨a, L, rfl, ha, q⟩ := h
  have R0 : SetT0 X.prog X.w s.heap a L := (I.hok a _ ha).1
  rw [Vals.ref1 r]
  obtain ⟨es, ep, t, ⟨o, ho, hex, hd⟩, h2, h3, h4, h5, h6, h7, h8⟩ := R0.ex
  have hsz : es.size = L.length := by
    have h := congrArg List.length h2
    unfold rowsOf at h
    rw [Array.length_toList, List.length_map] at h
    exact h
  have hf : t.fits es.size = true := by
    have g1 := h3.sz
    rw [List.length_map] at g1
    unfold SetTable.fits SetTable.fill
    rw [h3.dm, Bool.and_eq_true, beq_iff_eq, decide_eq_true_eq]
    show t.place.size = es.size ∧ t.place.size + 0 ≤ t.mask
    omega
  refine call_len_set ho hex hd hf (by rw [hsz]; omega) ⟨.int (L.length : Nat), H, I.tok _, ⟨_, by rw [hsz]⟩, q h4 h8⟩
def opLenSetP : D → Option D
  | .lst l => (pairsD l).bind fun ps => if ps.length < 64 then some (.int ((ssP ps).length : Nat)) else none
  | _ => none
def pLenSetP : Prim := { syn := lenSetSyn, sem := one1 opLenSetP }
theorem ss_len {ps : List P2} {ks L : List (Addr × List Int)} (h1 : ks.map (fun p => p.2) = ps.map (fun p => [p.1, p.2])) (hL : ∀ p ∈ L, p ∈ ks) (hA : ∀ p ∈ ks, p.2 ∈ L.map (·.2)) (nd : (L.map (·.2)).Nodup) : L.length = (ssP ps).length := by
  have n2 : ((ssP ps).map fun p : P2 => [p.1, p.2]).Nodup := by
    refine List.pairwise_map.mpr ((ssP_pw ps).imp fun {a b} k e => ?_)
    injection e with e1 e2
    injection e2 with e2 _
    have : a = b := Prod.ext e1 e2
    rw [this] at k
    exact ltP_irr b k
  have pm : (L.map (·.2)).Perm ((ssP ps).map fun p : P2 => [p.1, p.2]) := by
    refine (List.perm_ext_iff_of_nodup nd n2).mpr fun x => ?_
    constructor
    · intro hx
      obtain ⟨q, hq, rfl⟩ := List.mem_map.mp hx
      have mk : q.2 ∈ ks.map (fun p => p.2) := List.mem_map.mpr ⟨q, hL q hq, rfl⟩
      rw [h1] at mk
      obtain ⟨p, hp, e⟩ := List.mem_map.mp mk
      exact List.mem_map.mpr ⟨p, (ssP_mem p ps).mpr hp, e⟩
    · intro hx
      obtain ⟨p, hp, rfl⟩ := List.mem_map.mp hx
      have mk : [p.1, p.2] ∈ ks.map (fun p => p.2) := by rw [h1]; exact List.mem_map.mpr ⟨p, (ssP_mem p ps).mp hp, rfl⟩
      obtain ⟨q, hq, e⟩ := List.mem_map.mp mk
      have := hA q hq
      rw [e] at this
      exact this
  have := pm.length_eq
  rw [List.length_map, List.length_map] at this
  exact this
theorem lenSetPG : PrimG pLenSetP := by
  intro X k W xo
  have main : ∀ {e : Expr} {es : List Expr} {ms : List (En → Res D)}, lenSetSyn X.env.scope e = some es → PEs X W es ms → ∃ a b pos, e = .Call a b [] pos ∧ PE X e (tS X W fun ρ => (seqM ms ρ).bind fun ds => ofO (one1 opLenSetP ds)) := by
    intro e es ms h hp
    unfold lenSetSyn at h
    split at h
    · rename_i x p y p2 a q pos
      split at h
      · rename_i hg
        cases h
        rw [Bool.and_eq_true, Bool.and_eq_true, Bool.and_eq_true, decide_eq_true_eq, decide_eq_true_eq] at hg
        obtain ⟨⟨rfl, g1⟩, rfl, g2⟩ := hg
        obtain ⟨ma, rfl, h1, n1⟩ := one_pes hp
        refine ⟨_, _, pos, rfl, pe_weak (pe_callB cr_lenT (gl_of g1) (xo.bf _ (by decide)) (by decide +kernel) (pa_cons (pe_callTy (cr_setOfT xo.calm xo.room.units) (gl_of g2) (xo.bf _ (by decide)) (by decide +kernel) (pa_cons h1 pa_nil (star_of n1 [] X.env)) (by decide) (by decide) (star_of n1 [] X.env) rfl) pa_nil rfl) (by decide) (by decide) rfl rfl) fun σ H Q q => ?_⟩
        refine w_1 (r := fun x H Q => rSetOfT X.K X.prog X.w [x] H fun y H1 => rLenT X.prog X.w [y] H1 Q) (fun M H x d1 d dm r1 e k => ?_) q
        have e' : opLenSetP d1 = some d := e
        cases d1 with
        | lst l =>
          cases r1 with
          | @lst b vs _ s n ra =>
            have e2 : ((pairsD l).bind fun ps => if ps.length < 64 then some (D.int ((ssP ps).length : Nat)) else none) = some d := e'
            cases e3 : pairsD l with
            | none => rw [e3] at e2; cases e2
            | some ps =>
              rw [e3] at e2
              have e4 : (if ps.length < 64 then some (D.int ((ssP ps).length : Nat)) else none) = some d := e2
              split at e4
              · rename_i hl
                cases e4
                have el := pairsD_is e3
                subst el
                obtain ⟨ks, k1, k2', k3⟩ := refs_of ra
                subst k1
                have kl : ks.length = ps.length := by
                  have := congrArg List.length k2'
                  simpa using this
                refine ⟨b, ks, rfl, SqL.of s, fun p hp => (k3 p hp).1, by omega, fun a L ha hL hA => ?_⟩
                refine ⟨a, L, rfl, upd_same, fun nd hlt => ?_⟩
                rw [ss_len k2' hL hA nd]
                exact k _ _ (same_new ha) (.int _)
              · cases e4
        | _ => cases e'
      · cases h
    · cases h
  refine ⟨fun h hp => (main h hp).choose_spec.choose_spec.choose_spec.2, (fun z => nomatch z), fun {e es ms} h hp => ?_⟩
  obtain ⟨a, b, pos, rfl, pe⟩ := main h hp
  exact pt_of_pe pe (fun _ => rfl)
theorem lenSetP_ok {ps : List P2} (h : ps.length < 64) : opLenSetP (.lst (ps.map prD)) = some (.int ((ssP ps).length : Nat)) := by
  show ((pairsD (ps.map prD)).bind fun ps => if ps.length < 64 then some (D.int ((ssP ps).length : Nat)) else none) = _
  rw [pairsD_map]
  show (if ps.length < 64 then some (D.int ((ssP ps).length : Nat)) else none) = _
  rw [if_pos h]
end PL

namespace PL
open PySem PySem.Spec PyProof.Rows L2
/-! ## texts of the program that many laws reach -/
def b_bend_at : S :=
  (.cons (.ite (.or (.prim pEq (.cons (.v 0) (.cons (.v 1) .nil))) (.prim pEq (.cons (.v 1) (.cons (.v 2) .nil))))
  (.cons (.ret (.c (.str "rest")))
  .nil)
  .nil)
  (.cons (.set true 3 (.call "crossed" f_crossed (.cons (.v 0) (.cons (.v 1) (.cons (.v 2) .nil)))))
  (.cons (.ite (.prim pNe (.cons (.v 3) (.cons (.c (.int 0)) .nil)))
  (.cons (.ret (.ite (.prim pGt (.cons (.v 3) (.cons (.c (.int 0)) .nil))) (.c (.str "left")) (.c (.str "right"))))
  .nil)
  .nil)
  (.cons (.set true 4 (.prim pAdd (.cons (.prim pMul (.cons (.prim pSub (.cons (.prim pIx (.cons (.v 1) (.cons (.c (.int 0)) .nil))) (.cons (.prim pIx (.cons (.v 0) (.cons (.c (.int 0)) .nil))) .nil))) (.cons (.prim pSub (.cons (.prim pIx (.cons (.v 2) (.cons (.c (.int 0)) .nil))) (.cons (.prim pIx (.cons (.v 1) (.cons (.c (.int 0)) .nil))) .nil))) .nil))) (.cons (.prim pMul (.cons (.prim pSub (.cons (.prim pIx (.cons (.v 1) (.cons (.c (.int 1)) .nil))) (.cons (.prim pIx (.cons (.v 0) (.cons (.c (.int 1)) .nil))) .nil))) (.cons (.prim pSub (.cons (.prim pIx (.cons (.v 2) (.cons (.c (.int 1)) .nil))) (.cons (.prim pIx (.cons (.v 1) (.cons (.c (.int 1)) .nil))) .nil))) .nil))) .nil))))
  (.cons (.ret (.ite (.prim pGt (.cons (.v 4) (.cons (.c (.int 0)) .nil))) (.c (.str "on")) (.c (.str "back"))))
  .nil)))))
def f_bend_at : List D → Res D := callD 5 3 b_bend_at
def b_bends : S :=
  (.cons (.expr (.call "look_track" f_look_track (.cons (.v 0) .nil)))
  (.cons (.set true 1 (.call "places_of" f_places_of (.cons (.v 0) .nil)))
  (.cons (.ret (.comp [("at", 2)] (.name 2) (.rng (.cons (.c (.int 1)) (.cons (.prim pSub (.cons (.prim pLen (.cons (.v 1) .nil)) (.cons (.c (.int 1)) .nil))) .nil))) .none (.call "bend_at" f_bend_at (.cons (.prim pIx (.cons (.v 1) (.cons (.prim pSub (.cons (.v 2) (.cons (.c (.int 1)) .nil))) .nil))) (.cons (.prim pIx (.cons (.v 1) (.cons (.v 2) .nil))) (.cons (.prim pIx (.cons (.v 1) (.cons (.prim pAdd (.cons (.v 2) (.cons (.c (.int 1)) .nil))) .nil))) .nil))))))
  .nil)))
def f_bends : List D → Res D := callD 3 1 b_bends
def b_twice_area : S :=
  (.cons (.expr (.call "look_track" f_look_track (.cons (.v 0) .nil)))
  (.cons (.set true 1 (.call "places_of" f_places_of (.cons (.v 0) .nil)))
  (.cons (.ret (.prim pSum (.cons (.comp [("one", 2), ("other", 3)] (.tup [2, 3]) (.zip (.v 1) (.prim pAdd (.cons (.prim pSlL (.cons (.v 1) (.cons (.c (.int 1)) .nil))) (.cons (.prim pSlU (.cons (.v 1) (.cons (.c (.int 1)) .nil))) .nil)))) .none (.prim pSub (.cons (.prim pMul (.cons (.prim pIx (.cons (.v 2) (.cons (.c (.int 0)) .nil))) (.cons (.prim pIx (.cons (.v 3) (.cons (.c (.int 1)) .nil))) .nil))) (.cons (.prim pMul (.cons (.prim pIx (.cons (.v 2) (.cons (.c (.int 1)) .nil))) (.cons (.prim pIx (.cons (.v 3) (.cons (.c (.int 0)) .nil))) .nil))) .nil)))) .nil)))
  .nil)))
def f_twice_area : List D → Res D := callD 4 1 b_twice_area
def b_is_on : S :=
  (.cons (.set true 3 (.chain .LtE .LtE opLe opLe (.prim pMin2 (.cons (.prim pIx (.cons (.v 0) (.cons (.c (.int 0)) .nil))) (.cons (.prim pIx (.cons (.v 1) (.cons (.c (.int 0)) .nil))) .nil))) (.prim pIx (.cons (.v 2) (.cons (.c (.int 0)) .nil))) (.prim pMax2 (.cons (.prim pIx (.cons (.v 0) (.cons (.c (.int 0)) .nil))) (.cons (.prim pIx (.cons (.v 1) (.cons (.c (.int 0)) .nil))) .nil)))))
  (.cons (.ret (.and (.v 3) (.chain .LtE .LtE opLe opLe (.prim pMin2 (.cons (.prim pIx (.cons (.v 0) (.cons (.c (.int 1)) .nil))) (.cons (.prim pIx (.cons (.v 1) (.cons (.c (.int 1)) .nil))) .nil))) (.prim pIx (.cons (.v 2) (.cons (.c (.int 1)) .nil))) (.prim pMax2 (.cons (.prim pIx (.cons (.v 0) (.cons (.c (.int 1)) .nil))) (.cons (.prim pIx (.cons (.v 1) (.cons (.c (.int 1)) .nil))) .nil))))))
  .nil))
def f_is_on : List D → Res D := callD 4 3 b_is_on
def b_have_common : S :=
  (.cons (.own true 4 (.prim pLst (.cons (.call "crossed" f_crossed (.cons (.v 0) (.cons (.v 1) (.cons (.v 2) .nil)))) (.cons (.call "crossed" f_crossed (.cons (.v 0) (.cons (.v 1) (.cons (.v 3) .nil)))) .nil))))
  (.cons (.extd true 4 (.prim pLst (.cons (.call "crossed" f_crossed (.cons (.v 2) (.cons (.v 3) (.cons (.v 0) .nil)))) (.cons (.call "crossed" f_crossed (.cons (.v 2) (.cons (.v 3) (.cons (.v 1) .nil)))) .nil))))
  (.frz 4 (.cons (.set true 5 (.comp [("side", 7)] (.name 7) (.seq (.v 4)) .none (.prim pSub (.cons (.prim pInt (.cons (.prim pGt (.cons (.v 7) (.cons (.c (.int 0)) .nil))) .nil)) (.cons (.prim pInt (.cons (.prim pLt (.cons (.v 7) (.cons (.c (.int 0)) .nil))) .nil)) .nil)))))
  (.cons (.ite (.and (.prim pLt (.cons (.prim pMul (.cons (.prim pIx (.cons (.v 5) (.cons (.c (.int 0)) .nil))) (.cons (.prim pIx (.cons (.v 5) (.cons (.c (.int 1)) .nil))) .nil))) (.cons (.c (.int 0)) .nil))) (.prim pLt (.cons (.prim pMul (.cons (.prim pIx (.cons (.v 5) (.cons (.c (.int 2)) .nil))) (.cons (.prim pIx (.cons (.v 5) (.cons (.c (.int 3)) .nil))) .nil))) (.cons (.c (.int 0)) .nil))))
  (.cons (.ret (.c (.bl true)))
  .nil)
  .nil)
  (.cons (.own true 6 (.prim pLst (.cons (.and (.prim pEq (.cons (.prim pIx (.cons (.v 5) (.cons (.c (.int 0)) .nil))) (.cons (.c (.int 0)) .nil))) (.call "is_on" f_is_on (.cons (.v 0) (.cons (.v 1) (.cons (.v 2) .nil))))) (.cons (.and (.prim pEq (.cons (.prim pIx (.cons (.v 5) (.cons (.c (.int 1)) .nil))) (.cons (.c (.int 0)) .nil))) (.call "is_on" f_is_on (.cons (.v 0) (.cons (.v 1) (.cons (.v 3) .nil))))) .nil))))
  (.cons (.extd true 6 (.prim pLst (.cons (.and (.prim pEq (.cons (.prim pIx (.cons (.v 5) (.cons (.c (.int 2)) .nil))) (.cons (.c (.int 0)) .nil))) (.call "is_on" f_is_on (.cons (.v 2) (.cons (.v 3) (.cons (.v 0) .nil))))) (.cons (.and (.prim pEq (.cons (.prim pIx (.cons (.v 5) (.cons (.c (.int 3)) .nil))) (.cons (.c (.int 0)) .nil))) (.call "is_on" f_is_on (.cons (.v 2) (.cons (.v 3) (.cons (.v 1) .nil))))) .nil))))
  (.cons (.ret (.prim pAny (.cons (.v 6) .nil)))
  .nil))))))))
def f_have_common : List D → Res D := callD 8 4 b_have_common
def b_crossings : S :=
  (.cons (.expr (.call "look_track" f_look_track (.cons (.v 0) .nil)))
  (.cons (.set true 1 (.call "places_of" f_places_of (.cons (.v 0) .nil)))
  (.cons (.own true 2 (.prim pLst .nil))
  (.cons (.for_ (.name 3) (.rng (.cons (.prim pSub (.cons (.prim pLen (.cons (.v 1) .nil)) (.cons (.c (.int 1)) .nil))) .nil))
  (.cons (.for_ (.name 4) (.rng (.cons (.prim pAdd (.cons (.v 3) (.cons (.c (.int 2)) .nil))) (.cons (.prim pSub (.cons (.prim pLen (.cons (.v 1) .nil)) (.cons (.c (.int 1)) .nil))) .nil)))
  (.cons (.ite (.call "have_common" f_have_common (.cons (.prim pIx (.cons (.v 1) (.cons (.v 3) .nil))) (.cons (.prim pIx (.cons (.v 1) (.cons (.prim pAdd (.cons (.v 3) (.cons (.c (.int 1)) .nil))) .nil))) (.cons (.prim pIx (.cons (.v 1) (.cons (.v 4) .nil))) (.cons (.prim pIx (.cons (.v 1) (.cons (.prim pAdd (.cons (.v 4) (.cons (.c (.int 1)) .nil))) .nil))) .nil)))))
  (.cons (.app true 2 (.prim pTup (.cons (.v 3) (.cons (.v 4) .nil))))
  .nil)
  .nil)
  .nil))
  .nil))
  (.cons (.ret (.v 2))
  .nil)))))
def f_crossings : List D → Res D := callD 5 1 b_crossings
def b_half_hull : S :=
  (.cons (.own true 1 (.prim pLst .nil))
  (.cons (.for_ (.name 2) (.seq (.v 0))
  (.cons (.while_ 1000000000000000000000000000000000000000000000000000000000000000000000000000 (.and (.prim pGt (.cons (.prim pLen (.cons (.v 1) .nil)) (.cons (.c (.int 1)) .nil))) (.prim pLe (.cons (.call "crossed" f_crossed (.cons (.prim pIx (.cons (.v 1) (.cons (.prim pNeg (.cons (.c (.int 2)) .nil)) .nil))) (.cons (.prim pIx (.cons (.v 1) (.cons (.prim pNeg (.cons (.c (.int 1)) .nil)) .nil))) (.cons (.v 2) .nil)))) (.cons (.c (.int 0)) .nil))))
  (.cons (.pop 1)
  .nil))
  (.cons (.app true 1 (.v 2))
  .nil)))
  (.cons (.ret (.v 1))
  .nil)))
def f_half_hull : List D → Res D := callD 3 1 b_half_hull
def b_hull : S :=
  (.cons (.expr (.call "look_track" f_look_track (.cons (.v 0) .nil)))
  (.cons (.set true 1 (.prim pSortedSet (.cons (.call "places_of" f_places_of (.cons (.v 0) .nil)) .nil)))
  (.cons (.ite (.prim pEq (.cons (.prim pLen (.cons (.v 1) .nil)) (.cons (.c (.int 1)) .nil)))
  (.cons (.ret (.v 1))
  .nil)
  .nil)
  (.cons (.ret (.prim pAdd (.cons (.prim pSlU (.cons (.call "half_hull" f_half_hull (.cons (.v 1) .nil)) (.cons (.prim pNeg (.cons (.c (.int 1)) .nil)) .nil))) (.cons (.prim pSlU (.cons (.call "half_hull" f_half_hull (.cons (.prim pRev (.cons (.v 1) .nil)) .nil)) (.cons (.prim pNeg (.cons (.c (.int 1)) .nil)) .nil))) .nil))))
  .nil))))
def f_hull : List D → Res D := callD 2 1 b_hull
def b_box : S :=
  (.cons (.expr (.call "look_track" f_look_track (.cons (.v 0) .nil)))
  (.cons (.set true 1 (.comp [("place", 2)] (.name 2) (.seq (.prim pTup (.cons (.c (.int 1)) (.cons (.c (.int 2)) .nil)))) .none (.comp [("point", 3)] (.name 3) (.seq (.v 0)) .none (.prim pIx (.cons (.v 3) (.cons (.v 2) .nil))))))
  (.cons (.ret (.prim pTup (.cons (.prim pMin1 (.cons (.prim pIx (.cons (.v 1) (.cons (.c (.int 0)) .nil))) .nil)) (.cons (.prim pMin1 (.cons (.prim pIx (.cons (.v 1) (.cons (.c (.int 1)) .nil))) .nil)) (.cons (.prim pMax1 (.cons (.prim pIx (.cons (.v 1) (.cons (.c (.int 0)) .nil))) .nil)) (.cons (.prim pMax1 (.cons (.prim pIx (.cons (.v 1) (.cons (.c (.int 1)) .nil))) .nil)) .nil))))))
  .nil)))
def f_box : List D → Res D := callD 4 1 b_box
end PL

namespace PL.B1
open PySem PySem.Spec PyProof.Rows L2 PL
/-! ## plain -/
def wordD (ux uy vx vy : Int) : Str := if (ux = 0 ∧ uy = 0) ∨ (vx = 0 ∧ vy = 0) then "rest" else if 0 < ux * vy - uy * vx then "left" else if ux * vy - uy * vx < 0 then "right" else if 0 < ux * vx + uy * vy then "on" else "back"
def word (a b c : P3) : Str := wordD (b.2.1 - a.2.1) (b.2.2 - a.2.2) (c.2.1 - b.2.1) (c.2.2 - b.2.2)
def wAt (l : List P3) (i : Nat) : Str := word (at3 l i) (at3 l (i + 1)) (at3 l (i + 2))
def bW (l : List P3) : List Str := (List.range (l.length - 2)).map (wAt l)
theorem word_is (ux uy vx vy : Int) : wordD ux uy vx vy = "rest" ∨ wordD ux uy vx vy = "left" ∨ wordD ux uy vx vy = "right" ∨ wordD ux uy vx vy = "on" ∨ wordD ux uy vx vy = "back" := by
  unfold wordD
  split
  · exact .inl rfl
  split
  · exact .inr (.inl rfl)
  split
  · exact .inr (.inr (.inl rfl))
  split
  · exact .inr (.inr (.inr (.inl rfl)))
  · exact .inr (.inr (.inr (.inr rfl)))
theorem word_sh (a b c : P3) : Sh 0 (.str (word a b c)) := by
  unfold word
  rcases word_is (b.2.1 - a.2.1) (b.2.2 - a.2.2) (c.2.1 - b.2.1) (c.2.2 - b.2.2) with h | h | h | h | h <;> rw [h] <;> exact ⟨rfl, by decide +kernel, Nat.le_refl 0⟩
def swapW (w : Str) : Str := if ("left" : Str) = w then "right" else if ("right" : Str) = w then "left" else w
theorem wordD_back (ux uy vx vy : Int) : wordD (-vx) (-vy) (-ux) (-uy) = swapW (wordD ux uy vx vy) := by
  have e1 : -vx * -uy - -vy * -ux = -(ux * vy - uy * vx) := by grind
  have e2 : -vx * -ux + -vy * -uy = ux * vx + uy * vy := by grind
  unfold wordD
  rw [e1, e2]
  generalize ux * vy - uy * vx = c
  generalize ux * vx + uy * vy = o
  by_cases z : (ux = 0 ∧ uy = 0) ∨ (vx = 0 ∧ vy = 0)
  · rw [if_pos z, if_pos (by omega)]; decide +kernel
  · rw [if_neg z, if_neg (by omega)]
    by_cases h1 : 0 < c
    · rw [if_neg (by omega), if_pos (by omega), if_pos h1]; decide +kernel
    · by_cases h2 : c < 0
      · rw [if_pos (by omega), if_neg h1, if_pos h2]; decide +kernel
      · rw [if_neg (by omega), if_neg (by omega), if_neg h1, if_neg h2]
        by_cases h3 : 0 < o
        · rw [if_pos h3]; decide +kernel
        · rw [if_neg h3]; decide +kernel
theorem wordD_turn (ux uy vx vy : Int) : wordD (-uy) ux (-vy) vx = wordD ux uy vx vy := by
  have e1 : -uy * vx - ux * -vy = ux * vy - uy * vx := by grind
  have e2 : -uy * -vy + ux * vx = ux * vx + uy * vy := by grind
  unfold wordD
  rw [e1, e2]
  have e3 : ((-uy = 0 ∧ ux = 0) ∨ (-vy = 0 ∧ vx = 0)) = ((ux = 0 ∧ uy = 0) ∨ (vx = 0 ∧ vy = 0)) := propext (by omega)
  simp only [e3]
theorem bW_map {l : List P3} (f : P3 → P3) (h : ∀ a b c, word (f a) (f b) (f c) = word a b c) : bW (l.map f) = bW l := by
  unfold bW
  rw [List.length_map]
  refine List.map_congr_left fun i hi => ?_
  have := List.mem_range.mp hi
  unfold wAt
  rw [at3_map f (by omega), at3_map f (by omega), at3_map f (by omega), h]
theorem bW_back {l : List P3} (f : P3 → P3) (h : ∀ p, (f p).2 = p.2) : bW (l.reverse.map f) = (bW l).reverse.map swapW := by
  unfold bW
  rw [List.length_map, List.length_reverse, ← List.map_reverse, List.map_map, ← PySem.W.krv_range, List.map_map]
  refine List.map_congr_left fun i hi => ?_
  have hi := List.mem_range.mp hi
  show wAt (l.reverse.map f) i = swapW (wAt l (l.length - 2 - 1 - i))
  unfold wAt
  rw [at3_map f (by rw [List.length_reverse]; omega), at3_map f (by rw [List.length_reverse]; omega), at3_map f (by rw [List.length_reverse]; omega), at3_rev (by omega), at3_rev (by omega), at3_rev (by omega)]
  have k1 : l.length - 1 - i = l.length - 2 - 1 - i + 2 := by omega
  have k2 : l.length - 1 - (i + 1) = l.length - 2 - 1 - i + 1 := by omega
  have k3 : l.length - 1 - (i + 2) = l.length - 2 - 1 - i := by omega
  rw [k1, k2, k3]
  generalize at3 l (l.length - 2 - 1 - i + 2) = c
  generalize at3 l (l.length - 2 - 1 - i + 1) = b
  generalize at3 l (l.length - 2 - 1 - i) = a
  unfold word
  rw [h, h, h, ← wordD_back]
  congr 1 <;> omega
/-! ## the walk -/
theorem eq_pl (a b : P3) : opEq (plD a) (plD b) = some (.bl (decide (b.2.1 - a.2.1 = 0 ∧ b.2.2 - a.2.2 = 0))) := by
  have s : ∀ p : P3, shp (plD p) = true := fun p => (Sh.tup (n := 0) fun d hd => by
    rcases List.mem_cons.mp hd with rfl | hd
    · exact Sh.int 0 _
    · rw [List.mem_singleton] at hd; rw [hd]; exact Sh.int 0 _).shp (by decide)
  unfold opEq
  rw [s, s]
  show some (D.bl ((a.2.1 == b.2.1) && ((a.2.2 == b.2.2) && true))) = _
  congr 2
  rw [Bool.and_true]
  by_cases h1 : a.2.1 = b.2.1
  · by_cases h2 : a.2.2 = b.2.2
    · rw [decide_eq_true (by omega), h1, h2]; simp
    · rw [decide_eq_false (by omega), beq_false_of_ne h2, Bool.and_false]
  · rw [decide_eq_false (by omega), beq_false_of_ne h1, Bool.false_and]
def Sm (p : P3) : Prop := -1000 ≤ p.2.1 ∧ p.2.1 ≤ 1000 ∧ -1000 ≤ p.2.2 ∧ p.2.2 ≤ 1000
theorem bend_ok {a b c : P3} (ha : Sm a) (hb : Sm b) (hc : Sm c) : f_bend_at [plD a, plD b, plD c] = .ok (.str (word a b c)) := by
  obtain ⟨a1, a2, a3, a4⟩ := ha
  obtain ⟨b1, b2, b3, b4⟩ := hb
  obtain ⟨c1, c2, c3, c4⟩ := hc
  have t1 := eorB (ρ := full (startS 5 [plD a, plD b, plD c])) (e2 (p := pEq) (a := .v 0) (b := .v 1) rfl rfl (eq_pl a b)) (e2 (p := pEq) (a := .v 1) (b := .v 2) rfl rfl (eq_pl b c))
  refine rcall rfl ?_
  unfold word wordD
  by_cases z : (b.2.1 - a.2.1 = 0 ∧ b.2.2 - a.2.2 = 0) ∨ (c.2.1 - b.2.1 = 0 ∧ c.2.2 - b.2.2 = 0)
  · rw [if_pos z]
    refine riteT (t1.trans ?_) (rret rfl)
    rw [← Bool.decide_or, decide_eq_true z]
  · rw [if_neg z]
    refine riteF (t1.trans ?_) ?_
    · rw [← Bool.decide_or, decide_eq_false z]
    have cr : f_crossed [plD a, plD b, plD c] = .ok (.int ((b.2.1 - a.2.1) * (c.2.2 - b.2.2) - (b.2.2 - a.2.2) * (c.2.1 - b.2.1))) := by
      refine (rcall rfl (rret (esub (emul (esub (e2 rfl ki rfl) (e2 rfl ki rfl)) (esub (e2 rfl ki rfl) (e2 rfl ki rfl)) (mul_small ?_)) (emul (esub (e2 rfl ki rfl) (e2 rfl ki rfl)) (esub (e2 rfl ki rfl) (e2 rfl ki rfl)) (mul_small ?_)))) : _ = Res.ok (D.int ((b.2.1 - a.2.1) * (c.2.2 - a.2.2) - (b.2.2 - a.2.2) * (c.2.1 - a.2.1)))).trans ?_
      · omega
      · omega
      · congr 2; grind
    refine rset (ec (lc rfl (lc rfl (lc rfl l0))) cr) rfl ?_
    generalize hs : (b.2.1 - a.2.1) * (c.2.2 - b.2.2) - (b.2.2 - a.2.2) * (c.2.1 - b.2.1) = s
    have t2 : ev (.prim pNe (.cons (.v 3) (.cons (.c (.int 0)) .nil))) (full [.ro (plD a), .ro (plD b), .ro (plD c), .ro (.int s), .no]) = .ok (.bl (!decide (s = 0))) := e2 rfl ki (neI s 0)
    have t3 : ev (.prim pGt (.cons (.v 3) (.cons (.c (.int 0)) .nil))) (full [.ro (plD a), .ro (plD b), .ro (plD c), .ro (.int s), .no]) = .ok (.bl (decide (s > 0))) := egt rfl ki
    by_cases h0 : s = 0
    · rw [decide_eq_true h0] at t2
      rw [if_neg (by omega), if_neg (by omega)]
      refine riteF t2 ?_
      refine rset (eadd (emul (esub (e2 rfl ki rfl) (e2 rfl ki rfl)) (esub (e2 rfl ki rfl) (e2 rfl ki rfl)) (mul_small ?_)) (emul (esub (e2 rfl ki rfl) (e2 rfl ki rfl)) (esub (e2 rfl ki rfl) (e2 rfl ki rfl)) (mul_small ?_))) rfl (rret ?_)
      · show -(2 ^ 64) < b.2.1 - a.2.1 ∧ b.2.1 - a.2.1 < 2 ^ 64; omega
      · show -(2 ^ 64) < b.2.2 - a.2.2 ∧ b.2.2 - a.2.2 < 2 ^ 64; omega
      · refine eite (egt rfl ki) ?_
        by_cases h3 : 0 < (b.2.1 - a.2.1) * (c.2.1 - b.2.1) + (b.2.2 - a.2.2) * (c.2.2 - b.2.2)
        · rw [if_pos h3, if_pos (decide_eq_true h3)]; rfl
        · rw [if_neg h3, if_neg (by rw [decide_eq_true_eq]; exact h3)]; rfl
    · rw [decide_eq_false h0] at t2
      refine riteT t2 (rret (eite t3 ?_))
      by_cases h1 : 0 < s
      · rw [if_pos h1, if_pos (decide_eq_true h1)]; rfl
      · have h2 : s < 0 := by omega
        rw [if_neg h1, if_pos h2, decide_eq_false h1]; rfl
theorem sm_of {l : List P3} (G : Good l) {i : Nat} (h : i < l.length) : Sm (at3 l i) := by
  have := G.mul h
  unfold InPt at this
  unfold Sm
  omega
theorem bends_ok {l : List P3} (G : Good l) : f_bends [trk l] = .ok (.lst ((bW l).map D.str)) := by
  have hl := G.le
  have h1 := G.ne
  refine (rcall rfl (rexpr (ec (lc rfl l0) (look_ok G)) (rset (ec (lc rfl l0) (places_ok l (by omega))) rfl (rret (ecomp (List.range (l.length - 2)) (fun (i : Nat) => D.int (1 + (i : Int))) (fun i => .str (wAt l i)) ?_ (by rw [List.length_range]; omega) ?_)))) : _ = Res.ok (D.lst ((List.range (l.length - 2)).map fun i => D.str (wAt l i)))).trans (by unfold bW; rw [List.map_map]; rfl)
  · refine irng (lc ki (lc (esub (e1 rfl rfl) ki) l0)) ?_
    show (if (okZ 1 && okZ (((l.map plD).length : Int) - 1)) = true then Res.ok (rangeD 1 (((l.map plD).length : Int) - 1)) else Res.stuck) = _
    rw [List.length_map]
    have : okZ ((l.length : Int) - 1) = true := by unfold okZ; rw [decide_eq_true (by omega), decide_eq_true (by omega)]; rfl
    rw [this]
    show Res.ok (rangeD 1 ((l.length : Int) - 1)) = _
    unfold rangeD
    have : ((l.length : Int) - 1 - 1).toNat = l.length - 2 := by omega
    rw [this]
  · intro i hi
    have hi := List.mem_range.mp hi
    refine ⟨_, rfl, ec (lc (e2 rfl (esub rfl ki) (ix_lst (i := i) (by omega) (at3_get (by omega)))) (lc (e2 rfl rfl (ix_lst (i := i + 1) (by omega) (at3_get (by omega)))) (lc (e2 rfl (eadd rfl ki) (ix_lst (i := i + 2) (by omega) (at3_get (by omega)))) l0))) (bend_ok (sm_of G (by omega)) (sm_of G (by omega)) (sm_of G (by omega)))⟩
theorem sh_ws (l : List P3) : Sh 1 (.lst ((bW l).map D.str)) := Sh.lst fun d hd => by
  obtain ⟨w, hw, rfl⟩ := List.mem_map.mp hd
  obtain ⟨i, _, rfl⟩ := List.mem_map.mp hw
  exact word_sh _ _ _
theorem ix_ptD {l : List P3} {j : Int} {i : Nat} (hj : j = (i : Int)) (h : i < l.length) : opIx (trk l) (.int j) = some (ptD (at3 l i)) := ix_tup hj (at3_get h)
theorem pt_tail (p : P3) : opSlL (ptD p) (.int 1) = some (plD p) := rfl
end PL.B1

namespace PL.B2
open PySem PySem.Spec PyProof.Rows L2 PL
/-! ## plain -/
def cr (a b : P3) : Int := a.2.1 * b.2.2 - a.2.2 * b.2.1
def det (f a b : P3) : Int := (a.2.1 - f.2.1) * (b.2.2 - f.2.2) - (a.2.2 - f.2.2) * (b.2.1 - f.2.1)
def segF (f : P3) : List P3 → Int
  | [] => 0
  | [z] => cr z f
  | a :: b :: r => cr a b + segF f (b :: r)
def dsum (f : P3) : List P3 → Int
  | a :: b :: r => det f a b + dsum f (b :: r)
  | _ => 0
def area : List P3 → Int
  | [] => 0
  | f :: r => segF f (f :: r)
theorem zip_sum (f : P3) : ∀ (a : P3) (r : List P3), (((a :: r).zip (r ++ [f])).map fun q => cr q.1 q.2).sum = segF f (a :: r)
  | a, [] => by show cr a f + 0 = cr a f; omega
  | a, b :: r => by
    show cr a b + (((b :: r).zip (r ++ [f])).map fun q => cr q.1 q.2).sum = _
    rw [zip_sum f b r]; rfl
theorem area_zip : ∀ l : List P3, 1 ≤ l.length → ((l.zip (l.drop 1 ++ l.take 1)).map fun q => cr q.1 q.2).sum = area l
  | [], h => absurd h (by decide)
  | f :: r, _ => zip_sum f f r
theorem det_cr (f a b : P3) : det f a b = cr a b + cr f a - cr f b := by unfold det cr; grind
theorem cr_anti (a b : P3) : cr a b = - cr b a := by unfold cr; grind
theorem dsum_seg (f : P3) : ∀ (a : P3) (r : List P3), dsum f (a :: r) = segF f (a :: r) + cr f a
  | z, [] => by show 0 = cr z f + cr f z; rw [cr_anti z f]; omega
  | a, b :: r => by
    show det f a b + dsum f (b :: r) = cr a b + segF f (b :: r) + cr f a
    rw [dsum_seg f b r, det_cr]; omega
theorem area_dsum : ∀ (f : P3) (r : List P3), area (f :: r) = dsum f r
  | f, [] => by show cr f f = 0; unfold cr; grind
  | f, a :: r => by
    show cr f a + segF f (a :: r) = _
    rw [dsum_seg]; omega
theorem area_turn (l : List P3) : area (l.map fun p => (p.1, 0 - p.2.2, p.2.1)) = area l := by
  have c : ∀ a b : P3, cr (a.1, 0 - a.2.2, a.2.1) (b.1, 0 - b.2.2, b.2.1) = cr a b := fun a b => by unfold cr; grind
  have s : ∀ (f : P3) (l : List P3), segF (f.1, 0 - f.2.2, f.2.1) (l.map fun p => (p.1, 0 - p.2.2, p.2.1)) = segF f l := by
    intro f l
    induction l with
    | nil => rfl
    | cons a r ih =>
      cases r with
      | nil => exact c a f
      | cons b r =>
        show cr (a.1, 0 - a.2.2, a.2.1) (b.1, 0 - b.2.2, b.2.1) + segF (f.1, 0 - f.2.2, f.2.1) ((b :: r).map fun p => (p.1, 0 - p.2.2, p.2.1)) = _
        rw [ih, c]; rfl
  cases l with
  | nil => rfl
  | cons f r => exact s f (f :: r)
theorem area_shift (l : List P3) (u v : Int) : area (l.map fun p => (p.1, p.2.1 + u, p.2.2 + v)) = area l := by
  have c : ∀ f a b : P3, det (f.1, f.2.1 + u, f.2.2 + v) (a.1, a.2.1 + u, a.2.2 + v) (b.1, b.2.1 + u, b.2.2 + v) = det f a b := fun f a b => by
    unfold det
    show (a.2.1 + u - (f.2.1 + u)) * (b.2.2 + v - (f.2.2 + v)) - (a.2.2 + v - (f.2.2 + v)) * (b.2.1 + u - (f.2.1 + u)) = _
    grind
  have s : ∀ (f : P3) (l : List P3), dsum (f.1, f.2.1 + u, f.2.2 + v) (l.map fun p => (p.1, p.2.1 + u, p.2.2 + v)) = dsum f l := by
    intro f l
    induction l with
    | nil => rfl
    | cons a r ih =>
      cases r with
      | nil => rfl
      | cons b r =>
        show det (f.1, f.2.1 + u, f.2.2 + v) (a.1, a.2.1 + u, a.2.2 + v) (b.1, b.2.1 + u, b.2.2 + v) + dsum (f.1, f.2.1 + u, f.2.2 + v) ((b :: r).map fun p => (p.1, p.2.1 + u, p.2.2 + v)) = _
        rw [ih, c]; rfl
  cases l with
  | nil => rfl
  | cons f r => rw [List.map_cons, area_dsum, area_dsum, s]
def hop : Option P3 → P3 → Int
  | some y, z => cr y z
  | none, _ => 0
def seg : List P3 → Int
  | a :: b :: r => cr a b + seg (b :: r)
  | _ => 0
theorem seg_cons (a : P3) (r : List P3) : seg (a :: r) = - hop r.head? a + seg r := by
  cases r with
  | nil => rfl
  | cons b r => show cr a b + _ = - cr b a + _; rw [cr_anti a b]
theorem seg_app (z : P3) : ∀ l : List P3, seg (l ++ [z]) = seg l + hop l.getLast? z
  | [] => rfl
  | [a] => by show cr a z + 0 = 0 + cr a z; omega
  | a :: b :: r => by
    show cr a b + seg ((b :: r) ++ [z]) = cr a b + seg (b :: r) + hop (a :: b :: r).getLast? z
    rw [seg_app z (b :: r), List.getLast?_cons_cons]; omega
theorem seg_rev : ∀ l : List P3, seg l.reverse = - seg l
  | [] => rfl
  | a :: r => by rw [List.reverse_cons, seg_app, seg_rev r, seg_cons, List.getLast?_reverse]; omega
theorem segF_seg (f : P3) : ∀ l : List P3, segF f l = seg l + hop l.getLast? f
  | [] => rfl
  | [a] => by show cr a f = 0 + cr a f; omega
  | a :: b :: r => by
    show cr a b + segF f (b :: r) = cr a b + seg (b :: r) + hop (a :: b :: r).getLast? f
    rw [segF_seg f (b :: r), List.getLast?_cons_cons]; omega
theorem area_seg {l : List P3} {a b : P3} (ha : l.head? = some a) (hb : l.getLast? = some b) : area l = seg l + cr b a := by
  cases l with
  | nil => cases ha
  | cons f r =>
    cases ha
    show segF a (a :: r) = _
    rw [segF_seg, hb]; rfl
theorem area_rev {l : List P3} {a b : P3} (ha : l.head? = some a) (hb : l.getLast? = some b) : area l.reverse = - area l := by
  rw [area_seg (a := b) (b := a) (by rw [List.head?_reverse]; exact hb) (by rw [List.getLast?_reverse]; exact ha), area_seg ha hb, seg_rev, cr_anti a b]; omega
theorem area_places (g : P3 → P3) (h : ∀ p, (g p).2 = p.2) (l : List P3) : area (l.map g) = area l := by
  have c : ∀ a b : P3, cr (g a) (g b) = cr a b := fun a b => by unfold cr; rw [h, h]
  have s : ∀ (f : P3) (l : List P3), segF (g f) (l.map g) = segF f l := by
    intro f l
    induction l with
    | nil => rfl
    | cons a r ih =>
      cases r with
      | nil => exact c a f
      | cons b r =>
        show cr (g a) (g b) + segF (g f) ((b :: r).map g) = _
        rw [ih, c]; rfl
  cases l with
  | nil => rfl
  | cons f r => exact s f (f :: r)
theorem dsum_cut (f b : P3) (ys : List P3) : ∀ xs : List P3, dsum f (xs ++ [b]) + dsum f (b :: ys) = dsum f (xs ++ b :: ys)
  | [] => by show 0 + _ = _; rw [Int.zero_add]; rfl
  | [a] => by show det f a b + 0 + dsum f (b :: ys) = det f a b + dsum f (b :: ys); omega
  | a :: c :: xs => by
    show det f a c + dsum f ((c :: xs) ++ [b]) + dsum f (b :: ys) = det f a c + dsum f ((c :: xs) ++ b :: ys)
    rw [← dsum_cut f b ys (c :: xs)]; omega
theorem area_cut {f : P3} {r : List P3} {c : Nat} (h1 : 1 ≤ c) (h2 : c ≤ r.length) : area ((f :: r).take (c + 1)) + area (f :: (f :: r).drop c) = area (f :: r) := by
  obtain ⟨d, rfl⟩ : ∃ d, c = d + 1 := ⟨c - 1, by omega⟩
  have hd : d < r.length := by omega
  rw [List.take_succ_cons, List.drop_succ_cons, area_dsum, area_dsum, area_dsum]
  have e1 : r.drop d = r[d] :: r.drop (d + 1) := List.drop_eq_getElem_cons hd
  have e2 : r.take (d + 1) = r.take d ++ [r[d]] := by rw [List.take_succ, List.getElem?_eq_getElem hd]; rfl
  have e3 : r = r.take d ++ r[d] :: r.drop (d + 1) := by rw [← e1, List.take_append_drop]
  rw [e2, e1, dsum_cut]
  exact congrArg (dsum f) e3.symm
/-! ## the walk -/
theorem two_ok {l : List P3} (G : Good l) : f_twice_area [trk l] = .ok (.int (area l)) := by
  have hl := G.le
  have h1 := G.ne
  have hm : ∀ q ∈ l.zip (l.drop 1 ++ l.take 1), InPt q.1 ∧ InPt q.2 := fun q hq => by
    obtain ⟨m1, m2⟩ := List.of_mem_zip (a := q.1) (b := q.2) hq
    refine ⟨G.pt _ m1, G.pt _ ?_⟩
    rcases List.mem_append.mp m2 with m | m
    · exact List.mem_of_mem_drop m
    · exact List.mem_of_mem_take m
  refine (rcall rfl (rexpr (ec (lc rfl l0) (look_ok G)) (rset (ec (lc rfl l0) (places_ok l (by omega))) rfl (rret (e1 (ecomp (l.zip (l.drop 1 ++ l.take 1)) (fun q : P3 × P3 => .tup [plD q.1, plD q.2]) (fun q : P3 × P3 => .int (cr q.1 q.2)) ?_ ?_ ?_) (sum_map (fun q : P3 × P3 => cr q.1 q.2) _))))) : _ = Res.ok (D.int ((l.zip (l.drop 1 ++ l.take 1)).map fun q : P3 × P3 => cr q.1 q.2).sum)).trans (by rw [area_zip l h1])
  · have ad : opAdd (.lst (cutG (l.map plD) (some ((1 : Nat) : Int)) none)) (.lst (cutG (l.map plD) none (some ((1 : Nat) : Int)))) = some (.lst ((l.drop 1 ++ l.take 1).map plD)) := by
      rw [cut_lo, cut_hi, ← List.map_drop, ← List.map_take]
      show (if (List.map plD (l.drop 1)).length + (List.map plD (l.take 1)).length ≤ sizeD then _ else _) = _
      rw [if_pos (by rw [List.length_map, List.length_map, List.length_drop, List.length_take]; unfold sizeD; omega), List.map_append]
    have q2 : ev (.prim pAdd (.cons (.prim pSlL (.cons (.v 1) (.cons (.c (.int 1)) .nil))) (.cons (.prim pSlU (.cons (.v 1) (.cons (.c (.int 1)) .nil))) .nil))) (full [.ro (trk l), .ro (.lst (l.map plD)), .no, .no]) = .ok (.lst ((l.drop 1 ++ l.take 1).map plD)) := e2 (e2 rfl ki rfl) (e2 rfl ki rfl) ad
    show (Res.ok (D.lst (l.map plD))).bind (fun x => (ev _ (full [.ro (trk l), .ro (.lst (l.map plD)), .no, .no])).bind fun y => zipItems x y) = _
    rw [q2]
    show Res.ok (zipD _ _) = _
    rw [zipD_map]
  · rw [List.length_zip]; omega
  · intro q hq
    obtain ⟨⟨_, _, a1, a2, a3, a4⟩, _⟩ := hm q hq
    refine ⟨_, rfl, esub (emul (e2 rfl ki rfl) (e2 rfl ki rfl) (mul_small ?_)) (emul (e2 rfl ki rfl) (e2 rfl ki rfl) (mul_small ?_))⟩
    · show -(2 ^ 64) < q.1.2.1 ∧ q.1.2.1 < 2 ^ 64; omega
    · show -(2 ^ 64) < q.1.2.2 ∧ q.1.2.2 < 2 ^ 64; omega
theorem min_map {l : List P3} (g : P3 → Int) (h : 1 ≤ l.length) : opMin1 (.lst (l.map fun p => .int (g p))) = some (.int (botI (l.map g))) := by
  show ((intsD (l.map fun p => D.int (g p))).bind fun ns => if 0 < ns.length then some (D.int (botI ns)) else none) = _
  have e : l.map (fun p => D.int (g p)) = (l.map g).map D.int := by rw [List.map_map]; rfl
  rw [e, intsD_map]
  show (if 0 < (l.map g).length then some (D.int (botI (l.map g))) else none) = _
  rw [if_pos (by rw [List.length_map]; omega)]
theorem max_map {l : List P3} (g : P3 → Int) (h : 1 ≤ l.length) : opMax1 (.lst (l.map fun p => .int (g p))) = some (.int (topI (l.map g))) := by
  show ((intsD (l.map fun p => D.int (g p))).bind fun ns => if 0 < ns.length then some (D.int (topI ns)) else none) = _
  have e : l.map (fun p => D.int (g p)) = (l.map g).map D.int := by rw [List.map_map]; rfl
  rw [e, intsD_map]
  show (if 0 < (l.map g).length then some (D.int (topI (l.map g))) else none) = _
  rw [if_pos (by rw [List.length_map]; omega)]
theorem neI0 (a : Int) : opNe (.int a) (.int a) = some (.bl false) := by rw [neI, decide_eq_true rfl]; rfl
end PL.B2

namespace PL.B3
open PySem PySem.Spec PyProof.Rows L2 PL
/-! ## plain: two stretches -/
def Btw (a x : Int) : Prop := (0 ≤ x ∧ x ≤ a) ∨ (a ≤ x ∧ x ≤ 0)
instance (a x : Int) : Decidable (Btw a x) := by unfold Btw; exact inferInstance
def cro (a b c : P2) : Int := (b.1 - a.1) * (c.2 - a.2) - (b.2 - a.2) * (c.1 - a.1)
def On (a b p : P2) : Prop := Btw (b.1 - a.1) (p.1 - a.1) ∧ Btw (b.2 - a.2) (p.2 - a.2)
instance (a b p : P2) : Decidable (On a b p) := by unfold On; exact inferInstance
def Opp (a b : Int) : Prop := (a < 0 ∧ 0 < b) ∨ (0 < a ∧ b < 0)
instance (a b : Int) : Decidable (Opp a b) := by unfold Opp; exact inferInstance
def Com (a b c d : P2) : Prop := (Opp (cro a b c) (cro a b d) ∧ Opp (cro c d a) (cro c d b)) ∨ (cro a b c = 0 ∧ On a b c) ∨ (cro a b d = 0 ∧ On a b d) ∨ (cro c d a = 0 ∧ On c d a) ∨ (cro c d b = 0 ∧ On c d b)
instance (a b c d : P2) : Decidable (Com a b c d) := by unfold Com; exact inferInstance
def Lies (a b c d : P2) : Prop := (cro a b c = 0 ∧ On a b c) ∨ (cro a b d = 0 ∧ On a b d) ∨ (cro c d a = 0 ∧ On c d a) ∨ (cro c d b = 0 ∧ On c d b)
instance (a b c d : P2) : Decidable (Lies a b c d) := by unfold Lies; exact inferInstance
/-! ## the walk: two stretches -/
def Sm (p : P2) : Prop := -1000 ≤ p.1 ∧ p.1 ≤ 1000 ∧ -1000 ≤ p.2 ∧ p.2 ≤ 1000
theorem small1 {x y : Int} (hx : -1000 ≤ x ∧ x ≤ 1000) (hy : -1000 ≤ y ∧ y ≤ 1000) {z : Int} : mulOk (x - y) z = true := mul_small (by omega)
theorem crossed_ok {a b : P2} (c : P2) (ha : Sm a) (hb : Sm b) : f_crossed [PL.prD a, PL.prD b, PL.prD c] = .ok (.int (cro a b c)) :=
  rcall rfl (rret (esub (emul (esub (e2 rfl ki rfl) (e2 rfl ki rfl)) (esub (e2 rfl ki rfl) (e2 rfl ki rfl)) (small1 ⟨hb.1, hb.2.1⟩ ⟨ha.1, ha.2.1⟩)) (emul (esub (e2 rfl ki rfl) (e2 rfl ki rfl)) (esub (e2 rfl ki rfl) (e2 rfl ki rfl)) (small1 hb.2.2 ha.2.2))))
theorem btw_mm (a b p : Int) : (decide ((if b < a then b else a) ≤ p) && decide (p ≤ (if b > a then b else a))) = decide (Btw (b - a) (p - a)) := by
  rw [← Bool.decide_and]
  apply decide_eq_decide.mpr
  unfold Btw
  constructor
  · intro h; split at h <;> split at h <;> omega
  · intro h; split <;> split <;> omega
theorem on_ok (a b p : P2) : f_is_on [PL.prD a, PL.prD b, PL.prD p] = .ok (.bl (decide (On a b p))) := by
  refine rcall rfl (rset ((echain (e2 (e2 rfl ki rfl) (e2 rfl ki rfl) rfl) (e2 rfl ki rfl) (e2 (e2 rfl ki rfl) (e2 rfl ki rfl) rfl) rfl rfl).trans (by rw [btw_mm a.1 b.1 p.1])) rfl (rret ((eandB rfl ((echain (e2 (e2 rfl ki rfl) (e2 rfl ki rfl) rfl) (e2 rfl ki rfl) (e2 (e2 rfl ki rfl) (e2 rfl ki rfl) rfl) rfl rfl).trans (by rw [btw_mm a.2 b.2 p.2]))).trans ?_)))
  rw [← Bool.decide_and]; rfl
def sgn (s : Int) : Int := (if decide (s > 0) = true then 1 else 0) - (if decide (s < 0) = true then 1 else 0)
theorem sgn_is (s : Int) : (0 < s ∧ sgn s = 1) ∨ (s = 0 ∧ sgn s = 0) ∨ (s < 0 ∧ sgn s = -1) := by
  unfold sgn
  rcases Int.lt_trichotomy s 0 with h | h | h
  · right; right; rw [decide_eq_false (by omega), decide_eq_true h]; exact ⟨h, rfl⟩
  · subst h; right; left; exact ⟨rfl, rfl⟩
  · left; rw [decide_eq_true (show s > 0 from h), decide_eq_false (by omega)]; exact ⟨h, rfl⟩
theorem sgn_opp (s t : Int) : decide (sgn s * sgn t < 0) = decide (Opp s t) := by
  apply decide_eq_decide.mpr
  unfold Opp
  rcases sgn_is s with ⟨h, e⟩ | ⟨h, e⟩ | ⟨h, e⟩ <;> rcases sgn_is t with ⟨h', e'⟩ | ⟨h', e'⟩ | ⟨h', e'⟩ <;> rw [e, e'] <;> constructor <;> intro z <;> first | omega | (revert z; decide)
theorem sgn_zero (s : Int) : decide (sgn s = 0) = decide (s = 0) := by
  apply decide_eq_decide.mpr
  rcases sgn_is s with ⟨h, e⟩ | ⟨h, e⟩ | ⟨h, e⟩ <;> rw [e] <;> omega
theorem sgn_small (s : Int) {z : Int} : mulOk (sgn s) z = true := mul_small (by rcases sgn_is s with ⟨_, e⟩ | ⟨_, e⟩ | ⟨_, e⟩ <;> rw [e] <;> decide)
theorem rext {h : Bool} {i : Nat} {e : E} {r : S} {s : SE} {l es : List D} {o : Out} (hs : s[i]? = some (.own l)) (h1 : ev e (see h s) = .ok (.lst es)) (ho : (h || flatAll es) = true) (hl : l.length + es.length < sizeD) (h2 : PL.run r (s.set i (.own (l ++ es))) = o) : PL.run (.cons (.extd h i e) r) s = o := by
  refine rc (s' := s.set i (.own (l ++ es))) ?_ h2
  show withOwn s i (fun l => outE (ev e (see h s)) fun d => extD h i s l d) = _
  unfold withOwn
  rw [hs]
  show outE (ev e (see h s)) (fun d => extD h i s l d) = _
  rw [h1]
  show (if ((h || flatAll es) && decide (l.length + es.length < sizeD)) = true then _ else _) = _
  rw [ho, decide_eq_true hl]; rfl
theorem common_ok {a b c d : P2} (ha : Sm a) (hb : Sm b) (hc : Sm c) (hd : Sm d) : f_have_common [PL.prD a, PL.prD b, PL.prD c, PL.prD d] = .ok (.bl (decide (Com a b c d))) := by
  refine rcall rfl (rown (l := [.int (cro a b c), .int (cro a b d)]) (en (lc (ec (lc rfl (lc rfl (lc rfl l0))) (crossed_ok c ha hb)) (lc (ec (lc rfl (lc rfl (lc rfl l0))) (crossed_ok d ha hb)) l0)) rfl) rfl ?_)
  refine rext (es := [.int (cro c d a), .int (cro c d b)]) rfl (en (lc (ec (lc rfl (lc rfl (lc rfl l0))) (crossed_ok a hc hd)) (lc (ec (lc rfl (lc rfl (lc rfl l0))) (crossed_ok b hc hd)) l0)) rfl) rfl (by simp only [List.length_cons, List.length_nil]; decide) ?_
  refine rset (d := .lst [.int (sgn (cro a b c)), .int (sgn (cro a b d)), .int (sgn (cro c d a)), .int (sgn (cro c d b))]) (ecomp [cro a b c, cro a b d, cro c d a, cro c d b] D.int (fun s => .int (sgn s)) rfl (by simp) (fun s hs => ⟨_, rfl, esub (e1 (egt rfl ki) rfl) (e1 (elt rfl ki) rfl)⟩)) rfl ?_
  have t := eandB (ρ := full [.ro (PL.prD a), .ro (PL.prD b), .ro (PL.prD c), .ro (PL.prD d), .ro (.lst [.int (cro a b c), .int (cro a b d), .int (cro c d a), .int (cro c d b)]), .ro (.lst [.int (sgn (cro a b c)), .int (sgn (cro a b d)), .int (sgn (cro c d a)), .int (sgn (cro c d b))]), .no, .no]) (elt (emul (e2 (p := pIx) (a := .v 5) rfl (ki (k := 0)) rfl) (e2 (p := pIx) (a := .v 5) rfl (ki (k := 1)) rfl) (sgn_small _)) (ki (k := 0))) (elt (emul (e2 (p := pIx) (a := .v 5) rfl (ki (k := 2)) rfl) (e2 (p := pIx) (a := .v 5) rfl (ki (k := 3)) rfl) (sgn_small _)) (ki (k := 0)))
  rw [sgn_opp, sgn_opp, ← Bool.decide_and] at t
  by_cases z : Opp (cro a b c) (cro a b d) ∧ Opp (cro c d a) (cro c d b)
  · rw [decide_eq_true z] at t
    rw [decide_eq_true (show Com a b c d from .inl z)]
    exact riteT t (rret rfl)
  · rw [decide_eq_false z] at t
    refine riteF t ?_
    have el : ∀ (s : Int) (p q r : P2), (decide (sgn s = 0) && decide (On p q r)) = decide (s = 0 ∧ On p q r) := fun s p q r => by rw [sgn_zero, ← Bool.decide_and]
    refine rown (l := [.bl (decide (cro a b c = 0 ∧ On a b c)), .bl (decide (cro a b d = 0 ∧ On a b d))]) (en (lc ((eandB (e2 (e2 rfl ki rfl) ki (o_eqI _ 0)) (ec (lc rfl (lc rfl (lc rfl l0))) (on_ok a b c))).trans (by rw [el])) (lc ((eandB (e2 (e2 rfl ki rfl) ki (o_eqI _ 0)) (ec (lc rfl (lc rfl (lc rfl l0))) (on_ok a b d))).trans (by rw [el])) l0)) rfl) rfl ?_
    refine rext (es := [.bl (decide (cro c d a = 0 ∧ On c d a)), .bl (decide (cro c d b = 0 ∧ On c d b))]) rfl (en (lc ((eandB (e2 (e2 rfl ki rfl) ki (o_eqI _ 0)) (ec (lc rfl (lc rfl (lc rfl l0))) (on_ok c d a))).trans (by rw [el])) (lc ((eandB (e2 (e2 rfl ki rfl) ki (o_eqI _ 0)) (ec (lc rfl (lc rfl (lc rfl l0))) (on_ok c d b))).trans (by rw [el])) l0)) rfl) rfl (by simp only [List.length_cons, List.length_nil]; decide) ?_
    refine rret ((e1 rfl rfl : _ = Res.ok (D.bl (decide (cro a b c = 0 ∧ On a b c) || (decide (cro a b d = 0 ∧ On a b d) || (decide (cro c d a = 0 ∧ On c d a) || (decide (cro c d b = 0 ∧ On c d b) || false)))))).trans ?_)
    rw [Bool.or_false, ← Bool.decide_or, ← Bool.decide_or, ← Bool.decide_or]
    congr 2
    apply decide_eq_decide.mpr
    unfold Com
    constructor
    · exact .inr
    · rintro (h | h)
      · exact absurd h z
      · exact h
/-! ## loops -/
theorem loop1 {f : SE → Out} {tg : Tg} (st : List D → Sl → SE) (p : Nat → Bool) (v g : Nat → D) (hset : ∀ acc A j, setTgS tg (v j) (st acc A) = some (st acc (.ro (v j)))) : ∀ (js : List Nat), (∀ acc : List D, acc.length < 900 → ∀ j ∈ js, f (st acc (.ro (v j))) = .nx (st (if p j then acc ++ [g j] else acc) (.ro (v j)))) → ∀ (acc : List D) (A : Sl), acc.length + js.length < 900 →
    ∃ A', forM f tg (js.map v) (st acc A) = .nx (st (acc ++ (js.filter p).map g) A') := by
  intro js
  induction js with
  | nil => intro _ acc A _; exact ⟨A, by show Out.nx _ = Out.nx (st (acc ++ []) A); rw [List.append_nil]⟩
  | cons j js ih =>
    intro h acc A hl
    rw [List.length_cons] at hl
    have step := h acc (by omega) j List.mem_cons_self
    have e0 : forM f tg ((j :: js).map v) (st acc A) = seqO (f (st acc (.ro (v j)))) (forM f tg (js.map v)) := by
      show (match setTgS tg (v j) (st acc A) with | some s1 => seqO (f s1) (forM f tg (js.map v)) | none => .stuck) = _
      rw [hset]
    cases hp : p j with
    | true =>
      rw [hp, if_pos rfl] at step
      obtain ⟨A', e⟩ := ih (fun acc ha x hx => h acc ha x (List.mem_cons_of_mem _ hx)) (acc ++ [g j]) (.ro (v j)) (by rw [List.length_append, List.length_singleton]; omega)
      refine ⟨A', ?_⟩
      rw [e0, step]
      show forM f tg (js.map v) _ = _
      rw [e, List.filter_cons_of_pos hp, List.map_cons, List.append_assoc]; rfl
    | false =>
      rw [hp, if_neg Bool.false_ne_true] at step
      obtain ⟨A', e⟩ := ih (fun acc ha x hx => h acc ha x (List.mem_cons_of_mem _ hx)) acc (.ro (v j)) (by omega)
      refine ⟨A', ?_⟩
      rw [e0, step]
      show forM f tg (js.map v) _ = _
      rw [e, List.filter_cons_of_neg (by rw [hp]; exact Bool.false_ne_true)]
theorem loop2 {f : SE → Out} {tg : Tg} (st : List D → Sl → Sl → SE) (v : Nat → D) (row : Nat → List D) (hset : ∀ acc A B j, setTgS tg (v j) (st acc A B) = some (st acc (.ro (v j)) B)) : ∀ (js : List Nat), (∀ (acc : List D) (B : Sl), acc.length < 700 → ∀ j ∈ js, (row j).length ≤ 12 ∧ ∃ B', f (st acc (.ro (v j)) B) = .nx (st (acc ++ row j) (.ro (v j)) B')) → ∀ (acc : List D) (A B : Sl), acc.length + 12 * js.length < 700 →
    ∃ A' B', forM f tg (js.map v) (st acc A B) = .nx (st (acc ++ js.flatMap row) A' B') := by
  intro js
  induction js with
  | nil => intro _ acc A B _; exact ⟨A, B, by show Out.nx _ = Out.nx (st (acc ++ []) A B); rw [List.append_nil]⟩
  | cons j js ih =>
    intro h acc A B hl
    rw [List.length_cons] at hl
    obtain ⟨hr, B', step⟩ := h acc B (by omega) j List.mem_cons_self
    have e0 : forM f tg ((j :: js).map v) (st acc A B) = seqO (f (st acc (.ro (v j)) B)) (forM f tg (js.map v)) := by
      show (match setTgS tg (v j) (st acc A B) with | some s1 => seqO (f s1) (forM f tg (js.map v)) | none => .stuck) = _
      rw [hset]
    obtain ⟨A2, B2, e⟩ := ih (fun acc B ha x hx => h acc B ha x (List.mem_cons_of_mem _ hx)) (acc ++ row j) (.ro (v j)) B' (by rw [List.length_append]; omega)
    refine ⟨A2, B2, ?_⟩
    rw [e0, step]
    show forM f tg (js.map v) _ = _
    rw [e, List.flatMap_cons, List.append_assoc]
/-! ## all pairs of steps -/
def pt (l : List P3) (i : Nat) : P2 := (at3 l i).2
def cmb (l : List P3) (i j : Nat) : Bool := decide (Com (pt l i) (pt l (i + 1)) (pt l j) (pt l (j + 1)))
def rowP (l : List P3) (i : Nat) : List P2 := ((List.range (l.length - 1 - (i + 2))).filter fun j => cmb l i (i + 2 + j)).map fun (j : Nat) => (0 + (i : Int), 0 + (i : Int) + 2 + (j : Int))
def crossT (l : List P3) : List P2 := (List.range (l.length - 1)).flatMap (rowP l)
theorem sm_of {l : List P3} (G : Good l) {i : Nat} (h : i < l.length) : Sm (pt l i) := by
  have := G.mul h
  unfold InPt at this
  unfold Sm pt
  omega
theorem ix_pl {l : List P3} {j : Int} {i : Nat} (hj : j = (i : Int)) (h : i < l.length) : opIx (.lst (l.map plD)) (.int j) = some (PL.prD (pt l i)) := ix_lst (f := plD) hj (at3_get h)
theorem row_len (l : List P3) (i : Nat) (h : l.length ≤ 12) : ((rowP l i).map PL.prD).length ≤ 12 := by
  unfold rowP
  rw [List.length_map, List.length_map]
  have := List.length_filter_le (fun j => cmb l i (i + 2 + j)) (List.range (l.length - 1 - (i + 2)))
  rw [List.length_range] at this
  omega
theorem rng_in {l : List P3} {i : Nat} (h : l.length ≤ 12) (hi : i < l.length) : rngD [.int (0 + (i : Int) + 2), .int ((l.length : Int) - 1)] = .ok ((List.range (l.length - 1 - (i + 2))).map fun (j : Nat) => D.int (0 + (i : Int) + 2 + (j : Int))) := by
  have h1 : okZ (0 + (i : Int) + 2) = true := by unfold okZ; rw [decide_eq_true (by omega), decide_eq_true (by omega)]; rfl
  have h2 : okZ ((l.length : Int) - 1) = true := by unfold okZ; rw [decide_eq_true (by omega), decide_eq_true (by omega)]; rfl
  show (if (okZ (0 + (i : Int) + 2) && okZ ((l.length : Int) - 1)) = true then Res.ok (rangeD (0 + (i : Int) + 2) ((l.length : Int) - 1)) else Res.stuck) = _
  rw [h1, h2]
  show Res.ok (rangeD (0 + (i : Int) + 2) ((l.length : Int) - 1)) = _
  unfold rangeD
  have : ((l.length : Int) - 1 - (0 + (i : Int) + 2)).toNat = l.length - 1 - (i + 2) := by omega
  rw [this]
theorem rng_out {l : List P3} (h : l.length ≤ 12) : rngD [.int ((l.length : Int) - 1)] = .ok ((List.range (l.length - 1)).map fun (j : Nat) => D.int (0 + (j : Int))) := by
  have h2 : okZ ((l.length : Int) - 1) = true := by unfold okZ; rw [decide_eq_true (by omega), decide_eq_true (by omega)]; rfl
  show (if okZ ((l.length : Int) - 1) = true then Res.ok (rangeD 0 ((l.length : Int) - 1)) else Res.stuck) = _
  rw [h2]
  show Res.ok (rangeD 0 ((l.length : Int) - 1)) = _
  unfold rangeD
  have : ((l.length : Int) - 1 - 0).toNat = l.length - 1 := by omega
  rw [this]
theorem len_pl (l : List P3) : opLen (.lst (l.map plD)) = some (.int (l.length : Nat)) := by
  show some (D.int ((l.map plD).length : Nat)) = _
  rw [List.length_map]
theorem outer_ok {l : List P3} (G : Good l) : ∃ A' B', forM (fun s => PL.run (S.loop (S.drop b_crossings 3)) s) (.name 3) ((List.range (l.length - 1)).map fun (i : Nat) => D.int (0 + (i : Int))) [.ro (trk l), .ro (.lst (l.map plD)), .own [], .no, .no] = .nx [.ro (trk l), .ro (.lst (l.map plD)), .own ((crossT l).map PL.prD), A', B'] := by
  have hl := G.le
  obtain ⟨A', B', e⟩ := loop2 (f := fun s => PL.run (S.loop (S.drop b_crossings 3)) s) (tg := .name 3) (fun acc A B => [.ro (trk l), .ro (.lst (l.map plD)), .own acc, A, B]) (fun (i : Nat) => D.int (0 + (i : Int))) (fun i => (rowP l i).map PL.prD) (fun _ _ _ _ => rfl) (List.range (l.length - 1)) (fun acc B ha i hi => ⟨row_len l i hl, by
    have hi := List.mem_range.mp hi
    obtain ⟨A', e⟩ := loop1 (f := fun s => PL.run (S.loop (S.loop (S.drop b_crossings 3))) s) (tg := .name 4) (fun acc A => [.ro (trk l), .ro (.lst (l.map plD)), .own acc, .ro (.int (0 + (i : Int))), A]) (fun j => cmb l i (i + 2 + j)) (fun (j : Nat) => D.int (0 + (i : Int) + 2 + (j : Int))) (fun (j : Nat) => PL.prD (0 + (i : Int), 0 + (i : Int) + 2 + (j : Int))) (fun _ _ _ => rfl) (List.range (l.length - 1 - (i + 2))) (fun acc ha j hj => by
      have hj := List.mem_range.mp hj
      refine rite2 (ec (lc (e2 rfl rfl (ix_pl (i := i) (by omega) (by omega))) (lc (e2 rfl (eadd rfl ki) (ix_pl (i := i + 1) (by omega) (by omega))) (lc (e2 rfl rfl (ix_pl (i := i + 2 + j) (by omega) (by omega))) (lc (e2 rfl (eadd rfl ki) (ix_pl (i := i + 2 + j + 1) (by omega) (by omega))) l0)))) (common_ok (sm_of G (by omega)) (sm_of G (by omega)) (sm_of G (by omega)) (sm_of G (by omega)))) (fun q => ?_) (fun q => ?_) rfl
      · have q' : cmb l i (i + 2 + j) = true := q
        rw [q', if_pos rfl]
        exact rapp rfl (en (lc rfl (lc rfl l0)) rfl) rfl (by unfold sizeD; omega) rfl
      · have q' : cmb l i (i + 2 + j) = false := q
        rw [q', if_neg Bool.false_ne_true]; rfl) acc B (by rw [List.length_range]; omega)
    refine ⟨A', ?_⟩
    have er : (List.filter (fun j => cmb l i (i + 2 + j)) (List.range (l.length - 1 - (i + 2)))).map (fun (j : Nat) => PL.prD (0 + (i : Int), 0 + (i : Int) + 2 + (j : Int))) = (rowP l i).map PL.prD := by unfold rowP; rw [List.map_map]; rfl
    rw [er] at e
    exact rfor (irng (lc (eadd rfl ki) (lc (esub (e1 rfl (len_pl l)) ki) l0)) (rng_in hl (by omega))) e rfl⟩) [] .no .no (by rw [List.length_range]; show 0 + 12 * (l.length - 1) < 700; omega)
  refine ⟨A', B', ?_⟩
  have er : (List.range (l.length - 1)).flatMap (fun i => (rowP l i).map PL.prD) = (crossT l).map PL.prD := by unfold crossT; rw [List.map_flatMap]
  rw [List.nil_append, er] at e
  exact e
theorem crossings_ok {l : List P3} (G : Good l) : f_crossings [trk l] = .ok (.lst ((crossT l).map PL.prD)) := by
  obtain ⟨A', B', e⟩ := outer_ok G
  have hl := G.le
  exact rcall rfl (rexpr (ec (lc rfl l0) (look_ok G)) (rset (ec (lc rfl l0) (places_ok l (by omega))) rfl (rown (l := []) rfl rfl (rfor (irng (lc (esub (e1 rfl (len_pl l)) ki) l0) (rng_out hl)) e (rret rfl)))))
/-! ## led -/
theorem fm_c {α β : Type} {f g : α → List β} : ∀ {l : List α}, (∀ a ∈ l, f a = g a) → l.flatMap f = l.flatMap g
  | [], _ => rfl
  | a :: l, h => by rw [List.flatMap_cons, List.flatMap_cons, h a List.mem_cons_self, fm_c fun b hb => h b (List.mem_cons_of_mem _ hb)]
theorem crossT_congr {l l' : List P3} (hl : l'.length = l.length) (h : ∀ i j, i + 2 ≤ j → j + 1 < l.length → cmb l' i j = cmb l i j) : crossT l' = crossT l := by
  unfold crossT
  rw [hl]
  refine fm_c fun i hi => ?_
  unfold rowP
  rw [hl]
  congr 1
  refine List.filter_congr fun j hj => ?_
  have := List.mem_range.mp hj
  exact h i (i + 2 + j) (by omega) (by omega)
theorem com_turn (a b c d : P2) : Com (0 - a.2, a.1) (0 - b.2, b.1) (0 - c.2, c.1) (0 - d.2, d.1) ↔ Com a b c d := by
  have e : ∀ x y z : P2, cro (0 - x.2, x.1) (0 - y.2, y.1) (0 - z.2, z.1) = cro x y z := fun x y z => by unfold cro; grind
  have o : ∀ x y z : P2, On (0 - x.2, x.1) (0 - y.2, y.1) (0 - z.2, z.1) ↔ On x y z := fun x y z => by
    unfold On Btw
    show (((0 ≤ 0 - z.2 - (0 - x.2) ∧ 0 - z.2 - (0 - x.2) ≤ 0 - y.2 - (0 - x.2)) ∨ (0 - y.2 - (0 - x.2) ≤ 0 - z.2 - (0 - x.2) ∧ 0 - z.2 - (0 - x.2) ≤ 0)) ∧ ((0 ≤ z.1 - x.1 ∧ z.1 - x.1 ≤ y.1 - x.1) ∨ (y.1 - x.1 ≤ z.1 - x.1 ∧ z.1 - x.1 ≤ 0))) ↔ _
    omega
  unfold Com
  rw [e, e, e, e, o, o, o, o]
theorem crossT_turn {l : List P3} : crossT (l.map fun p => (p.1, 0 - p.2.2, p.2.1)) = crossT l := by
  refine crossT_congr (by rw [List.length_map]) fun i j h1 h2 => ?_
  have e : ∀ k, k < l.length → pt (l.map fun p => (p.1, 0 - p.2.2, p.2.1)) k = (0 - (pt l k).2, (pt l k).1) := fun k hk => by
    unfold pt; rw [at3_map _ hk]
  unfold cmb
  rw [e _ (by omega), e _ (by omega), e _ (by omega), e _ (by omega)]
  exact decide_eq_decide.mpr (com_turn _ _ _ _)
theorem cro_sw (a b x : P2) : cro b a x = - cro a b x := by unfold cro; grind
theorem on_sw (a b x : P2) : On b a x ↔ On a b x := by unfold On Btw; omega
theorem com_back (a b c d : P2) : Com d c b a ↔ Com a b c d := by
  unfold Com
  rw [cro_sw c d b, cro_sw c d a, cro_sw a b d, cro_sw a b c, on_sw c d b, on_sw c d a, on_sw a b d, on_sw a b c]
  unfold Opp
  constructor
  · rintro (h | ⟨h, o⟩ | ⟨h, o⟩ | ⟨h, o⟩ | ⟨h, o⟩)
    · left; omega
    · exact .inr (.inr (.inr (.inr ⟨by omega, o⟩)))
    · exact .inr (.inr (.inr (.inl ⟨by omega, o⟩)))
    · exact .inr (.inr (.inl ⟨by omega, o⟩))
    · exact .inr (.inl ⟨by omega, o⟩)
  · rintro (h | ⟨h, o⟩ | ⟨h, o⟩ | ⟨h, o⟩ | ⟨h, o⟩)
    · left; omega
    · exact .inr (.inr (.inr (.inr ⟨by omega, o⟩)))
    · exact .inr (.inr (.inr (.inl ⟨by omega, o⟩)))
    · exact .inr (.inr (.inl ⟨by omega, o⟩))
    · exact .inr (.inl ⟨by omega, o⟩)
theorem mem_cross {l : List P3} {q : P2} : q ∈ crossT l ↔ ∃ i j : Nat, q = ((i : Int), (j : Int)) ∧ i + 2 ≤ j ∧ j + 1 < l.length ∧ cmb l i j = true := by
  unfold crossT
  rw [List.mem_flatMap]
  constructor
  · rintro ⟨i, hi, hq⟩
    unfold rowP at hq
    obtain ⟨j, hj, rfl⟩ := List.mem_map.mp hq
    obtain ⟨hj, hc⟩ := List.mem_filter.mp hj
    have := List.mem_range.mp hj
    exact ⟨i, i + 2 + j, Prod.ext (show 0 + (i : Int) = i by omega) (show 0 + (i : Int) + 2 + (j : Int) = ((i + 2 + j : Nat) : Int) by omega), by omega, by omega, hc⟩
  · rintro ⟨i, j, rfl, h1, h2, hc⟩
    refine ⟨i, List.mem_range.mpr (by omega), ?_⟩
    unfold rowP
    refine List.mem_map.mpr ⟨j - (i + 2), List.mem_filter.mpr ⟨List.mem_range.mpr (by omega), ?_⟩, Prod.ext (show 0 + (i : Int) = i by omega) (show 0 + (i : Int) + 2 + ((j - (i + 2) : Nat) : Int) = (j : Int) by omega)⟩
    rw [show i + 2 + (j - (i + 2)) = j by omega]
    exact hc
theorem cross_pw (l : List P3) : (crossT l).Pairwise fun p q => p.1 < q.1 ∨ (p.1 = q.1 ∧ p.2 < q.2) := by
  unfold crossT
  rw [List.pairwise_flatMap]
  refine ⟨fun i _ => ?_, ?_⟩
  · unfold rowP
    rw [List.pairwise_map]
    refine ((List.pairwise_lt_range).filter _).imp fun {a b} h => .inr ⟨rfl, ?_⟩
    show 0 + (i : Int) + 2 + (a : Int) < 0 + (i : Int) + 2 + (b : Int)
    omega
  · refine (List.pairwise_lt_range).imp fun {a b} h x hx y hy => .inl ?_
    unfold rowP at hx hy
    obtain ⟨_, _, rfl⟩ := List.mem_map.mp hx
    obtain ⟨_, _, rfl⟩ := List.mem_map.mp hy
    show 0 + (a : Int) < 0 + (b : Int)
    omega
theorem cross_nd (l : List P3) : (crossT l).Nodup := (cross_pw l).imp fun {p q} h e => by rw [e] at h; omega
theorem cross_back {l : List P3} (g : P3 → P3) (hg : ∀ p, (g p).2 = p.2) : crossT (l.reverse.map g) = sortP ((crossT l).map fun q => ((l.length : Int) - 2 - q.2, (l.length : Int) - 2 - q.1)) := by
  have e : ∀ k, k < l.length → pt (l.reverse.map g) k = pt l (l.length - 1 - k) := fun k hk => by
    unfold pt; rw [at3_map _ (by rw [List.length_reverse]; exact hk), hg, at3_rev hk]
  have c : ∀ i j, i + 2 ≤ j → j + 1 < l.length → cmb (l.reverse.map g) i j = cmb l (l.length - 2 - j) (l.length - 2 - i) := fun i j h1 h2 => by
    unfold cmb
    rw [e _ (by omega), e _ (by omega), e _ (by omega), e _ (by omega)]
    rw [show l.length - 2 - j + 1 = l.length - 1 - j by omega, show l.length - 2 - i + 1 = l.length - 1 - i by omega, show l.length - 1 - (i + 1) = l.length - 2 - i by omega, show l.length - 1 - (j + 1) = l.length - 2 - j by omega]
    exact decide_eq_decide.mpr (com_back _ _ _ _).symm
  refine sortP_is ?_ ((cross_pw _).imp fun {p q} h => leP_iff.mpr (by omega))
  refine (List.perm_ext_iff_of_nodup (cross_nd _) ?_).mpr fun q => ?_
  · refine List.Pairwise.map _ (fun a b h e => h ?_) (cross_nd l)
    have e1 : (l.length : Int) - 2 - a.2 = (l.length : Int) - 2 - b.2 := congrArg Prod.fst e
    have e2 : (l.length : Int) - 2 - a.1 = (l.length : Int) - 2 - b.1 := congrArg Prod.snd e
    exact Prod.ext (by omega) (by omega)
  · rw [mem_cross, List.mem_map]
    constructor
    · rintro ⟨i, j, rfl, h1, h2, hc⟩
      rw [List.length_map, List.length_reverse] at h2
      rw [c i j h1 h2] at hc
      refine ⟨(((l.length - 2 - j : Nat) : Int), ((l.length - 2 - i : Nat) : Int)), mem_cross.mpr ⟨_, _, rfl, by omega, by omega, hc⟩, Prod.ext (show (l.length : Int) - 2 - ((l.length - 2 - i : Nat) : Int) = i by omega) (show (l.length : Int) - 2 - ((l.length - 2 - j : Nat) : Int) = j by omega)⟩
    · rintro ⟨r, hr, rfl⟩
      obtain ⟨i, j, rfl, h1, h2, hc⟩ := mem_cross.mp hr
      refine ⟨l.length - 2 - j, l.length - 2 - i, Prod.ext (show (l.length : Int) - 2 - (j : Int) = ((l.length - 2 - j : Nat) : Int) by omega) (show (l.length : Int) - 2 - (i : Int) = ((l.length - 2 - i : Nat) : Int) by omega), by omega, by rw [List.length_map, List.length_reverse]; omega, ?_⟩
      rw [c _ _ (by omega) (by omega), show l.length - 2 - (l.length - 2 - i) = i by omega, show l.length - 2 - (l.length - 2 - j) = j by omega]
      exact hc
theorem cross_short {l : List P3} (h : l.length ≤ 3) : crossT l = [] := by
  cases e : crossT l with
  | nil => rfl
  | cons q r =>
    obtain ⟨i, j, _, h1, h2, _⟩ := mem_cross.mp (show q ∈ crossT l by rw [e]; exact List.mem_cons_self)
    omega
theorem sh_prs (l : List P2) : Sh 2 (.lst (l.map PL.prD)) := Sh.lst fun d hd => by
  obtain ⟨q, _, rfl⟩ := List.mem_map.mp hd
  exact Sh.tup (n := 0) fun d hd => by
    rcases List.mem_cons.mp hd with rfl | hd
    · exact Sh.int 0 _
    · rw [List.mem_singleton] at hd; rw [hd]; exact Sh.int 0 _
end PL.B3

namespace PL
/-! ## hulls, plain -/
def det (U V : P2) : Int := U.1 * V.2 - U.2 * V.1
def sb (a b : P2) : P2 := (a.1 - b.1, a.2 - b.2)
def pos (U : P2) : Prop := 0 < U.1 ∨ (U.1 = 0 ∧ 0 < U.2)
def crs (a b p : P2) : Int := (b.1 - a.1) * (p.2 - a.2) - (b.2 - a.2) * (p.1 - a.1)
theorem pos_lt {a b : P2} : ltP a b ↔ pos (sb b a) := by
  unfold ltP pos sb
  dsimp only
  omega
theorem pos_comb {a b : Int} {U W : P2} (ha : 0 ≤ a) (hb : 0 ≤ b) (h : 0 < a ∨ 0 < b) (pW : pos W) (pU : pos U) : pos (a * W.1 + b * U.1, a * W.2 + b * U.2) := by
  have w0 : 0 ≤ W.1 := by unfold pos at pW; omega
  have u0 : 0 ≤ U.1 := by unfold pos at pU; omega
  have x1 := Int.mul_nonneg ha w0
  have x2 := Int.mul_nonneg hb u0
  unfold pos
  dsimp only
  by_cases z : 0 < a * W.1 + b * U.1
  · exact .inl z
  · refine .inr ⟨by omega, ?_⟩
    have z1 : a * W.1 = 0 := by omega
    have z2 : b * U.1 = 0 := by omega
    have y1 : 0 ≤ a * W.2 ∧ (0 < a → 0 < a * W.2) := by
      rcases Int.mul_eq_zero.mp z1 with e | e
      · rw [e, Int.zero_mul]; omega
      · have : 0 < W.2 := by unfold pos at pW; omega
        exact ⟨Int.mul_nonneg ha (by omega), fun k => Int.mul_pos k this⟩
    have y2 : 0 ≤ b * U.2 ∧ (0 < b → 0 < b * U.2) := by
      rcases Int.mul_eq_zero.mp z2 with e | e
      · rw [e, Int.zero_mul]; omega
      · have : 0 < U.2 := by unfold pos at pU; omega
        exact ⟨Int.mul_nonneg hb (by omega), fun k => Int.mul_pos k this⟩
    rcases h with h | h
    · have := y1.2 h; omega
    · have := y2.2 h; omega
theorem pos_scale {c : Int} {V : P2} (pV : pos V) (h : pos (c * V.1, c * V.2)) : 0 < c := by
  apply Classical.byContradiction
  intro hc
  unfold pos at h pV
  dsimp only at h
  rcases pV with v | ⟨v, v'⟩
  · have : c * V.1 ≤ 0 := Int.mul_nonpos_of_nonpos_of_nonneg (by omega) (by omega)
    rcases h with h | ⟨h, h'⟩
    · omega
    · rcases Int.mul_eq_zero.mp h with e | e
      · rw [e, Int.zero_mul] at h'; omega
      · omega
  · rw [v, Int.mul_zero] at h
    have : c * V.2 ≤ 0 := Int.mul_nonpos_of_nonpos_of_nonneg (by omega) (by omega)
    omega
/-- the order of directions -/
theorem det_tr {U V W : P2} (pU : pos U) (pV : pos V) (pW : pos W) (h1 : 0 ≤ det U V) (h2 : 0 ≤ det V W) : 0 ≤ det U W ∧ (0 < det U V ∨ 0 < det V W → 0 < det U W) := by
  have e1 : det U V * W.1 + det V W * U.1 = det U W * V.1 := by unfold det; grind
  have e2 : det U V * W.2 + det V W * U.2 = det U W * V.2 := by unfold det; grind
  have key : (0 < det U V ∨ 0 < det V W → 0 < det U W) := fun h => by
    have := pos_comb h1 h2 h pW pU
    rw [e1, e2] at this
    exact pos_scale pV this
  refine ⟨?_, key⟩
  by_cases h : 0 < det U V ∨ 0 < det V W
  · exact Int.le_of_lt (key h)
  · have z1 : det U V = 0 := by omega
    have z2 : det V W = 0 := by omega
    rw [z1, z2, Int.zero_mul, Int.zero_mul] at e1 e2
    apply Classical.byContradiction
    intro hn
    have e1' : det U W * V.1 = 0 := by omega
    have e2' : det U W * V.2 = 0 := by omega
    rcases Int.mul_eq_zero.mp e1' with e | e
    · omega
    · rcases Int.mul_eq_zero.mp e2' with e' | e'
      · omega
      · unfold pos at pV; omega
/-! ### turns -/
theorem crs_det (a b p : P2) : crs a b p = det (sb b a) (sb p a) := by unfold crs det sb; rfl
theorem crs_mid (a b p : P2) : crs a b p = det (sb b a) (sb p b) := by unfold crs det sb; grind
theorem crs_swap (a b p : P2) : crs a p b = - crs a b p := by unfold crs; grind
theorem crs_cyc (a b p : P2) : crs b p a = crs a b p := by unfold crs; grind
/-- p at or ahead of t, t on the way from c: left of c t, turn at t -/
theorem left_on {c t q p : P2} (h1 : ltP c t) (h2 : ltP t q) (h3 : ltP p t) (s : 0 ≤ crs c t p) (k : 0 < crs c t q) : 0 < crs t q p := by
  have d1 : 0 ≤ det (sb t p) (sb t c) := by
    have : det (sb t p) (sb t c) = crs c t p := by unfold crs det sb; grind
    omega
  have d2 : 0 < det (sb t c) (sb q t) := by rw [← crs_mid]; exact k
  have := (det_tr (pos_lt.mp h3) (pos_lt.mp h1) (pos_lt.mp h2) d1 (by omega)).2 (.inr d2)
  have e : det (sb t p) (sb q t) = crs t q p := by unfold crs det sb; grind
  omega
/-- two turns to the left: further on, it's left too -/
theorem left_up {c b a q : P2} (h1 : ltP c b) (h2 : ltP b a) (h3 : ltP b q) (k1 : 0 < crs c b a) (k2 : 0 < crs b a q) : 0 < crs c b q := by
  rw [crs_mid] at k1 ⊢
  rw [crs_det] at k2
  exact (det_tr (pos_lt.mp h1) (pos_lt.mp h2) (pos_lt.mp h3) (by omega) (by omega)).2 (.inl k1)
/-- a popped top: what was left of it and q is left of the next one and q -/
theorem left_pop {s1 s2 q p : P2} (h1 : ltP s2 s1) (h2 : ltP s1 q) (hq : ltP p q) (k : crs s2 s1 q ≤ 0) (s : 0 ≤ crs s1 q p) : 0 ≤ crs s2 q p := by
  have d1 : 0 ≤ det (sb q p) (sb q s1) := by
    have : det (sb q p) (sb q s1) = crs s1 q p := by unfold crs det sb; grind
    omega
  have d2 : 0 ≤ det (sb q s1) (sb q s2) := by
    have : det (sb q s1) (sb q s2) = - crs s2 s1 q := by unfold crs det sb; grind
    omega
  have := (det_tr (pos_lt.mp hq) (pos_lt.mp h2) (pos_lt.mp (ltP_tr h1 h2)) d1 d2).1
  have e : det (sb q p) (sb q s2) = crs s2 q p := by unfold crs det sb; grind
  omega
theorem left_pop2 {s1 s2 q p : P2} (h1 : ltP s2 s1) (h2 : ltP s1 q) (hp : ltP s2 p) (k : crs s2 s1 q ≤ 0) (s : 0 ≤ crs s2 s1 p) : 0 ≤ crs s2 q p := by
  have d1 : 0 ≤ det (sb q s2) (sb s1 s2) := by
    have : det (sb q s2) (sb s1 s2) = - crs s2 s1 q := by unfold crs det sb; grind
    omega
  have d2 : 0 ≤ det (sb s1 s2) (sb p s2) := by rw [← crs_det]; exact s
  have := (det_tr (pos_lt.mp (ltP_tr h1 h2)) (pos_lt.mp h1) (pos_lt.mp hp) d1 d2).1
  rw [crs_det]; exact this
/-! ### the chain, its top first -/
def Turns : List P2 → Prop
  | a :: b :: c :: r => 0 < crs c b a ∧ Turns (b :: c :: r)
  | _ => True
def Supp (pre : List P2) : List P2 → Prop
  | a :: b :: r => (∀ p ∈ pre, 0 ≤ crs b a p) ∧ Supp pre (b :: r)
  | _ => True
def popS (q : P2) : List P2 → List P2
  | [] => []
  | [s] => [s]
  | s1 :: s2 :: r => if crs s2 s1 q ≤ 0 then popS q (s2 :: r) else s1 :: s2 :: r
abbrev Down (st : List P2) : Prop := st.Pairwise fun x y => ltP y x
structure Ch (pre st : List P2) (m : P2) : Prop where
  down : Down st
  sub : ∀ p ∈ st, p ∈ pre
  turns : Turns st
  supp : Supp pre st
  bot : st.getLast? = some m
  least : ∀ p ∈ pre, p = m ∨ ltP m p
  top : ∃ t r, st = t :: r ∧ ∀ p ∈ pre, p = t ∨ ltP p t
theorem turns_tail {a : P2} {r : List P2} (h : Turns (a :: r)) : Turns r := by
  match r, h with
  | [], _ => trivial
  | [_], _ => trivial
  | b :: c :: r, h => exact h.2
theorem supp_tail {pre : List P2} {a : P2} {r : List P2} (h : Supp pre (a :: r)) : Supp pre r := by
  match r, h with
  | [], _ => trivial
  | b :: r, h => exact h.2
/-- what is left after popping -/
theorem pop_ok {pre : List P2} {q m : P2} (hq : ∀ p ∈ pre, ltP p q) : ∀ (r : List P2) (s1 : P2), Down (s1 :: r) → (∀ p ∈ s1 :: r, p ∈ pre) → Turns (s1 :: r) → Supp pre (s1 :: r) → (s1 :: r).getLast? = some m → (∀ p ∈ pre, p = s1 ∨ ltP s1 p → 0 ≤ crs s1 q p) →
    ∃ t r', popS q (s1 :: r) = t :: r' ∧ Down (t :: r') ∧ (∀ p ∈ t :: r', p ∈ pre) ∧ Turns (t :: r') ∧ Supp pre (t :: r') ∧ (t :: r').getLast? = some m ∧ (∀ p ∈ pre, p = t ∨ ltP t p → 0 ≤ crs t q p) ∧ (∀ t2 r2, r' = t2 :: r2 → 0 < crs t2 t q)
  | [], s1, d, sb, tu, su, bo, H => ⟨s1, [], rfl, d, sb, tu, su, bo, H, fun _ _ z => nomatch z⟩
  | s2 :: r, s1, d, sb, tu, su, bo, H => by
    unfold popS
    have l21 : ltP s2 s1 := List.rel_of_pairwise_cons d List.mem_cons_self
    have l1q : ltP s1 q := hq s1 (sb s1 List.mem_cons_self)
    by_cases k : crs s2 s1 q ≤ 0
    · rw [if_pos k]
      refine pop_ok hq r s2 d.of_cons (fun p hp => sb p (List.mem_cons_of_mem _ hp)) (turns_tail tu) (supp_tail su) (by rw [List.getLast?_cons_cons] at bo; exact bo) fun p hp hs => ?_
      rcases ltP_tri s1 p with z | z | z
      · exact left_pop l21 l1q (hq p hp) k (H p hp (.inr z))
      · exact left_pop l21 l1q (hq p hp) k (H p hp (.inl z.symm))
      · rcases hs with rfl | hs
        · have : crs p q p = 0 := by unfold crs; grind
          omega
        · exact left_pop2 l21 l1q hs k (su.1 p hp)
    · rw [if_neg k]
      refine ⟨s1, s2 :: r, rfl, d, sb, tu, su, bo, H, fun t2 r2 e => ?_⟩
      cases e
      omega
theorem supp_q {q : P2} : ∀ (r : List P2) (a b : P2), Down (a :: b :: r) → (∀ p ∈ a :: b :: r, ltP p q) → Turns (a :: b :: r) → 0 < crs b a q → ∀ pre, Supp pre (a :: b :: r) → Supp (pre ++ [q]) (a :: b :: r)
  | r, a, b, d, hq, tu, k, pre, su => by
    refine ⟨fun p hp => ?_, ?_⟩
    · rcases List.mem_append.mp hp with hp | hp
      · exact su.1 p hp
      · rw [List.mem_singleton] at hp; rw [hp]; omega
    · cases r with
      | nil => trivial
      | cons c r =>
        have lcb : ltP c b := List.rel_of_pairwise_cons d.of_cons List.mem_cons_self
        have lba : ltP b a := List.rel_of_pairwise_cons d List.mem_cons_self
        exact supp_q r b c d.of_cons (fun p hp => hq p (List.mem_cons_of_mem _ hp)) tu.2 (left_up lcb lba (hq b (by simp)) tu.1 k) pre su.2
theorem ch_step {pre st : List P2} {m q : P2} (C : Ch pre st m) (hq : ∀ p ∈ pre, ltP p q) : Ch (pre ++ [q]) (q :: popS q st) m := by
  obtain ⟨s1, r, rfl, htop⟩ := C.top
  obtain ⟨t, r', e, d, sub, tu, su, bo, H, tq⟩ := pop_ok hq r s1 C.down C.sub C.turns C.supp C.bot fun p hp hs => by
    have : p = s1 := by
      rcases hs with h | h
      · exact h
      · rcases htop p hp with z | z
        · exact z
        · exact absurd (ltP_tr h z) (ltP_irr s1)
    rw [this]
    have : crs s1 q s1 = 0 := by unfold crs; grind
    omega
  rw [e]
  have ltq : ∀ p ∈ t :: r', ltP p q := fun p hp => hq p (sub p hp)
  refine ⟨.cons ltq d, fun p hp => ?_, ?_, ?_, by rw [List.getLast?_cons_cons]; exact bo, fun p hp => ?_, ⟨q, t :: r', rfl, fun p hp => ?_⟩⟩
  · rcases List.mem_cons.mp hp with rfl | hp
    · exact List.mem_append_right _ List.mem_cons_self
    · exact List.mem_append_left _ (sub p hp)
  · cases r' with
    | nil => trivial
    | cons t2 r2 => exact ⟨tq t2 r2 rfl, tu⟩
  · refine ⟨fun p hp => ?_, ?_⟩
    · rcases List.mem_append.mp hp with hp | hp
      · rcases ltP_tri t p with z | z | z
        · exact H p hp (.inr z)
        · exact H p hp (.inl z.symm)
        · cases r' with
          | nil =>
            have : t = m := by simpa using bo
            rcases C.least p hp with w | w
            · rw [w, this] at z; exact absurd z (ltP_irr m)
            · rw [this] at z; exact absurd (ltP_tr w z) (ltP_irr m)
          | cons t2 r2 =>
            have lt2 : ltP t2 t := List.rel_of_pairwise_cons d List.mem_cons_self
            exact Int.le_of_lt (left_on lt2 (ltq t List.mem_cons_self) z (su.1 p hp) (tq t2 r2 rfl))
      · rw [List.mem_singleton] at hp
        rw [hp]
        have : crs t q q = 0 := by unfold crs; grind
        omega
    · cases r' with
      | nil => trivial
      | cons t2 r2 => exact supp_q r2 t t2 d ltq tu (tq t2 r2 rfl) pre su
  · rcases List.mem_append.mp hp with hp | hp
    · exact C.least p hp
    · rw [List.mem_singleton] at hp
      have lm : ltP m q := ltq m (List.mem_of_getLast? bo)
      rw [hp]; exact .inr lm
  · rcases List.mem_append.mp hp with hp | hp
    · exact .inr (hq p hp)
    · rw [List.mem_singleton] at hp; exact .inl hp
def foldH (P st : List P2) : List P2 := P.foldl (fun st q => q :: popS q st) st
def half (P : List P2) : List P2 := (foldH P []).reverse
theorem ch_fold {m : P2} : ∀ (P pre st : List P2), Ch pre st m → (pre ++ P).Pairwise ltP → Ch (pre ++ P) (foldH P st) m
  | [], pre, st, C, _ => by rw [List.append_nil]; exact C
  | q :: P, pre, st, C, h => by
    have hq : ∀ p ∈ pre, ltP p q := fun p hp => (List.pairwise_append.mp h).2.2 p hp q List.mem_cons_self
    have e : pre ++ q :: P = (pre ++ [q]) ++ P := by rw [List.append_assoc]; rfl
    rw [e] at h ⊢
    exact ch_fold P (pre ++ [q]) (q :: popS q st) (ch_step C hq) h
theorem ch_all {m : P2} {P : List P2} (h : (m :: P).Pairwise ltP) : Ch (m :: P) (foldH (m :: P) []) m := by
  refine ch_fold P [m] [m] ?_ h
  refine ⟨.cons (fun _ z => by cases z) .nil, fun p hp => hp, trivial, trivial, rfl, fun p hp => ?_, ⟨m, [], rfl, fun p hp => ?_⟩⟩
  · rw [List.mem_singleton] at hp; exact .inl hp
  · rw [List.mem_singleton] at hp; exact .inl hp
end PL

namespace PL
/-! ## the corners, said at once -/
def LowP (P : List P2) (p : P2) : Prop := ∀ a ∈ P, ∀ b ∈ P, ltP a p → ltP p b → 0 < crs a p b
def UpP (P : List P2) (p : P2) : Prop := ∀ a ∈ P, ∀ b ∈ P, ltP p a → ltP b p → 0 < crs a p b
instance (P : List P2) (p : P2) : Decidable (LowP P p) := inferInstanceAs (Decidable (∀ a ∈ P, ∀ b ∈ P, ltP a p → ltP p b → 0 < crs a p b))
instance (P : List P2) (p : P2) : Decidable (UpP P p) := inferInstanceAs (Decidable (∀ a ∈ P, ∀ b ∈ P, ltP p a → ltP b p → 0 < crs a p b))
theorem turns_app {r : List P2} : ∀ A : List P2, Turns (A ++ r) → Turns r
  | [], h => h
  | _ :: A, h => turns_app A (turns_tail h)
theorem supp_app {pre r : List P2} : ∀ A : List P2, Supp pre (A ++ r) → Supp pre r
  | [], h => h
  | _ :: A, h => supp_app A (supp_tail h)
theorem gap_of {p m : P2} : ∀ (r : List P2) (s1 : P2), (s1 :: r).getLast? = some m → ltP p s1 → ltP m p → p ∉ s1 :: r → ∃ A a b B, s1 :: r = A ++ a :: b :: B ∧ ltP b p ∧ ltP p a
  | [], s1, hm, h1, h2, _ => by
    have : s1 = m := by simpa using hm
    rw [this] at h1
    exact absurd (ltP_tr h1 h2) (ltP_irr p)
  | s2 :: r, s1, hm, h1, h2, hn => by
    rcases ltP_tri s2 p with z | z | z
    · exact ⟨[], s1, s2, r, rfl, z, h1⟩
    · exact absurd (by rw [← z]; simp) hn
    · rw [List.getLast?_cons_cons] at hm
      obtain ⟨A, a, b, B, e, k⟩ := gap_of r s2 hm z h2 (fun w => hn (List.mem_cons_of_mem _ w))
      exact ⟨s1 :: A, a, b, B, by rw [e]; rfl, k⟩
theorem low_mem {P st : List P2} {m : P2} (C : Ch P st m) (p : P2) : p ∈ st ↔ p ∈ P ∧ LowP P p := by
  obtain ⟨t, r, et, htop⟩ := C.top
  constructor
  · intro hp
    refine ⟨C.sub p hp, fun x hx y hy hxp hpy => ?_⟩
    obtain ⟨A, B, e⟩ := List.append_of_mem hp
    have hB : B ≠ [] := fun z => by
      have := C.bot
      rw [e, z] at this
      have : p = m := by simpa using this
      rw [this] at hxp
      rcases C.least x hx with w | w
      · rw [w] at hxp; exact ltP_irr m hxp
      · exact ltP_irr m (ltP_tr w hxp)
    have hA : A ≠ [] := fun z => by
      rw [z, List.nil_append, et] at e
      have : t = p := (List.cons.inj e).1
      rcases htop y hy with w | w
      · rw [w, this] at hpy; exact ltP_irr p hpy
      · rw [this] at w; exact ltP_irr p (ltP_tr hpy w)
    obtain ⟨A', a, rfl⟩ : ∃ A' a, A = A' ++ [a] := ⟨A.dropLast, A.getLast hA, (List.dropLast_concat_getLast hA).symm⟩
    obtain ⟨b, B', rfl⟩ : ∃ b B', B = b :: B' := by
      cases B with
      | nil => exact absurd rfl hB
      | cons b B' => exact ⟨b, B', rfl⟩
    have e' : st = A' ++ a :: p :: b :: B' := by rw [e, List.append_assoc]; rfl
    have tu := turns_app A' (by rw [← e']; exact C.turns)
    have su := supp_app A' (by rw [← e']; exact C.supp)
    have dn : Down (a :: p :: b :: B') := by
      have := C.down
      rw [e'] at this
      exact (List.pairwise_append.mp this).2.1
    have lpa : ltP p a := List.rel_of_pairwise_cons dn List.mem_cons_self
    have lbp : ltP b p := List.rel_of_pairwise_cons dn.of_cons List.mem_cons_self
    have k1 : 0 ≤ det (sb p x) (sb p b) := by
      have h := su.2.1 x hx
      have : det (sb p x) (sb p b) = crs b p x := by unfold crs det sb; grind
      omega
    have k2 : 0 < det (sb p b) (sb a p) := by rw [← crs_mid]; exact tu.1
    have k3 : 0 ≤ det (sb a p) (sb y p) := by rw [← crs_det]; exact su.1 y hy
    have q1 := (det_tr (pos_lt.mp hxp) (pos_lt.mp lbp) (pos_lt.mp lpa) k1 (by omega)).2 (.inr k2)
    have q2 := (det_tr (pos_lt.mp hxp) (pos_lt.mp lpa) (pos_lt.mp hpy) (by omega) k3).2 (.inl q1)
    rw [crs_mid]; exact q2
  · rintro ⟨hp, hl⟩
    apply Classical.byContradiction
    intro hn
    have h1 : ltP p t := by
      rcases htop p hp with z | z
      · exact absurd (by rw [z, et]; simp) hn
      · exact z
    have h2 : ltP m p := by
      rcases C.least p hp with z | z
      · exact absurd (by rw [z]; exact List.mem_of_getLast? C.bot) hn
      · exact z
    obtain ⟨A, a, b, B, e, lb, la⟩ := gap_of (p := p) (m := m) r t (by rw [← et]; exact C.bot) h1 h2 (by rw [← et]; exact hn)
    rw [← et] at e
    have su := supp_app A (by rw [← e]; exact C.supp)
    have s := su.1 p hp
    have := hl b (C.sub b (by rw [e]; simp)) a (C.sub a (by rw [e]; simp)) lb la
    rw [crs_swap] at this
    omega
theorem half_low {P : List P2} (h : P.Pairwise ltP) : half P = P.filter fun p => decide (LowP P p) := by
  cases P with
  | nil => rfl
  | cons m P =>
    have C := ch_all h
    refine pw_ext ?_ (h.filter _) fun x => ?_
    · unfold half
      rw [List.pairwise_reverse]; exact C.down
    · unfold half
      rw [List.mem_reverse, low_mem C, List.mem_filter, decide_eq_true_eq]
/-! ### the other side -/
def ng (p : P2) : P2 := (-p.1, -p.2)
theorem ng_ng (p : P2) : ng (ng p) = p := by unfold ng; ext <;> simp
theorem crs_ng (a b c : P2) : crs (ng a) (ng b) (ng c) = crs a b c := by unfold crs ng; grind
theorem lt_ng {a b : P2} : ltP (ng a) (ng b) ↔ ltP b a := by unfold ltP ng; dsimp only; omega
theorem pop_ng (q : P2) : ∀ (r : List P2) (s : P2), popS (ng q) ((s :: r).map ng) = (popS q (s :: r)).map ng
  | [], s => rfl
  | s2 :: r, s => by
    show (if crs (ng s2) (ng s) (ng q) ≤ 0 then popS (ng q) ((s2 :: r).map ng) else (s :: s2 :: r).map ng) = (if crs s2 s q ≤ 0 then popS q (s2 :: r) else s :: s2 :: r).map ng
    rw [crs_ng, pop_ng q r s2]
    split <;> rfl
theorem fold_ng : ∀ (P st : List P2), foldH (P.map ng) (st.map ng) = (foldH P st).map ng
  | [], _ => rfl
  | q :: P, st => by
    have e : ng q :: popS (ng q) (st.map ng) = (q :: popS q st).map ng := by
      cases st with
      | nil => rfl
      | cons s r => rw [pop_ng]; rfl
    show foldH (P.map ng) (ng q :: popS (ng q) (st.map ng)) = (foldH P (q :: popS q st)).map ng
    rw [e, fold_ng P]
theorem half_ng (P : List P2) : half (P.map ng) = (half P).map ng := by
  unfold half
  have := fold_ng P []
  rw [List.map_nil] at this
  rw [this, List.map_reverse]
theorem half_up {P : List P2} (h : P.Pairwise ltP) : half P.reverse = P.reverse.filter fun p => decide (UpP P p) := by
  have h' : (P.reverse.map ng).Pairwise ltP := by
    rw [List.pairwise_map, List.pairwise_reverse]
    exact h.imp fun {a b} k => lt_ng.mpr k
  have e : half P.reverse = (half (P.reverse.map ng)).map ng := by
    rw [half_ng, List.map_map]
    have : (ng ∘ ng : P2 → P2) = id := funext ng_ng
    rw [this, List.map_id]
  rw [e, half_low h', List.filter_map, List.map_map]
  have : (ng ∘ ng : P2 → P2) = id := funext ng_ng
  rw [this, List.map_id]
  refine List.filter_congr fun p hp => ?_
  rw [Function.comp, decide_eq_decide]
  constructor
  · intro k a ha b hb h1 h2
    have := k (ng a) (List.mem_map.mpr ⟨a, List.mem_reverse.mpr ha, rfl⟩) (ng b) (List.mem_map.mpr ⟨b, List.mem_reverse.mpr hb, rfl⟩) (lt_ng.mpr h1) (lt_ng.mpr h2)
    rw [crs_ng] at this
    exact this
  · intro k a ha b hb h1 h2
    obtain ⟨a', ha', rfl⟩ := List.mem_map.mp ha
    obtain ⟨b', hb', rfl⟩ := List.mem_map.mp hb
    rw [crs_ng]
    exact k a' (List.mem_reverse.mp ha') b' (List.mem_reverse.mp hb') (lt_ng.mp h1) (lt_ng.mp h2)
/-! ### the hull -/
def LH (P : List P2) : List P2 := P.filter fun p => decide (LowP P p)
def UH (P : List P2) : List P2 := P.reverse.filter fun p => decide (UpP P p)
def hullP (P : List P2) : List P2 := if P.length = 1 then P else (LH P).dropLast ++ (UH P).dropLast
theorem mem_LH {P : List P2} {p : P2} : p ∈ LH P ↔ p ∈ P ∧ LowP P p := by unfold LH; rw [List.mem_filter, decide_eq_true_eq]
theorem mem_UH {P : List P2} {p : P2} : p ∈ UH P ↔ p ∈ P ∧ UpP P p := by unfold UH; rw [List.mem_filter, decide_eq_true_eq, List.mem_reverse]
theorem LH_pw {P : List P2} (h : P.Pairwise ltP) : (LH P).Pairwise ltP := h.filter _
theorem UH_pw {P : List P2} (h : P.Pairwise ltP) : (UH P).Pairwise fun a b => ltP b a := (List.pairwise_reverse.mpr h).filter _
theorem first_le {P : List P2} {m : P2} {r : List P2} (h : (m :: r).Pairwise ltP) {p : P2} (hp : p ∈ m :: r) : p = m ∨ ltP m p := by
  rcases List.mem_cons.mp hp with rfl | hp
  · exact .inl rfl
  · exact .inr (List.rel_of_pairwise_cons h hp)
theorem last_ge {P : List P2} {g : P2} (h : P.Pairwise ltP) (hg : P.getLast? = some g) {p : P2} (hp : p ∈ P) : p = g ∨ ltP p g := by
  obtain ⟨r, e⟩ := List.getLast?_eq_some_iff.mp hg
  rw [e] at h hp
  rcases List.mem_append.mp hp with hp | hp
  · exact .inr ((List.pairwise_append.mp h).2.2 p hp g List.mem_cons_self)
  · rw [List.mem_singleton] at hp; exact .inl hp
theorem low_first {m : P2} {r : List P2} (h : (m :: r).Pairwise ltP) : LowP (m :: r) m := fun a ha b hb h1 h2 => by
  rcases first_le (P := r) h ha with z | z
  · rw [z] at h1; exact absurd h1 (ltP_irr m)
  · exact absurd (ltP_tr h1 z) (ltP_irr a)
theorem up_first {m : P2} {r : List P2} (h : (m :: r).Pairwise ltP) : UpP (m :: r) m := fun a ha b hb h1 h2 => by
  rcases first_le (P := r) h hb with z | z
  · rw [z] at h2; exact absurd h2 (ltP_irr m)
  · exact absurd (ltP_tr h2 z) (ltP_irr b)
theorem low_last {P : List P2} {g : P2} (h : P.Pairwise ltP) (hg : P.getLast? = some g) : LowP P g := fun a ha b hb h1 h2 => by
  rcases last_ge h hg hb with z | z
  · rw [z] at h2; exact absurd h2 (ltP_irr g)
  · exact absurd (ltP_tr h2 z) (ltP_irr g)
theorem up_last {P : List P2} {g : P2} (h : P.Pairwise ltP) (hg : P.getLast? = some g) : UpP P g := fun a ha b hb h1 h2 => by
  rcases last_ge h hg ha with z | z
  · rw [z] at h1; exact absurd h1 (ltP_irr g)
  · exact absurd (ltP_tr h1 z) (ltP_irr g)
/-- none is on both sides but the ends -/
theorem not_both {P : List P2} {m g p : P2} (hm : m ∈ P) (hg : g ∈ P) (h1 : ltP m p) (h2 : ltP p g) (l : LowP P p) (u : UpP P p) : False := by
  have a := l m hm g hg h1 h2
  have b := u g hg m hm h2 h1
  have : crs g p m = - crs m p g := by unfold crs; grind
  omega
theorem last_is {R : P2 → P2 → Prop} {l : List P2} {g : P2} (h : l.Pairwise R) (hg : g ∈ l) (hl : ∀ p ∈ l, ¬ R g p) : l.getLast? = some g := by
  obtain ⟨A, B, e⟩ := List.append_of_mem hg
  cases B with
  | nil => rw [e]; simp
  | cons b B =>
    rw [e] at h
    have := List.rel_of_pairwise_cons (List.pairwise_append.mp h).2.1 (List.mem_cons_self (a := b) (l := B))
    exact absurd this (hl b (by rw [e]; simp))
theorem mem_drop {l : List P2} {g p : P2} (n : l.Nodup) (hg : l.getLast? = some g) : p ∈ l.dropLast ↔ p ∈ l ∧ p ≠ g := by
  obtain ⟨r, e⟩ := List.getLast?_eq_some_iff.mp hg
  rw [e] at n ⊢
  rw [List.dropLast_concat]
  constructor
  · intro h
    refine ⟨List.mem_append_left _ h, fun z => ?_⟩
    rw [z] at h
    exact (List.nodup_append.mp n).2.2 g h g (by simp) rfl
  · rintro ⟨h, k⟩
    rcases List.mem_append.mp h with h | h
    · exact h
    · rw [List.mem_singleton] at h; exact absurd h k
theorem nd_of {l : List P2} (h : l.Pairwise ltP) : l.Nodup := List.Pairwise.imp (S := fun a b => a ≠ b) (fun {a b} k e => ltP_irr a (by rw [← e] at k; exact k)) h
theorem nd_of' {l : List P2} (h : l.Pairwise fun a b => ltP b a) : l.Nodup := List.Pairwise.imp (S := fun a b => a ≠ b) (fun {a b} k e => ltP_irr a (by rw [← e] at k; exact k)) h
theorem LH_last {P : List P2} {g : P2} (h : P.Pairwise ltP) (hg : P.getLast? = some g) : (LH P).getLast? = some g := by
  refine last_is (LH_pw h) (mem_LH.mpr ⟨List.mem_of_getLast? hg, low_last h hg⟩) fun p hp k => ?_
  rcases last_ge h hg (mem_LH.mp hp).1 with z | z
  · rw [z] at k; exact ltP_irr g k
  · exact ltP_irr g (ltP_tr k z)
theorem UH_last {m : P2} {r : List P2} (h : (m :: r).Pairwise ltP) : (UH (m :: r)).getLast? = some m := by
  refine last_is (UH_pw h) (mem_UH.mpr ⟨List.mem_cons_self, up_first h⟩) fun p hp k => ?_
  rcases first_le (P := r) h (mem_UH.mp hp).1 with z | z
  · rw [z] at k; exact ltP_irr m k
  · exact ltP_irr m (ltP_tr z k)
/-- the corners -/
theorem mem_hull {m g : P2} {r : List P2} (h : (m :: r).Pairwise ltP) (hg : (m :: r).getLast? = some g) {p : P2} (hr : r ≠ []) : p ∈ hullP (m :: r) ↔ (p ∈ m :: r ∧ LowP (m :: r) p ∧ p ≠ g) ∨ (p ∈ m :: r ∧ UpP (m :: r) p ∧ p ≠ m) := by
  unfold hullP
  rw [if_neg (by rw [List.length_cons]; have := List.length_pos_iff.mpr hr; omega), List.mem_append, mem_drop (nd_of (LH_pw h)) (LH_last h hg), mem_drop (nd_of' (UH_pw h)) (UH_last h), mem_LH, mem_UH, and_assoc, and_assoc]
theorem mg_lt {m g : P2} {r : List P2} (h : (m :: r).Pairwise ltP) (hg : (m :: r).getLast? = some g) (hr : r ≠ []) : ltP m g := by
  cases r with
  | nil => exact absurd rfl hr
  | cons b r =>
    rcases last_ge h hg List.mem_cons_self with z | z
    · rcases last_ge h hg (List.mem_cons_of_mem _ List.mem_cons_self) with w | w
      · have := List.rel_of_pairwise_cons h (List.mem_cons_self (a := b) (l := r))
        rw [w, z] at this
        exact absurd this (ltP_irr g)
      · have := List.rel_of_pairwise_cons h (List.mem_cons_self (a := b) (l := r))
        rw [z] at this
        exact absurd (ltP_tr this w) (ltP_irr g)
    · exact z
theorem hull_nodup {P : List P2} (h : P.Pairwise ltP) : (hullP P).Nodup := by
  cases P with
  | nil => exact .nil
  | cons m r =>
    by_cases hr : r = []
    · rw [hr]; exact nd_of (l := [m]) (.cons (fun _ z => by cases z) .nil)
    · obtain ⟨g, hg⟩ : ∃ g, (m :: r).getLast? = some g := ⟨_, List.getLast?_eq_some_getLast (by simp)⟩
      have hmg := mg_lt h hg hr
      unfold hullP
      rw [if_neg (by rw [List.length_cons]; have := List.length_pos_iff.mpr hr; omega)]
      refine List.nodup_append.mpr ⟨(nd_of (LH_pw h)).sublist (List.dropLast_sublist _), (nd_of' (UH_pw h)).sublist (List.dropLast_sublist _), fun a ha b hb e => ?_⟩
      subst e
      rw [mem_drop (nd_of (LH_pw h)) (LH_last h hg), mem_LH] at ha
      rw [mem_drop (nd_of' (UH_pw h)) (UH_last h), mem_UH] at hb
      refine not_both List.mem_cons_self (List.mem_of_getLast? hg) ?_ ?_ ha.1.2 hb.1.2
      · rcases first_le (P := r) h ha.1.1 with z | z
        · exact absurd z hb.2
        · exact z
      · rcases last_ge h hg ha.1.1 with z | z
        · exact absurd z ha.2
        · exact z
theorem hull_sub {P : List P2} {p : P2} (h : p ∈ hullP P) : p ∈ P := by
  unfold hullP at h
  split at h
  · exact h
  · rcases List.mem_append.mp h with h | h
    · exact (mem_LH.mp ((List.dropLast_sublist _).subset h)).1
    · exact (mem_UH.mp ((List.dropLast_sublist _).subset h)).1
end PL

namespace PL
open PySem PySem.Spec PyProof.Rows L2
/-! ## the walk of hull -/
def SmP (p : P2) : Prop := -1000 ≤ p.1 ∧ p.1 ≤ 1000 ∧ -1000 ≤ p.2 ∧ p.2 ≤ 1000
theorem crs_ok {a b : P2} (c : P2) (ha : SmP a) (hb : SmP b) : f_crossed [prD a, prD b, prD c] = .ok (.int (crs a b c)) := B3.crossed_ok c ha hb
abbrev hst (A : Sl) (st : List P2) (q : Sl) : SE := [A, .own (st.reverse.map prD), q]
theorem lastN {l : List D} {a b : D} {r : List D} (e : l = r ++ [b, a]) : atI l (-1) = some a ∧ atI l (-2) = some b := by
  subst e
  have h : (r ++ [b, a]).length = r.length + 2 := by simp
  refine ⟨atI_last (by simp), ?_⟩
  unfold atI ixN
  rw [h, if_neg (by decide), if_pos (by omega)]
  have : (-2 + ((r.length + 2 : Nat) : Int)).toNat = r.length := by omega
  show (r ++ [b, a])[(-2 + ((r.length + 2 : Nat) : Int)).toNat]? = _
  rw [this, List.getElem?_append_right (Nat.le_refl _), Nat.sub_self]; rfl
theorem pop_while {A : Sl} {q : P2} : ∀ (n : Nat) (r : List P2) (s1 : P2), (∀ p ∈ s1 :: r, SmP p) → r.length < n →
    whileM (fun s => (ev (.and (.prim pGt (.cons (.prim pLen (.cons (.v 1) .nil)) (.cons (.c (.int 1)) .nil))) (.prim pLe (.cons (.call "crossed" f_crossed (.cons (.prim pIx (.cons (.v 1) (.cons (.prim pNeg (.cons (.c (.int 2)) .nil)) .nil))) (.cons (.prim pIx (.cons (.v 1) (.cons (.prim pNeg (.cons (.c (.int 1)) .nil)) .nil))) (.cons (.v 2) .nil)))) (.cons (.c (.int 0)) .nil)))) (full s)).bind truth) (fun s => run (.cons (.pop 1) .nil) s) n (hst A (s1 :: r) (.ro (prD q))) = .nx (hst A (popS q (s1 :: r)) (.ro (prD q)))
  | 0, _, _, _, h => absurd h (by omega)
  | n + 1, [], s1, _, _ => rfl
  | n + 1, s2 :: r, s1, hs, hn => by
    rw [List.length_cons] at hn
    have e : ((s1 :: s2 :: r).reverse.map prD) = r.reverse.map prD ++ [prD s2, prD s1] := by simp
    obtain ⟨i1, i2⟩ := lastN e
    have len : opLen (.lst ((s1 :: s2 :: r).reverse.map prD)) = some (.int ((r.length + 2 : Nat) : Int)) := by
      show some (D.int (((s1 :: s2 :: r).reverse.map prD).length : Nat)) = _
      rw [List.length_map, List.length_reverse, List.length_cons, List.length_cons]
    have cond : ev (.and (.prim pGt (.cons (.prim pLen (.cons (.v 1) .nil)) (.cons (.c (.int 1)) .nil))) (.prim pLe (.cons (.call "crossed" f_crossed (.cons (.prim pIx (.cons (.v 1) (.cons (.prim pNeg (.cons (.c (.int 2)) .nil)) .nil))) (.cons (.prim pIx (.cons (.v 1) (.cons (.prim pNeg (.cons (.c (.int 1)) .nil)) .nil))) (.cons (.v 2) .nil)))) (.cons (.c (.int 0)) .nil)))) (full (hst A (s1 :: s2 :: r) (.ro (prD q)))) = .ok (.bl (decide (crs s2 s1 q ≤ 0))) :=
      eandT ((egt (e1 (x := .lst ((s1 :: s2 :: r).reverse.map prD)) rfl len) ki).trans (by rw [decide_eq_true (by omega)])) (ele (ec (lc (e2 (x := .lst ((s1 :: s2 :: r).reverse.map prD)) rfl (e1 ki rfl) i2) (lc (e2 (x := .lst ((s1 :: s2 :: r).reverse.map prD)) rfl (e1 ki rfl) i1) (lc rfl l0))) (crs_ok q (hs s2 (by simp)) (hs s1 (by simp)))) ki)
    unfold whileM
    rw [cond]
    show (if decide (crs s2 s1 q ≤ 0) = true then seqO (run (.cons (.pop 1) .nil) (hst A (s1 :: s2 :: r) (.ro (prD q)))) (whileM _ _ n) else Out.nx (hst A (s1 :: s2 :: r) (.ro (prD q)))) = _
    unfold popS
    by_cases k : crs s2 s1 q ≤ 0
    · rw [decide_eq_true k, if_pos rfl, if_pos k]
      have pp : run (.cons (.pop 1) .nil) (hst A (s1 :: s2 :: r) (.ro (prD q))) = .nx (hst A (s2 :: r) (.ro (prD q))) := by
        refine rc (s' := hst A (s2 :: r) (.ro (prD q))) ?_ rfl
        show popD 1 (hst A (s1 :: s2 :: r) (.ro (prD q))) ((s1 :: s2 :: r).reverse.map prD) = _
        unfold popD
        have ne : ((s1 :: s2 :: r).reverse.map prD).isEmpty = false := by rw [e]; cases r.reverse.map prD <;> rfl
        rw [ne, if_neg Bool.false_ne_true]
        have dl : ((s1 :: s2 :: r).reverse.map prD).dropLast = (s2 :: r).reverse.map prD := by
          rw [e]
          have : r.reverse.map prD ++ [prD s2, prD s1] = (r.reverse.map prD ++ [prD s2]) ++ [prD s1] := by simp
          rw [this, List.dropLast_concat]; simp
        rw [dl]; rfl
      rw [pp]
      exact pop_while n r s2 (fun p hp => hs p (List.mem_cons_of_mem _ hp)) (by omega)
    · rw [decide_eq_false k, if_neg Bool.false_ne_true, if_neg k]
theorem pop_mem {q p : P2} : ∀ {r : List P2} {s : P2}, p ∈ popS q (s :: r) → p ∈ s :: r
  | [], s, h => h
  | s2 :: r, s, h => by
    unfold popS at h
    split at h
    · exact List.mem_cons_of_mem _ (pop_mem h)
    · exact h
theorem pop_len {q : P2} : ∀ (r : List P2) (s : P2), (popS q (s :: r)).length ≤ r.length + 1
  | [], s => Nat.le_refl _
  | s2 :: r, s => by
    unfold popS
    split
    · have := pop_len (q := q) r s2
      rw [List.length_cons]; omega
    · exact Nat.le_refl _
theorem half_step {A : Sl} {q : P2} {X : Sl} (st : List P2) (hs : ∀ p ∈ st, SmP p) (hl : st.length < 1000) : run (S.loop (S.drop b_half_hull 1)) (hst A st (.ro (prD q))) = .nx (hst A (q :: popS q st) (.ro (prD q))) := by
  have ap : ∀ st' : List P2, st'.length < 1001 → run (.cons (.app true 1 (.v 2)) .nil) (hst A st' (.ro (prD q))) = .nx (hst A (q :: st') (.ro (prD q))) := fun st' hl' => by
    refine rapp (l := st'.reverse.map prD) (d := prD q) rfl rfl rfl (by rw [List.length_map, List.length_reverse]; unfold sizeD; omega) ?_
    have : st'.reverse.map prD ++ [prD q] = (q :: st').reverse.map prD := by simp
    rw [this]; rfl
  cases st with
  | nil =>
    refine rc (s' := hst A [] (.ro (prD q))) ?_ (ap [] (by simp))
    rfl
  | cons s1 r =>
    rw [List.length_cons] at hl
    have := pop_len (q := q) r s1
    refine rc (s' := hst A (popS q (s1 :: r)) (.ro (prD q))) ?_ (ap _ (by omega))
    exact pop_while _ r s1 hs (by omega)
theorem half_loop {A : Sl} (f : SE → Out) (hf : f = fun s => run (S.loop (S.drop b_half_hull 1)) s) : ∀ (P : List P2), (∀ p ∈ P, SmP p) → ∀ (st : List P2) (X : Sl), (∀ p ∈ st, SmP p) → st.length + P.length < 900 →
    ∃ X', forM f (.name 2) (P.map prD) (hst A st X) = .nx (hst A (foldH P st) X')
  | [], _, st, X, _, _ => ⟨X, rfl⟩
  | q :: P, hP, st, X, hst_, hl => by
    rw [List.length_cons] at hl
    have m' : ∀ p ∈ q :: popS q st, SmP p := fun p hp => by
      rcases List.mem_cons.mp hp with rfl | hp
      · exact hP p List.mem_cons_self
      · cases st with
        | nil => cases hp
        | cons s r => exact hst_ p (pop_mem hp)
    have l' : (q :: popS q st).length ≤ st.length + 1 := by
      rw [List.length_cons]
      cases st with
      | nil => exact Nat.le_refl _
      | cons s r => have := pop_len (q := q) r s; rw [List.length_cons]; omega
    obtain ⟨X', e⟩ := half_loop f hf P (fun p hp => hP p (List.mem_cons_of_mem _ hp)) (q :: popS q st) (.ro (prD q)) m' (by omega)
    refine ⟨X', ?_⟩
    have fe : f (hst A st (.ro (prD q))) = run (S.loop (S.drop b_half_hull 1)) (hst A st (.ro (prD q))) := by rw [hf]
    show seqO (f (hst A st (.ro (prD q)))) (forM f (.name 2) (P.map prD)) = _
    rw [fe, half_step (X := .no) st hst_ (by omega)]
    exact e
theorem iseqH {a : E} {ρ : En} {x : D} {ds : List D} (h1 : ev a ρ = .ok x) (h : itemsD x = .ok ds) : evI (.seq a) ρ = .ok ds := by
  show (ev a ρ).bind itemsD = _
  rw [h1]; exact h
theorem half_ok {P : List P2} (h : ∀ p ∈ P, SmP p) (hl : P.length < 800) : f_half_hull [.lst (P.map prD)] = .ok (.lst ((half P).map prD)) := by
  obtain ⟨X', e⟩ := half_loop (A := .ro (.lst (P.map prD))) _ rfl P h [] .no (fun p hp => by cases hp) (by rw [List.length_nil]; omega)
  exact rcall rfl (rown (l := []) rfl rfl (rfor (s := hst (.ro (.lst (P.map prD))) [] .no) (iseqH (x := .lst (P.map prD)) rfl rfl) e (rret rfl)))
end PL

namespace PL
open PySem PySem.Spec PyProof.Rows L2
/-! ## hull, box -/
theorem cut_dl {α : Type} (xs : List α) : cutG xs none (some (-1)) = xs.dropLast := by
  unfold cutG
  rw [HT.sIx_none, List.drop_zero]
  have : HT.sIx xs.length xs.length (some (-1)) = xs.length - 1 := by
    unfold HT.sIx
    simp
    omega
  rw [this, Nat.sub_zero, List.dropLast_eq_take]
def pts (l : List P3) : List P2 := l.map fun p => p.2
def corners (l : List P3) : List P2 := hullP (ssP (pts l))
theorem ssP_len : ∀ l : List P2, (ssP l).length ≤ l.length
  | [] => Nat.le_refl _
  | a :: r => by
    have h := ssP_len r
    have ins : ∀ m : List P2, (insS a m).length ≤ m.length + 1 := by
      intro m
      induction m with
      | nil => exact Nat.le_refl _
      | cons b m ih =>
        unfold insS
        split
        · simp
        · split
          · simp
          · rw [List.length_cons, List.length_cons]; omega
    have := ins (ssP r)
    show (insS a (ssP r)).length ≤ r.length + 1
    omega
theorem hull_ok {l : List P3} (G : Good l) : f_hull [trk l] = .ok (.lst ((corners l).map prD)) := by
  have hl := G.le
  have ss : opSortedSet (.lst (l.map plD)) = some (.lst ((ssP (pts l)).map prD)) := by
    have e : l.map plD = (pts l).map prD := by unfold pts; rw [List.map_map]; rfl
    rw [e]
    show ((pairsD ((pts l).map prD)).bind fun ps => if ps.length < 64 then some (D.lst ((ssP ps).map prD)) else none) = _
    rw [pairsD_map]
    show (if (pts l).length < 64 then some (D.lst ((ssP (pts l)).map prD)) else none) = _
    rw [if_pos (by unfold pts; rw [List.length_map]; omega)]
  have pw := ssP_pw (pts l)
  have sl := ssP_len (pts l)
  have pl : (pts l).length = l.length := by unfold pts; rw [List.length_map]
  have sm : ∀ p ∈ ssP (pts l), SmP p := fun p hp => by
    rw [ssP_mem] at hp
    obtain ⟨q, hq, rfl⟩ := List.mem_map.mp hp
    have := G.pt q hq
    unfold InPt at this
    unfold SmP
    omega
  refine rcall rfl (rexpr (ec (lc rfl l0) (look_ok G)) (rset (d := .lst ((ssP (pts l)).map prD)) (e1 (ec (lc rfl l0) (places_ok l (by omega))) ss) rfl ?_))
  unfold corners
  generalize ssP (pts l) = P at *
  have len : opLen (.lst (P.map prD)) = some (.int (P.length : Nat)) := by
    show some (D.int ((P.map prD).length : Nat)) = _
    rw [List.length_map]
  have tst := e2 (p := pEq) (e1 (p := pLen) (a := .v 1) (ρ := full [.ro (trk l), .ro (.lst (P.map prD))]) (x := .lst (P.map prD)) rfl len) (ki (k := 1)) (o_eqI (P.length : Nat) 1)
  unfold hullP
  by_cases h1 : P.length = 1
  · rw [decide_eq_true (by omega)] at tst
    rw [if_pos h1]
    exact riteT (s := [.ro (trk l), .ro (.lst (P.map prD))]) tst (rret rfl)
  · rw [decide_eq_false (by omega)] at tst
    rw [if_neg h1]
    refine riteF (s := [.ro (trk l), .ro (.lst (P.map prD))]) tst ?_
    have u1 := half_ok sm (by omega)
    have u2 := half_ok (P := P.reverse) (fun p hp => sm p (List.mem_reverse.mp hp)) (by rw [List.length_reverse]; omega)
    rw [half_low pw] at u1
    rw [half_up pw] at u2
    have c1 : ∀ xs : List P2, opSlU (.lst (xs.map prD)) (.int (-1)) = some (.lst (xs.dropLast.map prD)) := fun xs => by
      show some (D.lst (cutG (xs.map prD) none (some (-1)))) = _
      rw [cut_dl, List.map_dropLast]
    have ad : opAdd (.lst ((LH P).dropLast.map prD)) (.lst ((UH P).dropLast.map prD)) = some (.lst (((LH P).dropLast ++ (UH P).dropLast).map prD)) := by
      have l1 : (LH P).length ≤ P.length := List.length_filter_le _ _
      have l2 : (UH P).length ≤ P.length := by
        have := List.length_filter_le (fun p => decide (UpP P p)) P.reverse
        rw [List.length_reverse] at this
        exact this
      show (if ((LH P).dropLast.map prD).length + ((UH P).dropLast.map prD).length ≤ sizeD then some (D.lst _) else none) = _
      rw [if_pos (by rw [List.length_map, List.length_map, List.length_dropLast, List.length_dropLast]; unfold sizeD; omega), List.map_append]
    refine rret (e2 (e2 (ec (lc rfl l0) u1) (e1 ki rfl) (c1 (LH P))) (e2 (ec (lc (e1 (x := .lst (P.map prD)) (d := .lst (P.reverse.map prD)) rfl ?_) l0) u2) (e1 ki rfl) (c1 (UH P))) ad)
    show some (D.lst (P.map prD).reverse) = _
    rw [List.map_reverse]
def loI (l : List P3) (g : P3 → Int) : Int := botI (l.map g)
def hiI (l : List P3) (g : P3 → Int) : Int := topI (l.map g)
theorem box_ok {l : List P3} (G : Good l) : f_box [trk l] = .ok (.tup [.int (loI l fun p => p.2.1), .int (loI l fun p => p.2.2), .int (hiI l fun p => p.2.1), .int (hiI l fun p => p.2.2)]) := by
  have hl := G.le
  have mn := fun g => B2.min_map (l := l) g G.ne
  have mx := fun g => B2.max_map (l := l) g G.ne
  refine rcall rfl (rexpr (ec (lc rfl l0) (look_ok G)) (rset (d := .lst [.lst (l.map fun p : P3 => D.int p.2.1), .lst (l.map fun p : P3 => D.int p.2.2)]) ((ecomp [((1 : Int), fun p : P3 => p.2.1), (2, fun p : P3 => p.2.2)] (fun k => .int k.1) (fun k => .lst (l.map fun p => .int (k.2 p))) rfl (by simp) fun k hk => ?_).trans rfl) rfl ?_))
  · refine ⟨_, rfl, ecomp l ptD (fun p => .int (k.2 p)) rfl (by omega) fun p hp => ⟨_, rfl, ?_⟩⟩
    simp only [List.mem_cons, List.not_mem_nil, or_false] at hk
    rcases hk with rfl | rfl
    · exact e2 (x := ptD p) rfl rfl rfl
    · exact e2 (x := ptD p) rfl rfl rfl
  · have key : ev (.prim pTup (.cons (.prim pMin1 (.cons (.prim pIx (.cons (.v 1) (.cons (.c (.int 0)) .nil))) .nil)) (.cons (.prim pMin1 (.cons (.prim pIx (.cons (.v 1) (.cons (.c (.int 1)) .nil))) .nil)) (.cons (.prim pMax1 (.cons (.prim pIx (.cons (.v 1) (.cons (.c (.int 0)) .nil))) .nil)) (.cons (.prim pMax1 (.cons (.prim pIx (.cons (.v 1) (.cons (.c (.int 1)) .nil))) .nil)) .nil))))) (full [.ro (trk l), .ro (.lst [.lst (l.map fun p : P3 => D.int p.2.1), .lst (l.map fun p : P3 => D.int p.2.2)]), .no, .no]) = .ok (.tup [.int (loI l fun p => p.2.1), .int (loI l fun p => p.2.2), .int (hiI l fun p => p.2.1), .int (hiI l fun p => p.2.2)]) :=
      en (lc (e1 (p := pMin1) (e2 (p := pIx) (a := .v 1) (x := (.lst [.lst (l.map fun p : P3 => D.int p.2.1), .lst (l.map fun p : P3 => D.int p.2.2)])) rfl (ki (k := 0)) rfl) (mn fun p => p.2.1)) (lc (e1 (p := pMin1) (e2 (p := pIx) (a := .v 1) (x := (.lst [.lst (l.map fun p : P3 => D.int p.2.1), .lst (l.map fun p : P3 => D.int p.2.2)])) rfl (ki (k := 1)) rfl) (mn fun p => p.2.2)) (lc (e1 (p := pMax1) (e2 (p := pIx) (a := .v 1) (x := (.lst [.lst (l.map fun p : P3 => D.int p.2.1), .lst (l.map fun p : P3 => D.int p.2.2)])) rfl (ki (k := 0)) rfl) (mx fun p => p.2.1)) (lc (e1 (p := pMax1) (e2 (p := pIx) (a := .v 1) (x := (.lst [.lst (l.map fun p : P3 => D.int p.2.1), .lst (l.map fun p : P3 => D.int p.2.2)])) rfl (ki (k := 1)) rfl) (mx fun p => p.2.2)) l0)))) rfl
    exact rret (s := [.ro (trk l), .ro (.lst [.lst (l.map fun p : P3 => D.int p.2.1), .lst (l.map fun p : P3 => D.int p.2.2)]), .no, .no]) key
theorem corner_pt {l : List P3} {c : P2} (h : c ∈ corners l) : ∃ p ∈ l, p.2 = c := by
  have := hull_sub h
  rw [ssP_mem] at this
  obtain ⟨p, hp, e⟩ := List.mem_map.mp this
  exact ⟨p, hp, e⟩
end PL

namespace PL
/-! ## corners are what a line touches alone -/
def lin (n p : P2) : Int := n.1 * p.1 + n.2 * p.2
def Expo (P : List P2) (p : P2) : Prop := p ∈ P ∧ ∃ n : P2, ∀ q ∈ P, q ≠ p → lin n q < lin n p
theorem ppos {c x : Int} (hc : 0 < c) (h : 0 < c * x) : 0 < x := by
  apply Classical.byContradiction
  intro hn
  have := Int.mul_le_mul_of_nonneg_left (show x ≤ 0 by omega) (Int.le_of_lt hc)
  rw [Int.mul_zero] at this
  omega
theorem pos_of_mul {c : Int} {M : P2} (hc : 0 < c) (h : pos (c * M.1, c * M.2)) : pos M := by
  unfold pos at *
  dsimp only at h
  rcases h with h | ⟨h, h'⟩
  · exact .inl (ppos hc h)
  · refine .inr ⟨?_, ?_⟩
    · rcases Int.mul_eq_zero.mp h with z | z
      · omega
      · exact z
    · exact ppos hc h'
theorem pos_ng {M : P2} (h : pos M) (k : pos (ng M)) : False := by
  unfold pos ng at *
  dsimp only at k
  omega
theorem lin_comb {n U V : P2} (pV : pos V) (pU : pos (ng U)) (hU : lin n U < 0) (hV : lin n V < 0) : pos (det U V * n.2, det U V * (-n.1)) := by
  have h := pos_comb (a := -lin n U) (b := -lin n V) (W := V) (U := ng U) (by omega) (by omega) (.inl (by omega)) pV pU
  have e1 : -lin n U * V.1 + -lin n V * (ng U).1 = det U V * n.2 := by unfold lin det ng; grind
  have e2 : -lin n U * V.2 + -lin n V * (ng U).2 = det U V * (-n.1) := by unfold lin det ng; grind
  rw [e1, e2] at h
  exact h
theorem expo_side {P : List P2} {p : P2} (h : Expo P p) : LowP P p ∨ UpP P p := by
  apply Classical.byContradiction
  intro hn
  have n1 : ¬ LowP P p := fun z => hn (.inl z)
  have n2 : ¬ UpP P p := fun z => hn (.inr z)
  obtain ⟨hp, n, hf⟩ := h
  unfold LowP at n1
  unfold UpP at n2
  simp only [Classical.not_forall] at n1 n2
  obtain ⟨a, ha, b, hb, h1, h2, h3⟩ := n1
  obtain ⟨a', ha', b', hb', k1, k2, k3⟩ := n2
  have fl : ∀ {q}, q ∈ P → q ≠ p → lin n (sb q p) < 0 := fun {q} hq hne => by
    have := hf q hq hne
    have e : lin n (sb q p) = lin n q - lin n p := by unfold lin sb; grind
    omega
  have ne : ∀ {x y : P2}, ltP x y → x ≠ y := fun h e => by rw [e] at h; exact ltP_irr _ h
  have q1 := lin_comb (n := n) (U := sb a p) (V := sb b p) (pos_lt.mp h2) (by have := pos_lt.mp h1; unfold ng sb; unfold sb at this; dsimp only at *; rw [show -(a.1 - p.1) = p.1 - a.1 by omega, show -(a.2 - p.2) = p.2 - a.2 by omega]; exact this) (fl ha (ne h1)) (fl hb (fun e => ne h2 e.symm))
  have q2 := lin_comb (n := n) (U := sb b' p) (V := sb a' p) (pos_lt.mp k1) (by have := pos_lt.mp k2; unfold ng sb; unfold sb at this; dsimp only at *; rw [show -(b'.1 - p.1) = p.1 - b'.1 by omega, show -(b'.2 - p.2) = p.2 - b'.2 by omega]; exact this) (fl hb' (ne k2)) (fl ha' (fun e => ne k1 e.symm))
  have d1 : det (sb a p) (sb b p) = - crs a p b := by unfold det sb crs; grind
  have d2 : det (sb b' p) (sb a' p) = crs a' p b' := by unfold det sb crs; grind
  have nz : ∀ {c : Int} {M : P2}, pos (c * M.1, c * M.2) → c ≠ 0 := fun {c M} h e => by
    rw [e] at h
    unfold pos at h
    simp at h
  have z1 := nz (M := (n.2, -n.1)) q1
  have z2 := nz (M := (n.2, -n.1)) q2
  have p1 : pos (n.2, -n.1) := pos_of_mul (c := det (sb a p) (sb b p)) (by omega) q1
  have p2 : pos (ng (n.2, -n.1)) := by
    refine pos_of_mul (c := - det (sb b' p) (sb a' p)) (by omega) ?_
    have e1 : -det (sb b' p) (sb a' p) * (ng (n.2, -n.1)).1 = det (sb b' p) (sb a' p) * n.2 := by unfold ng; grind
    have e2 : -det (sb b' p) (sb a' p) * (ng (n.2, -n.1)).2 = det (sb b' p) (sb a' p) * (-n.1) := by unfold ng; grind
    rw [e1, e2]; exact q2
  exact pos_ng p1 p2
/-- the ends -/
theorem expo_first {m : P2} {r : List P2} (h : (m :: r).Pairwise ltP) (sm : ∀ p ∈ m :: r, -1000 ≤ p.2 ∧ p.2 ≤ 1000) : Expo (m :: r) m := by
  refine ⟨List.mem_cons_self, (-3000, -1), fun q hq hne => ?_⟩
  have s1 := sm q hq
  have s2 := sm m List.mem_cons_self
  rcases first_le (P := r) h hq with z | z
  · exact absurd z hne
  · unfold lin
    unfold ltP at z
    dsimp only
    omega
theorem expo_last {P : List P2} {g : P2} (h : P.Pairwise ltP) (hg : P.getLast? = some g) (sm : ∀ p ∈ P, -1000 ≤ p.2 ∧ p.2 ≤ 1000) : Expo P g := by
  refine ⟨List.mem_of_getLast? hg, (3000, 1), fun q hq hne => ?_⟩
  have s1 := sm q hq
  have s2 := sm g (List.mem_of_getLast? hg)
  rcases last_ge h hg hq with z | z
  · exact absurd z hne
  · unfold lin
    unfold ltP at z
    dsimp only
    omega
def Cons (l : List P2) (a b : P2) : Prop := ∃ A B, l = A ++ a :: b :: B
theorem LH_st {P : List P2} (h : P.Pairwise ltP) : LH P = (foldH P []).reverse := (half_low h).symm
theorem supp_LH {P : List P2} {a b : P2} (h : P.Pairwise ltP) (c : Cons (LH P) a b) : ltP a b ∧ (∀ q ∈ P, 0 ≤ crs a b q) := by
  obtain ⟨A, B, e⟩ := c
  cases P with
  | nil => cases A <;> cases e
  | cons m r =>
    have C := ch_all h
    have e' : foldH (m :: r) [] = B.reverse ++ b :: a :: A.reverse := by
      have := congrArg List.reverse ((LH_st h).symm.trans e)
      rw [List.reverse_reverse] at this
      rw [this]; simp
    have su := supp_app B.reverse (by rw [← e']; exact C.supp)
    have dn := C.down
    rw [e'] at dn
    exact ⟨List.rel_of_pairwise_cons (List.pairwise_append.mp dn).2.1 List.mem_cons_self, su.1⟩
theorem UH_ng {P : List P2} (h : P.Pairwise ltP) : (UH P).map ng = LH (P.reverse.map ng) := by
  have h' : (P.reverse.map ng).Pairwise ltP := by
    rw [List.pairwise_map, List.pairwise_reverse]
    exact h.imp fun {a b} k => lt_ng.mpr k
  have := half_ng P.reverse
  rw [half_low h', half_up h] at this
  exact this.symm
theorem rev_ng {P : List P2} (h : P.Pairwise ltP) : (P.reverse.map ng).Pairwise ltP := by
  rw [List.pairwise_map, List.pairwise_reverse]
  exact h.imp fun {a b} k => lt_ng.mpr k
theorem supp_UH {P : List P2} {a b : P2} (h : P.Pairwise ltP) (c : Cons (UH P) a b) : ltP b a ∧ (∀ q ∈ P, 0 ≤ crs a b q) := by
  obtain ⟨A, B, e⟩ := c
  have c' : Cons (LH (P.reverse.map ng)) (ng a) (ng b) := ⟨A.map ng, B.map ng, by rw [← UH_ng h, e]; simp⟩
  obtain ⟨h1, h2⟩ := supp_LH (rev_ng h) c'
  refine ⟨lt_ng.mp h1, fun q hq => ?_⟩
  have := h2 (ng q) (List.mem_map.mpr ⟨q, List.mem_reverse.mpr hq, rfl⟩)
  rw [crs_ng] at this
  exact this
/-- inside one side -/
theorem expo_low {P : List P2} {p m g : P2} (h : P.Pairwise ltP) (hm : m ∈ P) (hg : g ∈ P) (h1 : ltP m p) (h2 : ltP p g) (hp : p ∈ LH P) : Expo P p := by
  obtain ⟨hpP, low⟩ := mem_LH.mp hp
  obtain ⟨A, B, e⟩ := List.append_of_mem hp
  have pw := LH_pw h
  have mL : ∃ m' ∈ LH P, ltP m' p := by
    cases P with
    | nil => cases hm
    | cons f r =>
      refine ⟨f, mem_LH.mpr ⟨List.mem_cons_self, low_first h⟩, ?_⟩
      rcases first_le (P := r) h hm with z | z
      · rw [← z]; exact h1
      · exact ltP_tr z h1
  have gL : ∃ g' ∈ LH P, ltP p g' := by
    obtain ⟨l, hl⟩ : ∃ l, P.getLast? = some l := by
      cases P with
      | nil => cases hm
      | cons f r => exact ⟨_, List.getLast?_eq_some_getLast (by simp)⟩
    refine ⟨l, mem_LH.mpr ⟨List.mem_of_getLast? hl, low_last h hl⟩, ?_⟩
    rcases last_ge h hl hg with z | z
    · rw [← z]; exact h2
    · exact ltP_tr h2 z
  rw [e] at pw
  obtain ⟨pA, pB, pAB⟩ := List.pairwise_append.mp pw
  have hA : A ≠ [] := fun z => by
    obtain ⟨m', hm', k⟩ := mL
    rw [e, z, List.nil_append] at hm'
    rcases List.mem_cons.mp hm' with w | w
    · rw [w] at k; exact ltP_irr p k
    · exact ltP_irr p (ltP_tr (List.rel_of_pairwise_cons pB w) k)
  have hB : B ≠ [] := fun z => by
    obtain ⟨g', hg', k⟩ := gL
    rw [e, z] at hg'
    rcases List.mem_append.mp hg' with w | w
    · exact ltP_irr p (ltP_tr k (pAB g' w p List.mem_cons_self))
    · rw [List.mem_singleton] at w; rw [w] at k; exact ltP_irr p k
  obtain ⟨A', a, rfl⟩ : ∃ A' a, A = A' ++ [a] := ⟨A.dropLast, A.getLast hA, (List.dropLast_concat_getLast hA).symm⟩
  obtain ⟨b, B', rfl⟩ : ∃ b B', B = b :: B' := by
    cases B with
    | nil => exact absurd rfl hB
    | cons b B' => exact ⟨b, B', rfl⟩
  obtain ⟨ap, s1⟩ := supp_LH h (a := a) (b := p) ⟨A', b :: B', by rw [e]; simp⟩
  obtain ⟨pb, s2⟩ := supp_LH h (a := p) (b := b) ⟨A' ++ [a], B', by rw [e]⟩
  have aP : a ∈ P := (mem_LH.mp (by rw [e]; simp)).1
  have bP : b ∈ P := (mem_LH.mp (by rw [e]; simp)).1
  have turn := low a aP b bP ap pb
  -- the line: both sides together
  refine ⟨hpP, ((p.2 - a.2) + (b.2 - p.2), -((p.1 - a.1) + (b.1 - p.1))), fun q hq hne => ?_⟩
  have k1 := s1 q hq
  have k2 := s2 q hq
  have eq : lin ((p.2 - a.2) + (b.2 - p.2), -((p.1 - a.1) + (b.1 - p.1))) q - lin ((p.2 - a.2) + (b.2 - p.2), -((p.1 - a.1) + (b.1 - p.1))) p = -(crs a p q + crs p b q) := by unfold lin crs; grind
  by_cases z : crs a p q = 0 ∧ crs p b q = 0
  · exfalso
    -- q - p is parallel to both
    have e1 : crs a p b * (q.1 - p.1) = 0 := by
      have : crs a p b * (q.1 - p.1) = crs a p q * (b.1 - p.1) - crs p b q * (a.1 - p.1) + 2 * (crs p b q * (a.1 - p.1)) := by unfold crs; grind
      rw [this, z.1, z.2]; omega
    have e2 : crs a p b * (q.2 - p.2) = 0 := by
      have : crs a p b * (q.2 - p.2) = crs a p q * (b.2 - p.2) - crs p b q * (a.2 - p.2) + 2 * (crs p b q * (a.2 - p.2)) := by unfold crs; grind
      rw [this, z.1, z.2]; omega
    rcases Int.mul_eq_zero.mp e1 with w | w
    · omega
    · rcases Int.mul_eq_zero.mp e2 with w' | w'
      · omega
      · exact hne (Prod.ext (by omega) (by omega))
  · omega
end PL

namespace PL
def SmA (P : List P2) : Prop := ∀ p ∈ P, SmP p
theorem expo_ng {P : List P2} {p : P2} (h : Expo (P.reverse.map ng) (ng p)) : Expo P p := by
  obtain ⟨h1, n, hn⟩ := h
  obtain ⟨q, hq, e⟩ := List.mem_map.mp h1
  have : q = p := by
    have := congrArg ng e
    rw [ng_ng, ng_ng] at this
    exact this
  rw [this] at hq
  refine ⟨List.mem_reverse.mp hq, ng n, fun x hx hne => ?_⟩
  have := hn (ng x) (List.mem_map.mpr ⟨x, List.mem_reverse.mpr hx, rfl⟩) fun z => hne (by
    have := congrArg ng z
    rw [ng_ng, ng_ng] at this
    exact this)
  have e1 : ∀ y : P2, lin n (ng y) = lin (ng n) y := fun y => by unfold lin ng; grind
  rw [e1, e1] at this
  exact this
theorem hull_expo {m g : P2} {r : List P2} (h : (m :: r).Pairwise ltP) (hg : (m :: r).getLast? = some g) (hr : r ≠ []) (sm : SmA (m :: r)) {p : P2} : p ∈ hullP (m :: r) ↔ Expo (m :: r) p := by
  have sm' : ∀ p ∈ m :: r, -1000 ≤ p.2 ∧ p.2 ≤ 1000 := fun p hp => (sm p hp).2.2
  have hmg := mg_lt h hg hr
  have gm : g ∈ m :: r := List.mem_of_getLast? hg
  rw [mem_hull h hg hr]
  constructor
  · rintro (⟨hp, lo, ne⟩ | ⟨hp, up, ne⟩)
    · rcases first_le (P := r) h hp with z | z
      · rw [z]; exact expo_first h sm'
      · rcases last_ge h hg hp with w | w
        · exact absurd w ne
        · exact expo_low h List.mem_cons_self gm z w (mem_LH.mpr ⟨hp, lo⟩)
    · rcases last_ge h hg hp with z | z
      · rw [z]; exact expo_last h hg sm'
      · rcases first_le (P := r) h hp with w | w
        · exact absurd w ne
        · refine expo_ng (expo_low (m := ng g) (g := ng m) (rev_ng h) ?_ ?_ (lt_ng.mpr z) (lt_ng.mpr w) ?_)
          · exact List.mem_map.mpr ⟨g, List.mem_reverse.mpr gm, rfl⟩
          · exact List.mem_map.mpr ⟨m, List.mem_reverse.mpr List.mem_cons_self, rfl⟩
          · rw [← UH_ng h]
            exact List.mem_map.mpr ⟨p, mem_UH.mpr ⟨hp, up⟩, rfl⟩
  · intro ex
    have hp := ex.1
    by_cases e1 : p = g
    · refine .inr ⟨hp, by rw [e1]; exact up_last h hg, fun z => ?_⟩
      rw [← e1, z] at hmg
      exact ltP_irr m hmg
    · by_cases e2 : p = m
      · exact .inl ⟨hp, by rw [e2]; exact low_first h, e1⟩
      · rcases expo_side ex with lo | up
        · exact .inl ⟨hp, lo, e1⟩
        · exact .inr ⟨hp, up, e2⟩
/-! ### turned -/
def tq (p : P2) : P2 := (0 - p.2, p.1)
theorem tq_inj {a b : P2} (h : tq a = tq b) : a = b := by
  unfold tq at h
  injection h with h1 h2
  exact Prod.ext h2 (by omega)
theorem expo_turn {P P' : List P2} (hP : ∀ x, x ∈ P' ↔ ∃ y ∈ P, tq y = x) (p : P2) : Expo P' (tq p) ↔ Expo P p := by
  have le : ∀ n y : P2, lin n (tq y) = lin (n.2, 0 - n.1) y := fun n y => by unfold lin tq; grind
  have le' : ∀ n y : P2, lin (0 - n.2, n.1) (tq y) = lin n y := fun n y => by unfold lin tq; grind
  constructor
  · rintro ⟨h1, n, hn⟩
    obtain ⟨y, hy, e⟩ := (hP _).mp h1
    rw [tq_inj e] at hy
    refine ⟨hy, (n.2, 0 - n.1), fun q hq hne => ?_⟩
    have := hn (tq q) ((hP _).mpr ⟨q, hq, rfl⟩) fun z => hne (tq_inj z)
    rw [le, le] at this
    exact this
  · rintro ⟨h1, n, hn⟩
    refine ⟨(hP _).mpr ⟨p, h1, rfl⟩, (0 - n.2, n.1), fun q hq hne => ?_⟩
    obtain ⟨y, hy, rfl⟩ := (hP q).mp hq
    rw [le', le']
    exact hn y hy fun z => hne (by rw [z])
theorem hull_turn {P P' : List P2} (h : P.Pairwise ltP) (h' : P'.Pairwise ltP) (hP : ∀ x, x ∈ P' ↔ ∃ y ∈ P, tq y = x) (sm : SmA P) : ∀ x, x ∈ hullP P' ↔ ∃ y ∈ hullP P, tq y = x := by
  have sm' : SmA P' := fun p hp => by
    obtain ⟨y, hy, rfl⟩ := (hP p).mp hp
    have := sm y hy
    unfold SmP tq at *
    dsimp only
    omega
  intro x
  by_cases h2 : ∃ a b, a ∈ P ∧ b ∈ P ∧ a ≠ b
  · obtain ⟨a, b, ha, hb, hab⟩ := h2
    have big : ∀ {Q : List P2} {a b : P2}, Q.Pairwise ltP → a ∈ Q → b ∈ Q → a ≠ b → SmA Q → ∀ p, p ∈ hullP Q ↔ Expo Q p := fun {Q a b} hq ha hb hab smq p => by
      match Q, hq, ha, hb, smq with
      | [c], _, ha, hb, _ =>
        rw [List.mem_singleton] at ha hb
        exact absurd (ha.trans hb.symm) hab
      | c :: d :: r, hq, _, _, smq =>
        obtain ⟨g, hg⟩ : ∃ g, (c :: d :: r).getLast? = some g := ⟨_, List.getLast?_eq_some_getLast (by simp)⟩
        exact hull_expo hq hg (by simp) smq
    rw [big h' ((hP _).mpr ⟨a, ha, rfl⟩) ((hP _).mpr ⟨b, hb, rfl⟩) (fun z => hab (tq_inj z)) sm']
    constructor
    · intro ex
      obtain ⟨y, hy, rfl⟩ := (hP x).mp ex.1
      exact ⟨y, (big h ha hb hab sm y).mpr ((expo_turn hP y).mp ex), rfl⟩
    · rintro ⟨y, hy, rfl⟩
      exact (expo_turn hP y).mpr ((big h ha hb hab sm y).mp hy)
  · have one : ∀ {Q : List P2}, Q.Pairwise ltP → (∀ a ∈ Q, ∀ b ∈ Q, a = b) → hullP Q = Q := fun {Q} hq hall => by
      match Q, hq, hall with
      | [], _, _ => rfl
      | [c], _, _ => rfl
      | c :: d :: r, hq, hall =>
        have := hall c (by simp) d (by simp)
        have k := List.rel_of_pairwise_cons hq (List.mem_cons_self (a := d) (l := r))
        rw [this] at k
        exact absurd k (ltP_irr d)
    have hall : ∀ a ∈ P, ∀ b ∈ P, a = b := fun a ha b hb => Classical.byContradiction fun z => h2 ⟨a, b, ha, hb, z⟩
    rw [one h hall, one h' fun a ha b hb => by
      obtain ⟨y, hy, rfl⟩ := (hP a).mp ha
      obtain ⟨w, hw, rfl⟩ := (hP b).mp hb
      rw [hall y hy w hw]]
    exact hP x
/-! ### around -/
def Flat (P : List P2) (a b : P2) : Prop := ∀ q ∈ P, crs a b q = 0
/-- two parallel directions, all left of the one and right of the other -/
theorem par_zero {X Y Z : P2} (pX : pos X) (pY : pos Y) (e : det X Y = 0) (h1 : 0 ≤ det X Z) (h2 : det Y Z ≤ 0) : det X Z = 0 := by
  apply Classical.byContradiction
  intro hn
  have hz : det Z Y = - det Y Z := by unfold det; grind
  have := pos_comb (a := det X Z) (b := det Z Y) (W := Y) (U := X) h1 (by omega) (.inl (by omega)) pY pX
  have e1 : det X Z * Y.1 + det Z Y * X.1 = det X Y * Z.1 := by unfold det; grind
  have e2 : det X Z * Y.2 + det Z Y * X.2 = det X Y * Z.2 := by unfold det; grind
  rw [e1, e2, e, Int.zero_mul, Int.zero_mul] at this
  unfold pos at this
  simp at this
theorem flat_line {P : List P2} {a b m g q : P2} (hab : ltP a b ∨ ltP b a) (f : Flat P a b) (hm : m ∈ P) (hg : g ∈ P) (hq : q ∈ P) : crs m g q = 0 := by
  have k1 := f m hm
  have k2 := f g hg
  have k3 := f q hq
  have e1 : crs m g q * (b.1 - a.1) = (crs a b q - crs a b m) * (g.1 - m.1) - (crs a b g - crs a b m) * (q.1 - m.1) := by unfold crs; grind
  have e2 : crs m g q * (b.2 - a.2) = (crs a b q - crs a b m) * (g.2 - m.2) - (crs a b g - crs a b m) * (q.2 - m.2) := by unfold crs; grind
  rw [k1, k2, k3] at e1 e2
  have e1' : crs m g q * (b.1 - a.1) = 0 := by rw [e1]; simp
  have e2' : crs m g q * (b.2 - a.2) = 0 := by rw [e2]; simp
  rcases Int.mul_eq_zero.mp e1' with w | w
  · exact w
  · rcases Int.mul_eq_zero.mp e2' with w' | w'
    · exact w'
    · unfold ltP at hab; omega
theorem turn_g {P : List P2} {a b c m g q : P2} (h1 : ltP a b) (h2 : ltP c b) (s1 : ∀ q ∈ P, 0 ≤ crs a b q) (s2 : ∀ q ∈ P, 0 ≤ crs b c q) (hc : c ∈ P) (hm : m ∈ P) (hg : g ∈ P) (hq : q ∈ P) (hn : crs m g q ≠ 0) : 0 < crs a b c := by
  apply Classical.byContradiction
  intro hz
  have z : crs a b c = 0 := by have := s1 c hc; omega
  refine hn (flat_line (.inl h1) (fun x hx => ?_) hm hg hq)
  have e0 : det (sb b a) (sb b c) = - crs a b c := by unfold det sb crs; grind
  have k1 : det (sb b a) (sb x b) = crs a b x := (crs_mid a b x).symm
  have k2 : det (sb b c) (sb x b) = - crs b c x := by unfold det sb crs; grind
  have := par_zero (Z := sb x b) (pos_lt.mp h1) (pos_lt.mp h2) (by omega) (by rw [k1]; exact s1 x hx) (by rw [k2]; have := s2 x hx; omega)
  rw [← k1]; exact this
theorem turn_m {P : List P2} {a b c m g q : P2} (h1 : ltP b a) (h2 : ltP b c) (s1 : ∀ q ∈ P, 0 ≤ crs a b q) (s2 : ∀ q ∈ P, 0 ≤ crs b c q) (hc : c ∈ P) (hm : m ∈ P) (hg : g ∈ P) (hq : q ∈ P) (hn : crs m g q ≠ 0) : 0 < crs a b c := by
  apply Classical.byContradiction
  intro hz
  have z : crs a b c = 0 := by have := s1 c hc; omega
  refine hn (flat_line (.inr h1) (fun x hx => ?_) hm hg hq)
  have e0 : det (sb c b) (sb a b) = crs a b c := by unfold det sb crs; grind
  have k1 : det (sb a b) (sb x b) = - crs a b x := by unfold det sb crs; grind
  have k2 : det (sb c b) (sb x b) = crs b c x := by unfold det sb crs; rfl
  have w1 : det (sb a b) (sb c b) = - det (sb c b) (sb a b) := by unfold det; grind
  have w2 : det (sb a b) (ng (sb x b)) = - det (sb a b) (sb x b) := by unfold det ng; grind
  have w3 : det (sb c b) (ng (sb x b)) = - det (sb c b) (sb x b) := by unfold det ng; grind
  have t1 := s1 x hx
  have t2 := s2 x hx
  have := par_zero (X := sb a b) (Y := sb c b) (Z := ng (sb x b)) (pos_lt.mp h1) (pos_lt.mp h2) (by omega) (by omega) (by omega)
  omega
theorem cons_split {A B : List P2} {x a b : P2} (h : Cons (A ++ x :: B) a b) : Cons (A ++ [x]) a b ∨ Cons (x :: B) a b := by
  obtain ⟨C, E, e⟩ := h
  rw [List.append_eq_append_iff] at e
  rcases e with ⟨F, e1, e2⟩ | ⟨F, e1, e2⟩
  · -- C = A ++ F, x :: B = F ++ a :: b :: E
    exact .inr ⟨F, E, e2⟩
  · -- A = C ++ F, a :: b :: E = F ++ x :: B
    cases F with
    | nil =>
      simp at e2
      obtain ⟨rfl, rfl⟩ := e2
      exact .inr ⟨[], E, rfl⟩
    | cons f F =>
      simp at e2
      obtain ⟨rfl, e2⟩ := e2
      cases F with
      | nil =>
        simp at e2
        obtain ⟨rfl, _⟩ := e2
        exact .inl ⟨C, [], by rw [e1]; simp⟩
      | cons f' F =>
        simp at e2
        obtain ⟨rfl, _⟩ := e2
        exact .inl ⟨C, F ++ [x], by rw [e1]; simp⟩
end PL

namespace PL
open PySem PySem.Spec PyProof.Rows L2
/-! ## try: .. except h as n: k = n -/
def asTry : Stmt → Option (List Stmt × Str × Str × Stmt)
  | .Try body [.ExceptHandler (some (.Name x _)) (some n) [st] _] [] [] _ => some (body, x, n, st)
  | _ => none
theorem asTry_eq {st s1 : Stmt} {body : List Stmt} {x n : Str} (h : asTry st = some (body, x, n, s1)) : ∃ p p' pos, st = .Try body [.ExceptHandler (some (.Name x p)) (some n) [s1] p'] [] [] pos := by
  unfold asTry at h
  split at h
  · cases h; exact ⟨_, _, _, rfl⟩
  · cases h
/-- k = n -/
def asKeep (st : Stmt) : Option (Str × Str) := match asName st with
  | some (x, _, .Name y _) => some (x, y)
  | _ => none
theorem asKeep_eq {st : Stmt} {x y : Str} (h : asKeep st = some (x, y)) : ∃ p q pos, st = .Assign [.Name x p] (.Name y q) pos := by
  unfold asKeep at h
  split at h
  · rename_i x' p y' q e
    cases h
    obtain ⟨pos, rfl⟩ := asName_eq e
    exact ⟨_, _, _, rfl⟩
  · cases h
def noneS (n : Nat) : SE := List.replicate n .no
def triRun (body : S) (i j : Nat) (tab : List (Str × Bool)) (s : SE) : Out := match run body s with
  | .exc c => (match tab.lookup c with
    | some true => .nx ((noneS s.length).set j (.ro (.exc c)))
    | some false => .exc c
    | none => .stuck)
  | o => o
def aTry (body : S) (i j : Nat) (h : Str) (tab : List (Str × Bool)) : AtomS where
  chk := fun N sc st => oB (asTry st) fun t => oB (asKeep t.2.2.2) fun u => decide (t.2.1 = h) && glB sc h && okName h && chkV N sc i t.2.2.1 && lclB sc t.2.2.1 && decide (u.2 = t.2.2.1) && decide (N[j]? = some u.1) && locB sc u.1 && decide (i ≠ j) && chkS N sc body t.1
  run := triRun body i j tab
theorem lookup_mem {α : Type} {c : Str} {b : α} : ∀ {tab : List (Str × α)}, tab.lookup c = some b → (c, b) ∈ tab
  | (x, y) :: r, h => by
    rw [List.lookup_cons] at h
    cases e : c == x with
    | true =>
      rw [e] at h
      cases h
      rw [eq_of_beq e]
      exact List.mem_cons_self
    | false => rw [e] at h; exact List.mem_cons_of_mem _ (lookup_mem h)
theorem none_set_own {n j m : Nat} {d : D} {l : OP} : owAt ((noneS n).set j (.ro d)) m ≠ some l := fun e => by
  obtain ⟨_, e⟩ := owAt_set rfl e
  unfold owAt noneS at e
  rw [List.getElem?_replicate] at e
  split at e <;> cases e
theorem marks_none {M0 : Mk} {A : Nat → List Addr} {n j : Nat} {d : D} {a : Addr} (h : marks M0 A ((noneS n).set j (.ro d)) a) : M0 a := by
  rcases h with h | ⟨i, l, e, _⟩
  · exact h
  · exact absurd e none_set_own
section
variable {P : Str → (List D → Res D) → Prop} {C : Str → Cn → Prop} {R : Str → Prop}
theorem tryG {body : S} {i j : Nat} {h : Str} {tab : List (Str × Bool)} (gb : goodS P C R body) (gt : ∀ p ∈ tab, C p.1 (.cls h p.2)) (ne : tab ≠ []) (hh : (h == ("ValueError" : Str)) = false) : AtomSG P C R (aTry body i j h tab) := by
  intro X k W H0 M0 xo eP eC eR st hc
  subst eP eC eR
  obtain ⟨⟨bd, x, n, s1⟩, e1, hc1⟩ := optM (o := asTry st) (f := fun t => oB (asKeep t.2.2.2) fun u => decide (t.2.1 = h) && glB X.env.scope h && okName h && chkV X.N X.env.scope i t.2.2.1 && lclB X.env.scope t.2.2.1 && decide (u.2 = t.2.2.1) && decide (X.N[j]? = some u.1) && locB X.env.scope u.1 && decide (i ≠ j) && chkS X.N X.env.scope body t.1) hc
  obtain ⟨⟨kx, ky⟩, e2, hc2⟩ := optM (o := asKeep s1) (f := fun u => decide (x = h) && glB X.env.scope h && okName h && chkV X.N X.env.scope i n && lclB X.env.scope n && decide (u.2 = n) && decide (X.N[j]? = some u.1) && locB X.env.scope u.1 && decide (i ≠ j) && chkS X.N X.env.scope body bd) hc1
  obtain ⟨p, p', pos, rfl⟩ := asTry_eq e1
  obtain ⟨q1, q2, pos2, rfl⟩ := asKeep_eq e2
  have hc : (((((((((x = h ∧ glB X.env.scope h = true) ∧ okName h = true) ∧ chkV X.N X.env.scope i n = true) ∧ lclB X.env.scope n = true) ∧ ky = n) ∧ X.N[j]? = some kx) ∧ locB X.env.scope kx = true) ∧ i ≠ j) ∧ chkS X.N X.env.scope body bd = true) := by simpa using hc2
  obtain ⟨⟨⟨⟨⟨⟨⟨⟨⟨rfl, h2⟩, h3⟩, h4⟩, h5⟩, rfl⟩, h7⟩, h8⟩, h9⟩, h10⟩ := hc
  obtain ⟨v1, v2, v3⟩ := chkV_of h4
  obtain ⟨p0, hp0⟩ : ∃ p0, p0 ∈ tab := List.exists_mem_of_ne_nil _ ne
  have cls : ∀ (c : Str) (b : Bool), (c, b) ∈ tab → ∃ (E : Addr) (cv : Value), PySem.W.nsIn X.K mainGlobals c = some (some (.ref E)) ∧ X.mg c = some (.ref E) ∧ X.mg x = some cv ∧ PySem.W.exmOne X.K (.ref E) cv = some b := fun c b hb => by
    obtain ⟨E, cv, f1, f2, f3, f4, f5, f6⟩ := (show ClsC X.K X.mg c x b from gt (c, b) hb).ex
    rcases f4 with ⟨Dd, f4, f7⟩ | ⟨_, _, f7⟩
    · exact ⟨E, cv, f1, f2, f7, f6⟩
    · rw [f7] at hh; cases hh
  obtain ⟨E0, cv, _, _, hcv, _⟩ := cls p0.1 p0.2 hp0
  have nm : Names X x cv := ⟨gl_of h2, (okName_of h3).1, .inl hcv⟩
  have T := ps_try_exc (X := X) (x := x) (n := ky) (c := cv) (i := i) (body := bd) (suite := []) (b₀ := .Assign [.Name kx q1] (.Name ky q2) pos2) (np := p) (pos := pos) (pos' := p') (tb := fun W' => tSS X W' H0 M0 (run body)) (ts := fun _ _ => tAsg (tVar i) (gName j)) (Wout := W) xo.stk xo.frm xo.ex0 xo.nd v1 (lcl_of h5) nm xo.tk
    (fun W' pn xe tk po => by
      have xo' : XOkS (X.tr pn xe) k W' := { calm := xo.calm, nd := xo.nd, room := xo.room, tk := tk, bf := xo.bf, tb := xo.tb, cd := xo.cd, fnA := xo.fnA, po := po, kind := xo.kind, ex0 := xo.ex0, stk := xo.stk, frm := xo.frm }
      exact snd_S body (X := X.tr pn xe) (H0 := H0) (M0 := M0) xo' gb bd h10)
    (fun a cl pn => pss_one (ps_set (X := X.suite a pn) xo.nd h7 (loc_of h8) (pe_var v1 v2 (okName_of v3).1 (okName_of v3).2) rfl (.inl (xo.fnA kx))))
  refine ⟨fun pins s σ H Dn I q => T.run pins s σ H Dn I ?_⟩
  obtain ⟨A, se, r, o⟩ := q
  refine ⟨A, se, r, ?_⟩
  have o1 : OutS X W H0 M0 (marks M0 A se) H Dn (triRun body i j tab se) := o
  unfold triRun at o1
  cases e : run body se with
  | nx s' => rw [e] at o1; exact o1
  | rt d => rw [e] at o1; exact o1
  | stuck => rw [e] at o1; exact o1
  | exc c =>
    rw [e] at o1
    dsimp only at o1
    intro σ' H' sm fr
    cases e3 : tab.lookup c with
    | none => rw [e3] at o1; exact o1.elim
    | some b =>
      rw [e3] at o1
      obtain ⟨E, cv', f1, f2, f3, f4⟩ := cls c b (lookup_mem e3)
      have ecv : cv' = cv := Option.some.inj (f3.symm.trans hcv)
      subst ecv
      have ex : excV X.mg c = .ref E := by unfold excV; rw [f2]; rfl
      refine ⟨b, by rw [ex]; exact f4, fun hb => ?_, fun hb => ?_⟩
      · subst hb
        refine ⟨rfl, fun a na hl => ?_⟩
        refine ⟨.ref a, ?_, ?_⟩
        · rw [List.getElem?_set_self]
          rw [hl]
          exact (List.getElem?_eq_some_iff.mp v1).1
        · show Dn.nx (((σ'.set i (some (.ref a))).set j (some (.ref a))).set i none) (upd H' a (ExC (excV X.mg c) a))
          rw [List.set_comm _ _ (Ne.symm h9), List.set_set]
          have sm2 : Same X.K H' (upd H' a (ExC (excV X.mg c) a)) := same_new na
          have d0 : DomM M0 (upd H' a (ExC (excV X.mg c) a)) := fun b mb => by
            obtain ⟨o, eo, mo⟩ := r.dm0 b mb
            exact fr.dom.mono sm2 b (.inl mb)
          refine o1 _ _ (fun _ => []) ⟨?_, sm.trans sm2, d0, fun _ _ _ _ _ z => absurd z none_set_own, fun _ _ z => absurd z none_set_own, fun m d z => ?_, (r.tab.keep fr.keep).same sm2⟩ ?_
          · unfold noneS
            rw [List.length_set, List.length_set, List.length_set, List.length_replicate, hl, ← I.len, r.len]
          · by_cases hm : j = m
            · subst hm
              have hj : j < se.length := by
                have := (List.getElem?_eq_some_iff.mp h7).1
                rw [← r.len, I.len]; exact this
              rw [List.getElem?_set_self (by unfold noneS; rw [List.length_replicate]; exact hj)] at z
              cases z
              refine ⟨.ref a, List.getElem?_set_self (by rw [List.length_set, hl, ← I.len, r.len]; exact hj), ?_⟩
              refine .exc f1 (by rw [ex, upd_same]) fun m => ?_
              have := d0 a (marks_none m)
              rw [upd_same] at this
              obtain ⟨o, eo, mo⟩ := this
              cases eo
              exact mo
            · rw [List.getElem?_set_ne hm] at z
              unfold noneS at z
              rw [List.getElem?_replicate] at z
              split at z <;> cases z
          · exact fr.trans (Frame.grow (fun b mb => by
              obtain ⟨o, eo, mo⟩ := fr.dom b (.inl mb)
              exact ⟨o, eo, mo⟩) sm2 fun b mb => marks_none mb)
      · subst hb
        exact o1 σ' H' sm fr
end
end PL

namespace PL
open PySem PySem.Spec PyProof.Rows L2
/-! ## isinstance(e, d), e a caught error -/
def rIsX (X : Cx) : List V → Hp → VK → Prop := fun xs H Q => ∃ (a D : Addr) (c : V) (cv : Value) (b : Bool), xs = [.ref a, c] ∧ H a = some (ExC (.ref D) a) ∧ (∀ u, RelV c u → u = cv) ∧ ExcC X.K D ∧ PySem.W.kitOne X.K (.ref D) cv = some b ∧ Q (.bl b) H
theorem call_isX {X : Cx} : CallR X (.builtin "isinstance") (rIsX X) := by
  intro pins s σ H xs us Q I r h
  obtain ⟨a, D, c, cv, b, rfl, hH, hcv, C, e, q⟩ := h
  cases r with
  | cons rx rr =>
    cases rr with
    | cons rt rr =>
      cases rr
      cases rx
      have ec := hcv _ rt
      subst ec
      obtain ⟨oe, hget, hz, vs, hv⟩ := (I.hok a _ hH).1
      have J : PySem.W.InstAt s.heap a oe D none := by
        obtain ⟨oc, od, oda, osl⟩ := oe
        obtain ⟨h1, h2⟩ := hz
        dsimp only at h1 h2 hv
        subst h1 h2 hv
        exact ⟨hget, rfl, rfl, trivial⟩
      exact PySem.W.kia_one (PySem.W.handS_kitx_exc C.hg C.hk C.hs C.hd C.ha C.hn C.ht C.hm) I.kIn J e (fun z => nomatch z) fun tk => ⟨.bl b, H, I.kept (t' := tk) fun _ _ z => z, rfl, q⟩
def asIsi : Expr → Option (Str × Str × Str)
  | .Call (.Name f _) [.Name x _, .Name t _] [] _ => some (f, x, t)
  | _ => none
theorem asIsi_eq {e : Expr} {f x t : Str} (h : asIsi e = some (f, x, t)) : ∃ p q r pos, e = .Call (.Name f p) [.Name x q, .Name t r] [] pos := by
  unfold asIsi at h
  split at h
  · cases h; exact ⟨_, _, _, _, rfl⟩
  · cases h
def aIsi (i : Nat) (d : Str) (tab : List (Str × Bool)) : Atom where
  chk := fun N sc e => oB (asIsi e) fun t => decide (t.1 = "isinstance") && glB sc t.1 && chkV N sc i t.2.1 && decide (t.2.2 = d) && glB sc d && okName d
  sem := fun ρ => match ρ[i]? with
    | some (some (.exc c)) => (match tab.lookup c with
      | some b => .ok (.bl b)
      | none => .stuck)
    | _ => .stuck
theorem isXG {P : Str → (List D → Res D) → Prop} {C : Str → Cn → Prop} {i : Nat} {d : Str} {tab : List (Str × Bool)} (gt : ∀ p ∈ tab, C p.1 (.cls d p.2)) (ne : tab ≠ []) : AtomG P C (aIsi i d tab) := by
  intro X k W xo eP eC x hc
  subst eP eC
  obtain ⟨⟨f, y, t⟩, e1, hc1⟩ := optM (o := asIsi x) (f := fun t => decide (t.1 = "isinstance") && glB X.env.scope t.1 && chkV X.N X.env.scope i t.2.1 && decide (t.2.2 = d) && glB X.env.scope d && okName d) hc
  obtain ⟨p, q, r, pos, rfl⟩ := asIsi_eq e1
  have hc2 : (((((f = "isinstance" ∧ glB X.env.scope f = true) ∧ chkV X.N X.env.scope i y = true) ∧ t = d) ∧ glB X.env.scope d = true) ∧ okName d = true) := by simpa using hc1
  obtain ⟨⟨⟨⟨⟨rfl, h1⟩, h2⟩, rfl⟩, h4⟩, h5⟩ := hc2
  obtain ⟨v1, v2, v3⟩ := chkV_of h2
  obtain ⟨p0, hp0⟩ : ∃ p0, p0 ∈ tab := List.exists_mem_of_ne_nil _ ne
  have cls : ∀ (c : Str) (b : Bool), (c, b) ∈ tab → ClsC X.K X.mg c t b := fun c b hb => gt (c, b) hb
  have named : ∃ (cV : V) (cv : Value), (∀ u, RelV cV u → u = cv) ∧ PE X (.Name t r) (tC cV) ∧ ∀ cv', ((∃ D, cv' = .ref D ∧ X.mg t = some cv') ∨ (X.mg t = none ∧ cv' = .type "ValueError" ∧ t = "ValueError")) → cv' = cv := by
    obtain ⟨E, cv, f1, f2, f3, f4, f5, f6⟩ := (cls p0.1 p0.2 hp0).ex
    rcases f4 with ⟨Dd, rfl, f7⟩ | ⟨f7, rfl, rfl⟩
    · refine ⟨.ref Dd, .ref Dd, fun u hu => hu, pe_glob (gl_of h4) f7 rfl (okName_of h5).1, fun cv' hv => ?_⟩
      rcases hv with ⟨D2, rfl, h⟩ | ⟨h, _, _⟩
      · exact Option.some.inj (h.symm.trans f7)
      · rw [f7] at h; cases h
    · refine ⟨.ty "ValueError", .type "ValueError", fun u hu => hu, pe_bltn (v := .ty "ValueError") (gl_of h4) f7 (by decide +kernel) rfl (by decide) (by decide), fun cv' hv => ?_⟩
      rcases hv with ⟨D2, rfl, h⟩ | ⟨_, h, _⟩
      · rw [f7] at h; cases h
      · exact h
  obtain ⟨cV, cv, g1, g2, g3⟩ := named
  have pe : PE X (.Call (.Name "isinstance" p) [.Name y q, .Name t r] [] pos) (tS X W (aIsi i t tab).sem) := by
    refine pe_weak (pe_callB call_isX (gl_of h1) (xo.bf _ (by decide)) (by decide +kernel) (pa_cons (pe_var v1 v2 (okName_of v3).1 (okName_of v3).2) (pa_cons g2 pa_nil)) (by decide) (by decide)) fun σ H Q hq => ?_
    obtain ⟨M, ρ, dm, re, o⟩ := hq
    have o1 : OutE X W M σ H Q (match ρ[i]? with
      | some (some (.exc c)) => (match tab.lookup c with
        | some b => .ok (.bl b)
        | none => .stuck)
      | _ => .stuck) := o
    cases e2 : ρ[i]? with
    | none => rw [e2] at o1; exact o1.elim
    | some w =>
      rw [e2] at o1
      cases w with
      | none => exact o1.elim
      | some dd =>
        cases dd with
        | exc c =>
          dsimp only at o1
          cases e3 : tab.lookup c with
          | none => rw [e3] at o1; exact o1.elim
          | some b =>
            rw [e3] at o1
            obtain ⟨v, hv, rv⟩ := re.get i _ e2
            cases rv with
            | exc n1 n2 n3 =>
              obtain ⟨E, cv2, f1, f2, f3, f4, f5, f6⟩ := (cls c b (lookup_mem e3)).ex
              have ec := g3 cv2 f4
              subst ec
              rw [f1] at n1
              cases n1
              exact ⟨_, hv, _, _, _, _, _, rfl, n2, g1, f3, f5, o1 _ _ (Same.refl H) (.bl b)⟩
        | _ => exact o1.elim
  exact ⟨pe, pt_of_pe pe (fun _ => rfl)⟩
end PL

namespace PL
open PySem PySem.Spec PyProof.Rows L2
/-! ## x.count(y), x.index(y) -/
def rCountD (K : PySem.W.Frag) : V → List V → Hp → VK → Prop := fun x xs H Q => ∃ (a : Addr) (y : V) (d : PyData) (ds : List PyData), x = V.ref a ∧ xs = [y] ∧ Dp K H (V.ref a) (.list ds) ∧ Dp K H y d ∧
  SeqAt.shaped (.list ds) = true ∧ SeqAt.shaped d = true ∧ Q (.int ((ds.countP fun z => PyData.eqv z d : Nat) : Int)) H
theorem mt_countD {X : Cx} (hu : X.A.units + 65 < cLine) : MtR X "list.count" (rCountD X.K) := by
  intro pins s σ H x xs v us Q I rx rxs h
  obtain ⟨a, y, d, ds, rfl, rfl, hl, hy, sl, sd, q⟩ := h
  cases rx
  cases rxs with
  | cons ry rt =>
    rename_i uy ut
    cases rt
    obtain ⟨bs, r1⟩ := Dp.reads I d y uy hy ry
    have hxs : PyData.canLayAll0 ds = true := SeqAt.canLay_of_shaped sl
    have hroom : X.A.units + 1 + min (PyData.depthAll ds) d.depth < cLine := room_in_shaped sd hu
    cases hl with
    | lst hs ha =>
      obtain ⟨its, rv, ⟨⟨cls, dd, data, sls⟩, n, ho, hc, hdn, hdt⟩, hlen⟩ := I.list hs
      simp only at hc hdt
      subst hc hdt
      obtain ⟨as, h4⟩ := Dp.readsAll I ds _ its ha rv
      have hmap : its.map (SeqAt.readOf s.heap) = ds := SeqAt.readsAll_map ds its as hxs h4
      refine call_meets PySem.F.slot_list_count ⟨_, ho, rfl⟩ PySem.F.entry_list_count (PySem.F.args_list_count_2 _ _)
        (SeqAt.list_countAt a its.toArray n dd sls uy (fun u => PyData.eqv (SeqAt.readOf s.heap u) d)) ⟨ho, SeqAt.items_eqAt (vs := its.toArray) (show ReadsAll s.heap its.toArray.toList ds as from h4) r1 hxs (SeqAt.canLay_of_shaped sd) hroom, ?_⟩
      refine ⟨.int ((ds.countP fun z => PyData.eqv z d : Nat) : Int), H, I.tok _, ⟨s.toks, ?_⟩, q⟩
      rw [← hmap, List.countP_map]
      rfl
def asM1 : Expr → Option (Str × Str × Pos × Expr × Pos)
  | .Call (.Attribute (.Name x _) m ap) [v] [] cp => some (x, m, ap, v, cp)
  | _ => none
theorem asM1_eq {e v : Expr} {x m : Str} {ap cp : Pos} (h : asM1 e = some (x, m, ap, v, cp)) : ∃ p, e = .Call (.Attribute (.Name x p) m ap) [v] [] cp := by
  unfold asM1 at h
  split at h
  · cases h; exact ⟨_, rfl⟩
  · cases h
/-- a list at a slot, asked by a method of one argument -/
def aM1 (name : Str) (op : List D → D → Option D) (i : Nat) (a : E) : Atom where
  chk := fun N sc e => oB (asM1 e) fun t => chkV N sc i t.1 && decide (t.2.1 = name) && (t.2.2.1.endLine == t.2.2.2.2.line) && chk N sc a t.2.2.2.1 && notStar t.2.2.2.1
  sem := fun ρ => match ρ[i]? with
    | some (some (.lst l)) => (noExc (ev a ρ)).bind fun d => ofO (op l d)
    | _ => .stuck
def cntF (l : List D) (d : D) : Option D := if shp (.lst l) && shp d then some (.int ((l.countP fun z => deq z d : Nat) : Int)) else none
def idxF (l : List D) (d : D) : Option D := if shp (.lst l) && shp d then (match l.findIdx? fun z => deq z d with
  | some j => some (.int ((j : Nat) : Int))
  | none => none) else none
def aCount := aM1 "count" cntF
def aIndex := aM1 "index" idxF
theorem py_count (a : D) : ∀ l : List D, (pyAll l).countP (fun z => PyData.eqv z a.py) = l.countP fun z => deq z a
  | [] => rfl
  | d :: l => by
    show List.countP _ (d.py :: pyAll l) = _
    rw [List.countP_cons, List.countP_cons, py_count a l]
    rfl
theorem py_get : ∀ (l : List D) (j : Nat), (pyAll l)[j]? = l[j]?.map D.py
  | [], _ => by simp [pyAll]
  | d :: l, 0 => rfl
  | d :: l, j + 1 => by
    show (d.py :: pyAll l)[j + 1]? = (d :: l)[j + 1]?.map D.py
    rw [List.getElem?_cons_succ, List.getElem?_cons_succ, py_get l j]
theorem m1G {P : Str → (List D → Res D) → Prop} {C : Str → Cn → Prop} {name : Str} {id : String} {op : List D → D → Option D} {i : Nat} {a : E} (ga : good P C a)
    (slot : Slot "list" name id) (hty : typeOf (.builtin id) = pure (.type "method_descriptor"))
    (hr : ∀ (X : Cx) (k : Nat) (W : WX), XOk X k W → ∃ r : V → List V → Hp → VK → Prop, MtR X id r ∧ ∀ (M : Mk) (H : Hp) (p : Addr) (y : V) (l : List D) (d z : D) (Q : VK), DomM M H → Rep X.K M H (.ref p) (.lst l) → Rep X.K M H y d → op l d = some z → (∀ v H', Same X.K H H' → Rep X.K M H' v z → Q v H') → r (.ref p) [y] H Q) : AtomG P C (aM1 name op i a) := by
  intro X k W xo eP eC x hc
  subst eP eC
  obtain ⟨⟨y, m, ap, v, cp⟩, e1, hc1⟩ := optM (o := asM1 x) (f := fun t => chkV X.N X.env.scope i t.1 && decide (t.2.1 = name) && (t.2.2.1.endLine == t.2.2.2.2.line) && chk X.N X.env.scope a t.2.2.2.1 && notStar t.2.2.2.1) hc
  obtain ⟨p, rfl⟩ := asM1_eq e1
  rw [Bool.and_eq_true, Bool.and_eq_true, Bool.and_eq_true, Bool.and_eq_true, decide_eq_true_eq] at hc1
  obtain ⟨⟨⟨⟨h1, h2⟩, h3⟩, h4⟩, h5⟩ := hc1
  have h2' : m = name := h2
  subst h2'
  obtain ⟨v1, v2, v3⟩ := chkV_of h1
  obtain ⟨r, mt, wr⟩ := hr X k W xo
  have pe : PE X (.Call (.Attribute (.Name y p) m ap) [v] [] cp) (tS X W (aM1 m op i a).sem) := by
    refine pe_weak (pe_bm PySem.F.plainAttrs_list slot hty mt (pe_var v1 v2 (okName_of v3).1 (okName_of v3).2) (pa_cons (snd_e a xo ga v h4).pe pa_nil (star_of h5 _ X.env)) rfl (by rw [star_of h5]; rfl) h3 (star_of h5 _ X.env) rfl) fun σ H Q hq => ?_
    obtain ⟨M, ρ, dm, re, o⟩ := hq
    have o1 : OutE X W M σ H Q (match ρ[i]? with
      | some (some (.lst l)) => (noExc (ev a ρ)).bind fun d => ofO (op l d)
      | _ => .stuck) := o
    cases e2 : ρ[i]? with
    | none => rw [e2] at o1; exact o1.elim
    | some w =>
      rw [e2] at o1
      cases w with
      | none => exact o1.elim
      | some dd =>
        cases dd with
        | lst l =>
          dsimp only at o1
          obtain ⟨u, hu, ru⟩ := re.get i _ e2
          cases ru with
          | lst s n ra =>
            refine ⟨_, hu, .inl ⟨rfl, _, SqL.of s⟩, M, ρ, dm, re, ?_⟩
            cases e3 : ev a ρ with
            | ok d =>
              rw [e3] at o1
              intro w H1 s1 rw1
              have o2 : OutE X W M σ H Q (ofO (op l d)) := o1
              cases e4 : op l d with
              | none => rw [e4] at o2; exact o2.elim
              | some z =>
                rw [e4] at o2
                exact wr M H1 _ w l d z Q (dm.mono s1) (.lst (s1.get _ _ s) n (ra.same s1)) rw1 e4 fun v H' s' rv => o2 v H' (s1.trans s') rv
            | exc c => rw [e3] at o1; exact o1.elim
            | stuck => rw [e3] at o1; exact o1.elim
        | _ => exact o1.elim
  exact ⟨pe, pt_of_pe pe (fun _ => rfl)⟩
theorem countG {P : Str → (List D → Res D) → Prop} {C : Str → Cn → Prop} {i : Nat} {a : E} (ga : good P C a) : AtomG P C (aCount i a) :=
  m1G ga PySem.F.slot_list_count PySem.F.type_list_count fun X k W xo => ⟨_, mt_countD (by have := xo.room.un; omega), fun M H p y l d z Q dm r1 r2 e k => by
    unfold cntF at e
    split at e
    · rename_i hc
      cases e
      rw [Bool.and_eq_true] at hc
      unfold shp at hc
      rw [Bool.and_eq_true, Bool.and_eq_true] at hc
      refine ⟨p, y, d.py, pyAll l, rfl, rfl, Rep.dp _ _ hc.1.1 r1, Rep.dp _ _ hc.2.1 r2, hc.1.2, hc.2.2, ?_⟩
      rw [py_count]
      exact k _ H (Same.refl H) (.int _)
    · cases e⟩
theorem indexG {P : Str → (List D → Res D) → Prop} {C : Str → Cn → Prop} {i : Nat} {a : E} (ga : good P C a) : AtomG P C (aIndex i a) :=
  m1G ga PySem.F.slot_list_index PySem.F.type_list_index fun X k W xo => ⟨_, mt_indexD (by have := xo.room.un; omega), fun M H p y l d z Q dm r1 r2 e k => by
    unfold idxF at e
    split at e
    · rename_i hc
      rw [Bool.and_eq_true] at hc
      unfold shp at hc
      rw [Bool.and_eq_true, Bool.and_eq_true] at hc
      cases ef : l.findIdx? fun z => deq z d with
      | none => rw [ef] at e; cases e
      | some j =>
        rw [ef] at e
        cases e
        obtain ⟨hj, hj1, hj2⟩ := List.findIdx?_eq_some_iff_getElem.mp ef
        refine ⟨p, y, d.py, pyAll l, j, l[j].py, rfl, rfl, Rep.dp _ _ hc.1.1 r1, Rep.dp _ _ hc.2.1 r2, hc.1.2, hc.2.2, ?_, hj1, fun m z' hm hz => ?_, k _ H (Same.refl H) (.int _)⟩
        · rw [py_get, List.getElem?_eq_getElem hj]; rfl
        · have hm' : m < l.length := by omega
          rw [py_get, List.getElem?_eq_getElem hm'] at hz
          cases hz
          have := hj2 m hm
          simpa [deq] using this
    · cases e⟩
/-! ## [f, g, h][k](x, ..) -/
def asTab : Expr → Option (List Expr × Str × List Expr)
  | .Call (.Subscript (.List es _) (.Name w _) _) as [] _ => some (es, w, as)
  | _ => none
theorem asTab_eq {e : Expr} {es as : List Expr} {w : Str} (h : asTab e = some (es, w, as)) : ∃ p q r pos, e = .Call (.Subscript (.List es p) (.Name w q) r) as [] pos := by
  unfold asTab at h
  split at h
  · cases h; exact ⟨_, _, _, _, rfl⟩
  · cases h
def chkGs (sc : Scope) : List Str → List Expr → Bool
  | [], [] => true
  | f :: fs, .Name x _ :: es => decide (f = x) && glB sc x && okName x && chkGs sc fs es
  | _, _ => false
def aTab (fs : List (Str × (List D → Res D))) (w : Nat) (as : EL) : Atom where
  chk := fun N sc e => oB (asTab e) fun t => chkGs sc (fs.map fun (z : Str × (List D → Res D)) => z.1) t.1 && chkV N sc w t.2.1 && chkL N sc as t.2.2 && !t.2.2.isEmpty && decide (t.1.length ≤ 1000)
  sem := fun ρ => match ρ[w]? with
    | some (some (.int k)) => (match atI fs k with
      | some f => (evL as ρ).bind f.2
      | none => .stuck)
    | _ => .stuck
theorem glo_all {X : Cx} : ∀ {fs : List (Str × (List D → Res D))} {es : List Expr} {k : Nat}, (∀ f ∈ fs, GoodX X k f.1 f.2) → chkGs X.env.scope (fs.map fun (z : Str × (List D → Res D)) => z.1) es = true →
    ∃ ads : List Addr, ads.length = fs.length ∧ es.length = fs.length ∧ (∀ (j : Nat) f, fs[j]? = some f → ∃ fa, ads[j]? = some fa ∧ ∃ fd ps, FnOk X.prog X.w X.K X.mg X.base (L2.CX X.prog X.w) k fa fd ps (spD X.K X.mg ps.length f.2) ∧ PySem.W.keepIn X.K (.ref fa) = true ∧ Binds X.K fd ps [] ∧ (∀ ds, f.2 ds ≠ .stuck → ds.length = ps.length)) ∧ PA X es (fun σ H Q => Q (ads.map V.ref) H)
  | [], [], k, _, _ => ⟨[], rfl, rfl, fun j f h => by simp at h, pa_weak pa_nil fun σ H Q q => q⟩
  | [], _ :: _, _, _, h => by cases h
  | _ :: _, [], _, _, h => by cases h
  | f :: fs, e :: es, k, g, h => by
    cases e with
    | Name x p =>
      have h' : (decide (f.1 = x) && glB X.env.scope x && okName x && chkGs X.env.scope (fs.map fun (z : Str × (List D → Res D)) => z.1) es) = true := h
      rw [Bool.and_eq_true, Bool.and_eq_true, Bool.and_eq_true, decide_eq_true_eq] at h'
      obtain ⟨⟨⟨h1, h2⟩, h3⟩, h4⟩ := h'
      subst h1
      obtain ⟨ads, l1, l2, hf, pa⟩ := glo_all (fun f hf => g f (List.mem_cons_of_mem _ hf)) h4
      obtain ⟨fa, fd, ps, F, gm, kp, bd, gl⟩ := g f List.mem_cons_self
      refine ⟨fa :: ads, by rw [List.length_cons, List.length_cons, l1], by rw [List.length_cons, List.length_cons, l2], fun j f' hj => ?_, ?_⟩
      · cases j with
        | zero =>
          have : f = f' := by simpa using hj
          subst this
          exact ⟨fa, rfl, fd, ps, F, kp, bd, gl⟩
        | succ j => exact hf j f' (by simpa using hj)
      · exact pa_weak (pa_cons (pe_glob (v := .ref fa) (gl_of h2) gm rfl (okName_of h3).1) pa) fun σ H Q q => q
    | _ => cases h
theorem tabG {P : Str → (List D → Res D) → Prop} {C : Str → Cn → Prop} {fs : List (Str × (List D → Res D))} {w : Nat} {as : EL} (gf : ∀ f ∈ fs, P f.1 f.2) (ga : goodL P C as) : AtomG P C (aTab fs w as) := by
  intro X k W xo eP eC x hc
  subst eP eC
  obtain ⟨⟨es, y, ar⟩, e1, hc1⟩ := optM (o := asTab x) (f := fun t => chkGs X.env.scope (fs.map fun (z : Str × (List D → Res D)) => z.1) t.1 && chkV X.N X.env.scope w t.2.1 && chkL X.N X.env.scope as t.2.2 && !t.2.2.isEmpty && decide (t.1.length ≤ 1000)) hc
  obtain ⟨p, q, r, pos, rfl⟩ := asTab_eq e1
  rw [Bool.and_eq_true, Bool.and_eq_true, Bool.and_eq_true, Bool.and_eq_true, decide_eq_true_eq] at hc1
  obtain ⟨⟨⟨⟨h1, h2⟩, h3⟩, h4⟩, h5⟩ := hc1
  cases ar with
  | nil => cases h4
  | cons a1 ar =>
    obtain ⟨v1, v2, v3⟩ := chkV_of h2
    obtain ⟨ads, l1, l2, hf, pa⟩ := glo_all gf h1
    obtain ⟨ms, hp, he⟩ := snd_L as xo ga _ h3
    have ns : notStar a1 = true := by cases hp with | cons _ n _ => exact n
    have st : (backTo pos (starEach ar X.env)).any (·.1) = false := by cases hp with | cons _ _ t => exact stars_of t pos
    have pf : PE X (.Subscript (.List es p) (.Name y q) r) _ := pe_ix ix_seq (pe_lst pa) (pe_var v1 v2 (okName_of v3).1 (okName_of v3).2) (plainIx rfl)
    have pe : PE X (.Call (.Subscript (.List es p) (.Name y q) r) (a1 :: ar) [] pos) (tS X W (aTab fs w as).sem) := by
      refine ⟨fun pins s σ H Q I hq => ?_⟩
      obtain ⟨M, ρ, dm, re, o⟩ := hq
      have o1 : OutE X W M σ H Q (match ρ[w]? with
        | some (some (.int k)) => (match atI fs k with
          | some f => (evL as ρ).bind f.2
          | none => .stuck)
        | _ => .stuck) := o
      cases e2 : ρ[w]? with
      | none => rw [e2] at o1; exact o1.elim
      | some z =>
        rw [e2] at o1
        cases z with
        | none => exact o1.elim
        | some dd =>
          cases dd with
          | int n =>
            dsimp only at o1
            obtain ⟨u, hu, ru⟩ := re.get w _ e2
            cases ru
            cases e3 : atI fs n with
            | none => rw [e3] at o1; exact o1.elim
            | some f =>
              rw [e3] at o1
              dsimp only at o1
              have e4 : ∃ j, ixN fs.length n = some j ∧ fs[j]? = some f := by
                unfold atI at e3
                cases ej : ixN fs.length n with
                | none => rw [ej] at e3; cases e3
                | some j => rw [ej] at e3; exact ⟨j, rfl, e3⟩
              obtain ⟨j, ej, ef⟩ := e4
              obtain ⟨fa, ea, fd, ps, F, kp, bd, gl⟩ := hf j f ef
              have ea2 : atI (ads.map V.ref) n = some (.ref fa) := by
                unfold atI
                rw [List.length_map, l1, ej]
                show (ads.map V.ref)[j]? = _
                rw [List.getElem?_map, ea]; rfl
              refine Call_ (thn (pf.run pins s σ H (fun x H1 => x = .ref fa ∧ Same X.K H H1) I ?_) fun u s1 ⟨y', H1, I1, ry, q1, s1'⟩ => ?_) rfl
              · refine ⟨by rw [List.length_map, l1, ← l2]; have := sizeLine_eq; omega, fun p' hp' => ⟨_, hu, .inl ⟨p', ads.map V.ref, n, .ref fa, rfl, rfl, SqL.of upd_same, ea2, rfl, same_new hp'⟩⟩⟩
              · subst q1
                obtain rfl : u = Value.ref fa := ry
                refine PySem.W.callWith_K (h₀ := X.base) I.ok.mod.kin kp (thn (hp.pa.run pos pins s1 σ H1 (fun vs H2 => spD X.K X.mg ps.length f.2 vs H2 Q (WE W σ)) I1 ?_) fun us s2 ⟨vs, H2, I2, r2, q2⟩ => ⟨I2.kIn, run_fnS F xo.room bd (passAt xo.tk σ) I2 r2 q2⟩) (star_of ns ar X.env) st
                refine ⟨M, ρ, dm.mono s1', re.same s1', ?_⟩
                rw [he ρ] at o1
                cases e5 : seqM ms ρ with
                | exc c => rw [e5] at o1; exact fun H' s' => o1 H' (s1'.trans s')
                | stuck => rw [e5] at o1; exact o1
                | ok ds =>
                  rw [e5] at o1
                  simp only [Res.bind_ok] at o1
                  intro vs H2 s2 rs
                  have ln : f.2 ds ≠ .stuck := fun z => by rw [z] at o1; exact o1
                  refine ⟨by rw [rs.length]; exact gl ds ln, (re.tab.same s1').same s2, M, ds, (dm.mono s1').mono s2, rs, ?_⟩
                  cases e6 : f.2 ds with
                  | ok d => rw [e6] at o1; exact fun v H' s' rv => o1 v H' (s1'.trans (s2.trans s')) rv
                  | exc c => rw [e6] at o1; exact fun H' s' => o1 H' (s1'.trans (s2.trans s'))
                  | stuck => rw [e6] at o1; exact o1
          | _ => exact o1.elim
    exact ⟨pe, pt_of_pe pe (fun _ => rfl)⟩
end PL

namespace PL
open PySem PySem.Spec PyProof.Rows L2
/-! ## what the head must say of the errors' classes -/
def eqB (a : Option Bool) (b : Bool) : Bool := match a with | some x => x == b | none => false
theorem eqB_ok {a : Option Bool} {b : Bool} (h : eqB a b = true) : a = some b := by
  unfold eqB at h
  cases a with
  | none => cases h
  | some x => rw [eq_of_beq h]
def excCB (K : PySem.W.Frag) (D : Addr) : Bool :=
  He.eqO (PySem.W.findIn K (.ref D) "__getattribute__") (some (some (.builtin "BaseException.__getattribute__"))) &&
  He.eqO (PySem.W.findIn K (.ref D) "__getattr__") (some none) &&
  eqB (PySem.W.subIn K (.ref D) (.type "BaseException")) true &&
  PySem.W.hasDictIn K D &&
  He.eqO (PySem.W.findIn K (.ref D) "__class__") (some (some (.builtin "object.__class__"))) &&
  He.eqO (PySem.W.specialIn K (.builtin "object.__class__") "__get__") (some (some (.builtin "getset_descriptor.__get__"))) &&
  eqB (PySem.W.takesIn K (.builtin "object.__class__")) true &&
  eqB (PySem.W.mroIn K D (.type "object")) true
theorem excCB_ok {K : PySem.W.Frag} {D : Addr} (h : excCB K D = true) : ExcC K D := by
  unfold excCB at h
  simp only [Bool.and_eq_true] at h
  obtain ⟨⟨⟨⟨⟨⟨⟨h1, h2⟩, h3⟩, h4⟩, h5⟩, h6⟩, h7⟩, h8⟩ := h
  exact ⟨He.eqO_ok h1, He.eqO_ok h2, eqB_ok h3, h4, He.eqO_ok h5, He.eqO_ok h6, eqB_ok h7, eqB_ok h8⟩
def clsV (K : PySem.W.Frag) (d : Str) : Value := if d = "ValueError" then .type "ValueError" else .ref (He.ga K d)
def clsB (K : PySem.W.Frag) (c d : Str) (b : Bool) : Bool := eqB (PySem.W.kitOne K (.ref (He.ga K c)) (clsV K d)) b && eqB (PySem.W.exmOne K (.ref (He.ga K c)) (clsV K d)) b
/-- all that is said: of each class c, with each class d: whether c is a d -/
def tstC (cs : List Str) (ds : List Str) (rel : Str → Str → Bool) (K : PySem.W.Frag) : Bool :=
  cs.all (fun c => He.eqO (PySem.W.nsIn K mainGlobals c) (some (some (.ref (He.ga K c)))) && excCB K (He.ga K c)) && cs.all fun c => ds.all fun d => clsB K c d (rel c d)
theorem tstC_ok {cs ds : List Str} {rel : Str → Str → Bool} {K : PySem.W.Frag} {mg : Str → Option Value} {h : Heap} (X : K.In h) (G : h.Ns mainGlobals mg) (t : tstC cs ds rel K = true) {c d : Str} (hc : c ∈ cs) (hd : d ∈ ds)
    (gd : (d ≠ "ValueError" ∧ (He.Fa.glo d).ok K = true) ∨ (d = "ValueError" ∧ (He.Fa.free d).ok K = true)) : ClsC K mg c d (rel c d) := by
  unfold tstC at t
  rw [Bool.and_eq_true] at t
  obtain ⟨t1, t2⟩ := t
  have t3 := List.all_eq_true.mp t1 c hc
  have t4 := List.all_eq_true.mp (List.all_eq_true.mp t2 c hc) d hd
  rw [Bool.and_eq_true] at t3
  unfold clsB at t4
  rw [Bool.and_eq_true] at t4
  refine ⟨⟨He.ga K c, clsV K d, He.eqO_ok t3.1, PySem.W.mg_of X G (He.eqO_ok t3.1), excCB_ok t3.2, ?_, eqB_ok t4.1, eqB_ok t4.2⟩⟩
  rcases gd with ⟨n, g⟩ | ⟨rfl, g⟩
  · refine .inl ⟨He.ga K d, ?_, ?_⟩
    · unfold clsV; rw [if_neg n]
    · unfold clsV; rw [if_neg n]; exact He.glo_ok X G g
  · refine .inr ⟨He.free_ok X G g, ?_, rfl⟩
    unfold clsV; rw [if_pos rfl]
/-- a hook with one test more -/
def obsX (fa : List He.Fa) (fn : List He.DefD) (tst : PySem.W.Frag → Bool) (K : PySem.W.Frag) : Bool × He.AlD := (tst K, He.obsD fa fn K)
def SaysX (fa : List He.Fa) (fn : List He.DefD) (tst : PySem.W.Frag → Bool) (K : PySem.W.Frag) : Prop := obsX fa fn tst K = (true, He.valD fn)
theorem SaysX.d {fa : List He.Fa} {fn : List He.DefD} {tst : PySem.W.Frag → Bool} {K : PySem.W.Frag} (c : SaysX fa fn tst K) : He.SaysD fa fn K := congrArg Prod.snd c
theorem SaysX.t {fa : List He.Fa} {fn : List He.DefD} {tst : PySem.W.Frag → Bool} {K : PySem.W.Frag} (c : SaysX fa fn tst K) : tst K = true := congrArg Prod.fst c
def obsXG (n : Nat) (fa : List He.Fa) (fn : List He.DefD) (tst : PySem.W.Frag → Bool) (g : Addr → Option Obj) : Bool × He.AlD := obsX fa fn tst (He.frG g (He.asD g n))
def hookX (n : Nat) (fa : List He.Fa) (fn : List He.DefD) (tst : PySem.W.Frag → Bool) : PySem.W.Hook where
  α := Bool × He.AlD
  obs := fun s => obsXG n fa fn tst s.heap.get?
  val := fun _ => (true, He.valD fn)
  says := fun _ h => ∃ K : PySem.W.Frag, K.In h ∧ SaysX fa fn tst K
  of := fun _ _ e => ⟨_, He.frG_in, e⟩
  keeps := fun _ _ _ ⟨K, hK, c⟩ k => ⟨K, PySem.W.Frag.In.keeps hK k, c⟩
theorem obsXG_eq {n : Nat} {fa : List He.Fa} {fn : List He.DefD} {tst : PySem.W.Frag → Bool} {g : Addr → Option Obj} {s : Shared} (h : ∀ a, g a = s.heap.get? a) : obsXG n fa fn tst g = (hookX n fa fn tst).obs s := by
  have e : g = s.heap.get? := funext h
  rw [e] <;> rfl
/-! ## recursions -/
theorem goodF_stuck {P : Program} {w : World} {K : PySem.W.Frag} {mg : Str → Option Value} {base : Heap} {x qual : Str} {params : Arguments} {body : List Stmt} {scope : Scope} {kws : List (Str × V)} {f : Addr} {fd : FuncData} {ps : List Str} {k : Nat}
    (F : FunD K x qual params body scope [] kws f fd) (hm : mg x = some (.ref f)) (bd : Binds K fd ps []) : GoodF P w K mg base k x (fun _ => .stuck) :=
  ⟨f, fd, ps, ⟨fun vs H Q E h => h.1, fun A outer s H args us vs Q E hr e0 hb r h => by
    obtain ⟨_, _, M, ds, _, _, o⟩ := h
    exact o.elim⟩, hm, F.kp, bd, fun ds h => absurd rfl h⟩
/-! ## a list times an int -/
theorem RepAll.rep {K : PySem.W.Frag} {M : Mk} {H : Hp} {xs : List V} {ds : List D} (r : RepAll K M H xs ds) : ∀ n, RepAll K M H (List.replicate n xs).flatten (List.replicate n ds).flatten
  | 0 => .nil
  | n + 1 => by rw [List.replicate_succ, List.replicate_succ, List.flatten_cons, List.flatten_cons]; exact r.append (RepAll.rep r n)
def opRep : D → D → Option D
  | .lst l, .int k => if decide (0 ≤ k) && decide (k ≤ 1000) && decide (l.length * k.toNat ≤ 1000) then some (.lst (List.replicate k.toNat l).flatten) else none
  | _, _ => none
theorem opT_rep {X : Cx} : OpT X (binaryOp .Mult) opRep := by
  refine ⟨_, op_rep, fun M H x y d1 d2 d Q dm r1 r2 e k => ?_⟩
  unfold opRep at e
  split at e
  · rename_i l n
    split at e
    · rename_i hc
      rw [Bool.and_eq_true, Bool.and_eq_true, decide_eq_true_eq, decide_eq_true_eq, decide_eq_true_eq] at hc
      cases e
      cases r1 with
      | lst s nm ra =>
        cases r2
        have hs := sizeLine_eq
        have hl := ra.length
        refine ⟨_, n, _, rfl, rfl, s, by omega, by omega, ?_, fun p np => k _ _ (same_new np) (.lst upd_same (dm.fresh np) ((ra.rep n.toNat).same (same_new np)))⟩
        rw [hl]
        omega
    · cases e
  · cases e
def pRep : Prim := { syn := binSyn .Mult isMul, sem := two opRep }
theorem repG : PrimG pRep := prim_bin (fun o h => by cases o <;> first | rfl | cases h) fun X k W xo => opT_rep
end PL

namespace PL
open PySem PySem.Spec PyProof.Rows L2
/-! ## texts of the program that many laws reach -/
def b__law_places (F : List D → Res D) : S :=
  (.cons (.own true 1 (.prim pLst (.cons (.prim pTup .nil) .nil)))
  (.cons (.ite (.prim pIsTuple (.cons (.v 0) .nil))
  (.cons (.for_ (.name 2) (.rng (.cons (.prim pLen (.cons (.v 0) .nil)) .nil))
  (.cons (.extd true 1 (.comp [("place", 3)] (.name 3) (.seq (.call "_law_places" F (.cons (.prim pIx (.cons (.v 0) (.cons (.v 2) .nil))) .nil))) .none (.prim pAdd (.cons (.prim pTup (.cons (.v 2) .nil)) (.cons (.v 3) .nil)))))
  .nil))
  .nil)
  .nil)
  (.cons (.ret (.v 1))
  .nil)))
def f__law_places : Nat → List D → Res D
  | 0 => fun _ => .stuck
  | n + 1 => callD 4 1 (b__law_places (f__law_places n))
def b__law_put (F : List D → Res D) : S :=
  (.cons (.ite (.prim pEq (.cons (.v 1) (.cons (.prim pTup .nil) .nil)))
  (.cons (.ret (.v 2))
  .nil)
  .nil)
  (.cons (.set true 3 (.prim pIx (.cons (.v 1) (.cons (.c (.int 0)) .nil))))
  (.cons (.ret (.prim pAdd (.cons (.prim pAdd (.cons (.prim pSlU (.cons (.v 0) (.cons (.v 3) .nil))) (.cons (.prim pTup (.cons (.call "_law_put" F (.cons (.prim pIx (.cons (.v 0) (.cons (.v 3) .nil))) (.cons (.prim pSlL (.cons (.v 1) (.cons (.c (.int 1)) .nil))) (.cons (.v 2) .nil)))) .nil)) .nil))) (.cons (.prim pSlL (.cons (.v 0) (.cons (.prim pAdd (.cons (.v 3) (.cons (.c (.int 1)) .nil))) .nil))) .nil))))
  .nil)))
def f__law_put : Nat → List D → Res D
  | 0 => fun _ => .stuck
  | n + 1 => callD 4 3 (b__law_put (f__law_put n))
def b__law_spoilt_thing : S :=
  (.cons (.set true 3 (.call "_law_places" (f__law_places 4) (.cons (.v 2) .nil)))
  (.cons (.set true 4 (.prim pIx (.cons (.v 3) (.cons (.call "_law_pick" fPick (.cons (.v 0) (.cons (.v 1) (.cons (.prim pLen (.cons (.v 3) .nil)) .nil)))) .nil))))
  (.cons (.set true 5 (.v 2))
  (.cons (.for_ (.name 6) (.seq (.v 4))
  (.cons (.set true 5 (.prim pIx (.cons (.v 5) (.cons (.v 6) .nil))))
  .nil))
  (.cons (.set true 7 (.prim pLst (.cons (.c (.int 0)) (.cons (.c (.int 1)) (.cons (.c (.int 2)) (.cons (.c (.int 99)) (.cons (.c (.int 100)) (.cons (.prim pNeg (.cons (.c (.int 99)) .nil)) (.cons (.prim pNeg (.cons (.c (.int 100)) .nil)) (.cons (.c (.int 999)) (.cons (.c (.int 1000)) (.cons (.c (.bl true)) (.cons (.c .non) (.cons (.c (.str "1")) (.cons (.prim pTup .nil) (.cons (.prim pTup (.cons (.c (.int 0)) (.cons (.c (.int 0)) (.cons (.c (.int 0)) .nil)))) (.cons (.prim pLst (.cons (.c (.int 0)) .nil)) (.cons (.prim pTup (.cons (.v 5) .nil)) (.cons (.prim pTup (.cons (.v 5) (.cons (.v 5) .nil))) .nil)))))))))))))))))))
  (.cons (.set true 8 (.call "_law_pick" fPick (.cons (.v 0) (.cons (.prim pAdd (.cons (.v 1) (.cons (.c (.int 1)) .nil))) (.cons (.c (.int 23)) .nil)))))
  (.cons (.ite (.prim pLt (.cons (.v 8) (.cons (.c (.int 17)) .nil)))
  (.cons (.ret (.call "_law_put" (f__law_put 4) (.cons (.v 2) (.cons (.v 4) (.cons (.prim pIx (.cons (.v 7) (.cons (.v 8) .nil))) .nil)))))
  .nil)
  .nil)
  (.cons (.ite (.and (.prim pIsTuple (.cons (.v 5) .nil)) (.prim pNe (.cons (.v 5) (.cons (.prim pTup .nil) .nil))))
  (.cons (.set true 6 (.call "_law_pick" fPick (.cons (.v 0) (.cons (.prim pAdd (.cons (.v 1) (.cons (.c (.int 2)) .nil))) (.cons (.prim pLen (.cons (.v 5) .nil)) .nil)))))
  (.cons (.ret (.call "_law_put" (f__law_put 4) (.cons (.v 2) (.cons (.v 4) (.cons (.ite (.prim pLt (.cons (.v 8) (.cons (.c (.int 20)) .nil))) (.prim pAdd (.cons (.prim pSlU (.cons (.v 5) (.cons (.v 6) .nil))) (.cons (.prim pSlL (.cons (.v 5) (.cons (.prim pAdd (.cons (.v 6) (.cons (.c (.int 1)) .nil))) .nil))) .nil))) (.prim pAdd (.cons (.prim pSlU (.cons (.v 5) (.cons (.prim pAdd (.cons (.v 6) (.cons (.c (.int 1)) .nil))) .nil))) (.cons (.prim pSlL (.cons (.v 5) (.cons (.v 6) .nil))) .nil)))) .nil)))))
  .nil))
  .nil)
  (.cons (.ret (.call "_law_put" (f__law_put 4) (.cons (.v 2) (.cons (.v 4) (.cons (.ite (.prim pIsInt (.cons (.v 5) .nil)) (.prim pSub (.cons (.prim pAdd (.cons (.v 5) (.cons (.v 8) .nil))) (.cons (.c (.int 21)) .nil))) (.c (.int 7))) .nil)))))
  .nil)))))))))
def f__law_spoilt_thing : List D → Res D := callD 9 3 b__law_spoilt_thing
def b__law_whole : S :=
  (.cons (.ret (.and (.prim pIsInt (.cons (.v 0) .nil)) (.and (.not (.prim pIsBool (.cons (.v 0) .nil))) (.chain .LtE .LtE opLe opLe (.v 1) (.v 0) (.v 2)))))
  .nil)
def f__law_whole : List D → Res D := callD 3 3 b__law_whole
def b__law_is_point : S :=
  (.cons (.ite (.or (.not (.prim pIsTuple (.cons (.v 0) .nil))) (.or (.prim pNe (.cons (.prim pLen (.cons (.v 0) .nil)) (.cons (.c (.int 3)) .nil))) (.not (.call "_law_whole" f__law_whole (.cons (.prim pIx (.cons (.v 0) (.cons (.c (.int 0)) .nil))) (.cons (.c (.int 0)) (.cons (.c (.int 999)) .nil)))))))
  (.cons (.ret (.c (.bl false)))
  .nil)
  .nil)
  (.cons (.ret (.and (.call "_law_whole" f__law_whole (.cons (.prim pIx (.cons (.v 0) (.cons (.c (.int 1)) .nil))) (.cons (.prim pNeg (.cons (.c (.int 99)) .nil)) (.cons (.c (.int 99)) .nil)))) (.call "_law_whole" f__law_whole (.cons (.prim pIx (.cons (.v 0) (.cons (.c (.int 2)) .nil))) (.cons (.prim pNeg (.cons (.c (.int 99)) .nil)) (.cons (.c (.int 99)) .nil))))))
  .nil))
def f__law_is_point : List D → Res D := callD 1 1 b__law_is_point
def b__law_is_track : S :=
  (.cons (.ite (.or (.not (.prim pIsTuple (.cons (.v 0) .nil))) (.not (.chain .LtE .LtE opLe opLe (.c (.int 1)) (.prim pLen (.cons (.v 0) .nil)) (.c (.int 12)))))
  (.cons (.ret (.c (.bl false)))
  .nil)
  .nil)
  (.cons (.ite (.prim pNe (.cons (.comp [("one", 1)] (.name 1) (.seq (.v 0)) (.some (.not (.call "_law_is_point" f__law_is_point (.cons (.v 1) .nil)))) (.v 1)) (.cons (.prim pLst .nil) .nil)))
  (.cons (.ret (.c (.bl false)))
  .nil)
  .nil)
  (.cons (.ret (.prim pEq (.cons (.comp [("k", 2)] (.name 2) (.rng (.cons (.c (.int 1)) (.cons (.prim pLen (.cons (.v 0) .nil)) .nil))) (.some (.prim pLe (.cons (.prim pIx (.cons (.prim pIx (.cons (.v 0) (.cons (.v 2) .nil))) (.cons (.c (.int 0)) .nil))) (.cons (.prim pIx (.cons (.prim pIx (.cons (.v 0) (.cons (.prim pSub (.cons (.v 2) (.cons (.c (.int 1)) .nil))) .nil))) (.cons (.c (.int 0)) .nil))) .nil)))) (.v 2)) (.cons (.prim pLst .nil) .nil))))
  .nil)))
def f__law_is_track : List D → Res D := callD 3 1 b__law_is_track
def b__law_word : S :=
  (.cons (.own true 1 (.prim pLst (.cons (.atom (aIsi 0 "NoFit" [("NoTrack", false), ("NoTime", false), ("NoNumber", false), ("NoFit", true), ("NoPoint", false), ("NoText", false)])) (.cons (.atom (aIsi 0 "NoNumber" [("NoTrack", false), ("NoTime", false), ("NoNumber", true), ("NoFit", false), ("NoPoint", false), ("NoText", false)])) (.cons (.atom (aIsi 0 "NoPoint" [("NoTrack", false), ("NoTime", false), ("NoNumber", false), ("NoFit", false), ("NoPoint", true), ("NoText", false)])) (.cons (.atom (aIsi 0 "NoText" [("NoTrack", false), ("NoTime", false), ("NoNumber", false), ("NoFit", false), ("NoPoint", false), ("NoText", true)])) .nil))))))
  (.cons (.extd true 1 (.prim pLst (.cons (.atom (aIsi 0 "NoTime" [("NoTrack", false), ("NoTime", true), ("NoNumber", false), ("NoFit", false), ("NoPoint", false), ("NoText", false)])) (.cons (.atom (aIsi 0 "NoTrack" [("NoTrack", true), ("NoTime", false), ("NoNumber", false), ("NoFit", false), ("NoPoint", false), ("NoText", false)])) .nil))))
  (.cons (.ite (.or (.prim pNe (.cons (.atom (aCount 1 (.c (.bl true)))) (.cons (.c (.int 1)) .nil))) (.not (.atom (aIsi 0 "ValueError" [("NoTrack", true), ("NoTime", true), ("NoNumber", true), ("NoFit", true), ("NoPoint", true), ("NoText", true)]))))
  (.cons (.ret (.c (.str "wrong")))
  .nil)
  .nil)
  (.cons (.ret (.prim pIx (.cons (.prim pLst (.cons (.c (.str "no fit")) (.cons (.c (.str "no number")) (.cons (.c (.str "no point")) (.cons (.c (.str "no text")) (.cons (.c (.str "no time")) (.cons (.c (.str "no track")) .nil))))))) (.cons (.atom (aIndex 1 (.c (.bl true)))) .nil))))
  .nil))))
def f__law_word : List D → Res D := callD 2 1 b__law_word
end PL

namespace PL
open PySem PySem.Spec PyProof.Rows L2
/-! ## the words of the refusals -/
theorem word_track : f__law_word [.exc "NoTrack"] = .ok (.str "no track") := rfl
theorem word_number : f__law_word [.exc "NoNumber"] = .ok (.str "no number") := rfl
theorem word_time : f__law_word [.exc "NoTime"] = .ok (.str "no time") := rfl
theorem word_fit : f__law_word [.exc "NoFit"] = .ok (.str "no fit") := rfl
theorem word_point : f__law_word [.exc "NoPoint"] = .ok (.str "no point") := rfl
theorem word_text : f__law_word [.exc "NoText"] = .ok (.str "no text") := rfl
/-! ## whole numbers, points and tracks among all things -/
def wholeB (d : D) (a b : Int) : Bool := match d with
  | .int i => decide (a ≤ i) && decide (i ≤ b)
  | _ => false
theorem whole_any {d : D} (h : d.pl = true) (a b : Int) : f_is_whole [d, .int a, .int b] = .ok (.bl (wholeB d a b)) := by
  cases d with
  | int i => exact whole_ok i a b
  | bl k => exact rcall rfl (rret (eandT (e1 rfl rfl) (eandF (enT (e1 rfl rfl)))))
  | exc c => cases h
  | ob c ks vs => cases h
  | dct ks vs => cases h
  | dcT ks vs => cases h
  | _ => exact rcall rfl (rret (eandF (e1 rfl rfl)))
theorem whole_anyL {d : D} (h : d.pl = true) (a b : Int) : f__law_whole [d, .int a, .int b] = .ok (.bl (wholeB d a b)) := whole_any h a b
def pointB : D → Bool
  | .tup [a, b, c] => wholeB a 0 999 && (wholeB b (-99) 99 && wholeB c (-99) 99)
  | _ => false
theorem pointB3 (a b c : D) : pointB (.tup [a, b, c]) = (wholeB a 0 999 && (wholeB b (-99) 99 && wholeB c (-99) 99)) := rfl
theorem plAll_mem : ∀ {l : List D}, plAll l = true → ∀ d ∈ l, d.pl = true
  | [], _, d, h => by cases h
  | x :: l, h, d, hd => by
    have h' : x.pl = true ∧ plAll l = true := by simpa [plAll] using h
    rcases List.mem_cons.mp hd with rfl | hd
    · exact h'.1
    · exact plAll_mem h'.2 d hd
theorem pointB_len {l : List D} (h : l.length ≠ 3) : pointB (.tup l) = false := by
  unfold pointB
  split
  · rename_i e
    cases e
    exact absurd rfl h
  · rfl
theorem len3 {l : List D} (h : l.length = 3) : ∃ a b c, l = [a, b, c] := by
  match l, h with
  | [a, b, c], _ => exact ⟨a, b, c, rfl⟩
theorem point_any {d : D} (h : d.pl = true) : f_is_point [d] = .ok (.bl (pointB d)) := by
  cases d with
  | tup l =>
    by_cases h3 : l.length = 3
    · obtain ⟨a, b, c, rfl⟩ := len3 h3
      have pa := plAll_mem (show plAll [a, b, c] = true from h)
      have wa := whole_any (pa a (by simp)) 0 999
      cases ea : wholeB a 0 999 with
      | false =>
        rw [ea] at wa
        have : pointB (.tup [a, b, c]) = false := by rw [pointB3, ea]; rfl
        rw [this]
        exact rcall rfl (riteT (eorF (enT (e1 rfl rfl)) (eorF (e2 (e1 rfl rfl) ki rfl) (enF (ec (lc (e2 rfl ki rfl) (lc ki (lc rfl l0))) wa)))) (rret rfl))
      | true =>
        rw [ea] at wa
        have e : pointB (.tup [a, b, c]) = [b, c].all fun x => wholeB x (-99) 99 := by rw [pointB3, ea]; simp
        rw [e]
        refine rcall rfl (riteF (eorF (enT (e1 rfl rfl)) (eorF (e2 (e1 rfl rfl) ki rfl) (enT (ec (lc (e2 rfl ki rfl) (lc ki (lc rfl l0))) wa)))) ?_)
        refine rret (e1 (ecomp [b, c] id (fun x => .bl (wholeB x (-99) 99)) rfl (by simp) ?_) (all_map (fun x => wholeB x (-99) 99) [b, c]))
        intro x hx
        exact ⟨_, rfl, ec (lc rfl (lc rfl (lc rfl l0))) (whole_any (pa x (List.mem_cons_of_mem _ hx)) _ _)⟩
    · rw [pointB_len h3]
      refine rcall rfl (riteT (eorF (enT (e1 rfl rfl)) (eorT (e2 (e1 rfl rfl) ki ((o_neI _ _).trans ?_)))) (rret rfl))
      rw [decide_eq_false (by omega)]; rfl
  | exc c => cases h
  | ob c ks vs => cases h
  | dct ks vs => cases h
  | dcT ks vs => cases h
  | _ => exact rcall rfl (riteT (eorT (enF (e1 rfl rfl))) (rret rfl))
theorem point_anyL {d : D} (h : d.pl = true) : f__law_is_point [d] = .ok (.bl (pointB d)) := by
  cases d with
  | tup l =>
    by_cases h3 : l.length = 3
    · obtain ⟨a, b, c, rfl⟩ := len3 h3
      have pa := plAll_mem (show plAll [a, b, c] = true from h)
      have wa := whole_anyL (pa a (by simp)) 0 999
      cases ea : wholeB a 0 999 with
      | false =>
        rw [ea] at wa
        have : pointB (.tup [a, b, c]) = false := by rw [pointB3, ea]; rfl
        rw [this]
        exact rcall rfl (riteT (eorF (enT (e1 rfl rfl)) (eorF (e2 (e1 rfl rfl) ki rfl) (enF (ec (lc (e2 rfl ki rfl) (lc ki (lc ki l0))) wa)))) (rret rfl))
      | true =>
        rw [ea] at wa
        have e : pointB (.tup [a, b, c]) = (wholeB b (-99) 99 && wholeB c (-99) 99) := by rw [pointB3, ea]; simp
        rw [e]
        refine rcall rfl (riteF (eorF (enT (e1 rfl rfl)) (eorF (e2 (e1 rfl rfl) ki rfl) (enT (ec (lc (e2 rfl ki rfl) (lc ki (lc ki l0))) wa)))) ?_)
        exact rret (eandB (ec (lc (e2 rfl ki rfl) (lc (e1 ki rfl) (lc ki l0))) (whole_anyL (pa b (by simp)) _ _)) (ec (lc (e2 rfl ki rfl) (lc (e1 ki rfl) (lc ki l0))) (whole_anyL (pa c (by simp)) _ _)))
    · rw [pointB_len h3]
      refine rcall rfl (riteT (eorF (enT (e1 rfl rfl)) (eorT (e2 (e1 rfl rfl) ki ((o_neI _ _).trans ?_)))) (rret rfl))
      rw [decide_eq_false (by omega)]; rfl
  | exc c => cases h
  | ob c ks vs => cases h
  | dct ks vs => cases h
  | dcT ks vs => cases h
  | _ => exact rcall rfl (riteT (eorT (enF (e1 rfl rfl))) (rret rfl))
def tmD : D → Int
  | .tup (.int t :: _) => t
  | _ => 0
def riseB (l : List D) : Bool := (l.zip (l.drop 1)).all fun q => decide (tmD q.1 < tmD q.2)
def trackB : D → Bool
  | .tup l => decide (1 ≤ l.length) && decide (l.length ≤ 12) && (l.all pointB && riseB l)
  | _ => false
theorem point_is {d : D} (h : pointB d = true) : ∃ p : P3, d = ptD p ∧ InPt p := by
  unfold pointB at h
  split at h
  · rename_i a b c
    rw [Bool.and_eq_true, Bool.and_eq_true] at h
    obtain ⟨h1, h2, h3⟩ := h
    cases a with
    | int x =>
      cases b with
      | int y =>
        cases c with
        | int z =>
          simp only [wholeB, Bool.and_eq_true, decide_eq_true_eq] at h1 h2 h3
          exact ⟨(x, y, z), rfl, h1.1, h1.2, h2.1, h2.2, h3.1, h3.2⟩
        | _ => cases h3
      | _ => cases h2
    | _ => cases h1
  · cases h
theorem points_are : ∀ {l : List D}, l.all pointB = true → ∃ ps : List P3, l = ps.map ptD ∧ ∀ p ∈ ps, InPt p
  | [], _ => ⟨[], rfl, fun p h => by cases h⟩
  | d :: l, h => by
    rw [List.all_cons, Bool.and_eq_true] at h
    obtain ⟨p, rfl, hp⟩ := point_is h.1
    obtain ⟨ps, rfl, hps⟩ := points_are h.2
    exact ⟨p :: ps, rfl, fun q hq => by
      rcases List.mem_cons.mp hq with rfl | hq
      · exact hp
      · exact hps q hq⟩
theorem point_pt {p : P3} (h : InPt p) : pointB (ptD p) = true := by
  obtain ⟨h1, h2, h3, h4, h5, h6⟩ := h
  show (wholeB (.int p.1) 0 999 && (wholeB (.int p.2.1) (-99) 99 && wholeB (.int p.2.2) (-99) 99)) = true
  simp [wholeB, h1, h2, h3, h4, h5, h6]
theorem riseB_pts : ∀ (ps : List P3), riseB (ps.map ptD) = true ↔ Rise ps
  | [] => by simp [riseB, Rise]
  | [_] => by simp [riseB, Rise]
  | a :: b :: r => by
    have ih := riseB_pts (b :: r)
    have e : riseB ((a :: b :: r).map ptD) = (decide (a.1 < b.1) && riseB ((b :: r).map ptD)) := rfl
    rw [e, Bool.and_eq_true, ih, decide_eq_true_eq]
    exact Iff.rfl
theorem track_is {d : D} (h : trackB d = true) : ∃ T : List P3, d = trk T ∧ Good T := by
  cases d with
  | tup l =>
    have h' : (decide (1 ≤ l.length) && decide (l.length ≤ 12) && (l.all pointB && riseB l)) = true := h
    rw [Bool.and_eq_true, Bool.and_eq_true, Bool.and_eq_true, decide_eq_true_eq, decide_eq_true_eq] at h'
    obtain ⟨⟨h1, h2⟩, h3, h4⟩ := h'
    obtain ⟨ps, rfl, hp⟩ := points_are h3
    rw [List.length_map] at h1 h2
    exact ⟨ps, rfl, h1, h2, hp, (riseB_pts ps).mp h4⟩
  | _ => cases h
theorem track_good {T : List P3} (G : Good T) : trackB (trk T) = true := by
  show (decide (1 ≤ (T.map ptD).length) && decide ((T.map ptD).length ≤ 12) && ((T.map ptD).all pointB && riseB (T.map ptD))) = true
  rw [List.length_map, decide_eq_true G.ne, decide_eq_true G.le, (riseB_pts T).mpr G.up]
  have : (T.map ptD).all pointB = true := List.all_eq_true.mpr fun d hd => by
    obtain ⟨p, hp, rfl⟩ := List.mem_map.mp hd
    exact point_pt (G.pt p hp)
  rw [this]; rfl
theorem track_any {d : D} (h : d.pl = true) : f_is_track [d] = .ok (.bl (trackB d)) := by
  cases d with
  | tup l =>
    have pa := plAll_mem (show plAll l = true from h)
    have ln : ev (.prim pLen (.cons (.v 0) .nil)) (full (startS 4 [.tup l])) = .ok (.int (l.length : Nat)) := e1 rfl rfl
    by_cases hl : 1 ≤ l.length ∧ l.length ≤ 12
    · have e0 : trackB (.tup l) = (l.all pointB && riseB l) := by
        show (decide (1 ≤ l.length) && decide (l.length ≤ 12) && _) = _
        rw [decide_eq_true hl.1, decide_eq_true hl.2]; rfl
      rw [e0]
      have ch : ev (.chain .LtE .LtE opLe opLe (.c (.int 1)) (.prim pLen (.cons (.v 0) .nil)) (.g "MOST" (.int 12))) (full (startS 4 [.tup l])) = .ok (.bl true) := by
        refine (echain ki ln rfl rfl rfl).trans ?_
        rw [decide_eq_true (by omega), decide_eq_true (by omega)]; rfl
      have al : ev (.prim pAll (.cons (.comp [("point", 1)] (.name 1) (.seq (.v 0)) .none (.call "is_point" f_is_point (.cons (.v 1) .nil))) .nil)) (full (startS 4 [.tup l])) = .ok (.bl (l.all pointB)) := by
        refine e1 (ecomp l id (fun x => .bl (pointB x)) ?_ (by omega) ?_) (all_map pointB l)
        · show Res.ok l = _; rw [List.map_id]
        · intro x hx
          exact ⟨_, rfl, ec (lc rfl l0) (point_any (pa x hx))⟩
      cases ea : l.all pointB with
      | false =>
        rw [ea] at al
        exact rcall rfl (riteT (eorF (enT (e1 rfl rfl)) (eorF (enT ch) (enF al))) (rret rfl))
      | true =>
        rw [ea] at al
        obtain ⟨ps, rfl, hp⟩ := points_are ea
        refine rcall rfl (riteF (eorF (enT (e1 rfl rfl)) (eorF (enT ch) (enT al))) ?_)
        refine rret (e1 (ecomp (ps.zip (ps.drop 1)) (fun q => .tup [ptD q.1, ptD q.2]) (fun q => .bl (decide (q.1.1 < q.2.1))) ?_ ?_ ?_) ?_)
        · show zipItems (.tup (ps.map ptD)) (.tup (cutG (ps.map ptD) (some ((1 : Nat) : Int)) none)) = _
          rw [cut_lo, ← List.map_drop]
          show Res.ok (zipD _ _) = _
          rw [zipD_map]
        · rw [List.length_zip]; rw [List.length_map] at hl; omega
        · intro q hq
          exact ⟨_, rfl, elt (e2 rfl ki rfl) (e2 rfl ki rfl)⟩
        · refine (all_map _ _).trans ?_
          unfold riseB
          rw [← List.map_drop, List.zip_map, List.all_map]
          rfl
    · have e0 : trackB (.tup l) = false := by
        show (decide (1 ≤ l.length) && decide (l.length ≤ 12) && _) = _
        by_cases h1 : 1 ≤ l.length
        · rw [decide_eq_true h1, decide_eq_false (show ¬ l.length ≤ 12 from fun z => hl ⟨h1, z⟩)]; rfl
        · rw [decide_eq_false h1]; rfl
      rw [e0]
      have ch : ev (.chain .LtE .LtE opLe opLe (.c (.int 1)) (.prim pLen (.cons (.v 0) .nil)) (.g "MOST" (.int 12))) (full (startS 4 [.tup l])) = .ok (.bl false) := by
        refine (echain ki ln rfl rfl rfl).trans ?_
        by_cases h1 : 1 ≤ l.length
        · rw [decide_eq_true (show (1 : Int) ≤ (l.length : Nat) by omega), decide_eq_false (show ¬ ((l.length : Nat) : Int) ≤ 12 by omega)]; rfl
        · rw [decide_eq_false (show ¬ (1 : Int) ≤ (l.length : Nat) by omega)]; rfl
      exact rcall rfl (riteT (eorF (enT (e1 rfl rfl)) (eorT (enF ch))) (rret rfl))
  | exc c => cases h
  | ob c ks vs => cases h
  | dct ks vs => cases h
  | dcT ks vs => cases h
  | _ => exact rcall rfl (riteT (eorT (enF (e1 rfl rfl))) (rret rfl))
theorem look_any {d : D} (h : d.pl = true) : f_look_track [d] = if trackB d then .ok .non else .exc "NoTrack" := by
  have t := track_any h
  show outR (PL.run b_look_track (startS 1 [d])) = _
  cases e : trackB d with
  | true =>
    rw [e] at t
    have : PL.run b_look_track (startS 1 [d]) = .nx (startS 1 [d]) := riteF (enT (ec (lc rfl l0) t)) rfl
    rw [this]; rfl
  | false =>
    rw [e] at t
    have : PL.run b_look_track (startS 1 [d]) = .exc "NoTrack" := rite (enF (ec (lc rfl l0) t)) rfl
    rw [this]; rfl
end PL

namespace PL
open PySem PySem.Spec PyProof.Rows L2
/-! ## the laws' own test of a track -/
theorem Sh.tupI {n : Nat} {l : List D} (h : Sh n (.tup l)) : ∃ m, n = m + 1 ∧ ∀ d ∈ l, Sh m d := by
  obtain ⟨h1, h2, h3⟩ := h
  have h3' : PyData.depthAll (pyAll l) + 1 ≤ n := h3
  refine ⟨n - 1, by omega, ?_⟩
  have key : ∀ (l : List D), plAll l = true → PyData.canLayAll0 (pyAll l) = true → PyData.depthAll (pyAll l) ≤ n - 1 → ∀ d ∈ l, Sh (n - 1) d := by
    intro l
    induction l with
    | nil => intro _ _ _ d hd; cases hd
    | cons x l ih =>
      intro a b c d hd
      have a' : x.pl = true ∧ plAll l = true := by simpa [plAll] using a
      have b' : x.py.canLay0 = true ∧ PyData.canLayAll0 (pyAll l) = true := by
        have : (x.py.canLay0 && PyData.canLayAll0 (pyAll l)) = true := b
        simpa using this
      have c' : max x.py.depth (PyData.depthAll (pyAll l)) ≤ n - 1 := c
      rcases List.mem_cons.mp hd with rfl | hd
      · exact ⟨a'.1, b'.1, by omega⟩
      · exact ih a'.2 b'.2 (by omega) d hd
  exact key l h1 h2 (by omega)
theorem Sh.mono {n m : Nat} {d : D} (h : Sh n d) (le : n ≤ m) : Sh m d := ⟨h.pl, h.lay, Nat.le_trans h.dep le⟩
theorem all_filter {α : Type} (p : α → Bool) : ∀ l : List α, (l.filterMap fun x => if !p x then some x else none).isEmpty = l.all p
  | [] => rfl
  | a :: l => by
    rw [List.filterMap_cons, List.all_cons]
    cases e : p a with
    | true => simp only [Bool.not_true, Bool.false_eq_true, if_false]; rw [all_filter p l]; rfl
    | false => rfl
theorem eqq {d : D} {a b : Bool} (h : a = b) : (Res.ok (D.bl a) : Res D) = .ok (.bl b) := by rw [h]
theorem ite_no {c : Bool} {x : D} : (if c = true then some x else none) = none ↔ c = false := by cases c <;> simp
theorem rise_range (ps : List P3) : ((List.range (ps.length - 1)).filterMap fun k => if decide ((at3 ps (k + 1)).1 ≤ (at3 ps k).1) then some (D.int ((k : Int) + 1)) else none).isEmpty = riseB (ps.map ptD) := by
  rw [Bool.eq_iff_iff, riseB_pts, List.isEmpty_iff, List.filterMap_eq_nil_iff]
  have get : ∀ {l : List P3} {i : Nat} (h : i < l.length), at3 l i = l[i] := fun h => by unfold at3; rw [List.getD_eq_getElem?_getD, List.getElem?_eq_getElem h]; rfl
  induction ps with
  | nil => simp [Rise]
  | cons a l ih =>
    cases l with
    | nil => simp [Rise]
    | cons b r =>
      constructor
      · intro h
        refine ⟨?_, ih.mp fun k hk => ?_⟩
        · have := h 0 (by simp)
          simp only [ite_eq_right_iff, reduceCtorEq, imp_false] at this
          have h2 : ¬ ((at3 (a :: b :: r) (0 + 1)).1 ≤ (at3 (a :: b :: r) 0).1) := by simpa using this
          have e1 : at3 (a :: b :: r) (0 + 1) = b := rfl
          have e2 : at3 (a :: b :: r) 0 = a := rfl
          rw [e1, e2] at h2
          omega
        · have hk' : k < r.length := by simpa using hk
          have := h (k + 1) (by simp; omega)
          rw [ite_no] at this ⊢
          exact this
      · intro ⟨h1, h2⟩ k hk
        cases k with
        | zero =>
          have e1 : at3 (a :: b :: r) (0 + 1) = b := rfl
          have e2 : at3 (a :: b :: r) 0 = a := rfl
          rw [e1, e2, if_neg]
          simp only [decide_eq_true_eq]
          omega
        | succ k =>
          have hk' : k < r.length := by simpa using hk
          have := ih.mpr h2 k (by simpa using hk')
          rw [ite_no] at this ⊢
          exact this
theorem rng_1n {n : Nat} (h : n ≤ 1000) : rngD [.int 1, .int ((n : Nat) : Int)] = .ok ((List.range (n - 1)).map fun (k : Nat) => D.int ((k : Int) + 1)) := by
  have o1 : okZ 1 = true := by decide
  have o2 : okZ ((n : Nat) : Int) = true := by
    unfold okZ
    rw [decide_eq_true (by omega), decide_eq_true (by omega)]; rfl
  show (if (okZ 1 && okZ ((n : Nat) : Int)) = true then Res.ok (rangeD 1 ((n : Nat) : Int)) else Res.stuck) = _
  rw [o1, o2]
  show Res.ok (rangeD 1 ((n : Nat) : Int)) = _
  unfold rangeD
  have e : (((n : Nat) : Int) - 1).toNat = n - 1 := by omega
  rw [e]
  exact congrArg Res.ok (List.map_congr_left fun k _ => by rw [Int.add_comm])
theorem track_anyL {d : D} {n : Nat} (h : Sh n d) (hn : n ≤ 60) : f__law_is_track [d] = .ok (.bl (trackB d)) := by
  have hp := h.pl
  cases d with
  | tup l =>
    have pa := plAll_mem (show plAll l = true from hp)
    have ln : ev (.prim pLen (.cons (.v 0) .nil)) (full (startS 3 [.tup l])) = .ok (.int (l.length : Nat)) := e1 rfl rfl
    by_cases hl : 1 ≤ l.length ∧ l.length ≤ 12
    · have e0 : trackB (.tup l) = (l.all pointB && riseB l) := by
        show (decide (1 ≤ l.length) && decide (l.length ≤ 12) && _) = _
        rw [decide_eq_true hl.1, decide_eq_true hl.2]; rfl
      rw [e0]
      have ch : ev (.chain .LtE .LtE opLe opLe (.c (.int 1)) (.prim pLen (.cons (.v 0) .nil)) (.c (.int 12))) (full (startS 3 [.tup l])) = .ok (.bl true) := by
        refine (echain ki ln ki rfl rfl).trans ?_
        rw [decide_eq_true (by omega), decide_eq_true (by omega)]; rfl
      obtain ⟨m, hm, hsh⟩ := h.tupI
      have al : ev (.prim pNe (.cons (.comp [("one", 1)] (.name 1) (.seq (.v 0)) (.some (.not (.call "_law_is_point" f__law_is_point (.cons (.v 1) .nil)))) (.v 1)) (.cons (.prim pLst .nil) .nil))) (full (startS 3 [.tup l])) = .ok (.bl (!(l.all pointB))) := by
        refine e2 (ecompF l id (fun x => if !pointB x then some x else none) ?_ (by omega) ?_) rfl ?_
        · show Res.ok l = _; rw [List.map_id]
        · intro x hx
          refine ⟨_, !pointB x, rfl, enot (ec (lc rfl l0) (point_anyL (pa x hx))), fun z => by rw [z]; rfl, fun z => ⟨x, rfl, by rw [z]; rfl⟩⟩
        · refine (ne_nil (n := m) ?_ (by omega)).trans ?_
          · intro y hy
            obtain ⟨x, hx, e⟩ := List.mem_filterMap.mp hy
            split at e
            · have e2 := Option.some.inj e
              rw [← e2]; exact hsh x hx
            · cases e
          · rw [all_filter]
      cases ea : l.all pointB with
      | false =>
        rw [ea] at al
        exact rcall rfl (riteF (eorF (enT (e1 rfl rfl)) (enT ch)) (riteT al (rret rfl)))
      | true =>
        rw [ea] at al
        obtain ⟨ps, rfl, hp⟩ := points_are ea
        rw [List.length_map] at hl
        refine rcall rfl (riteF (eorF (enT (e1 rfl rfl)) (enT ch)) (riteF al ?_))
        refine rret (e2 (ecompF (List.range (ps.length - 1)) (fun (k : Nat) => D.int ((k : Int) + 1)) (fun k => if decide ((at3 ps (k + 1)).1 ≤ (at3 ps k).1) then some (D.int ((k : Int) + 1)) else none) ?_ (by rw [List.length_range]; omega) ?_) rfl ?_)
        · refine irng (lc ki (lc ln l0)) ?_
          rw [List.length_map]
          exact rng_1n (by omega)
        · intro k hk
          have hk' : k < ps.length - 1 := List.mem_range.mp hk
          have get : ∀ {i : Nat} (h : i < ps.length), at3 ps i = ps[i] := fun h => by unfold at3; rw [List.getD_eq_getElem?_getD, List.getElem?_eq_getElem h]; rfl
          have i1 : opIx (.tup (ps.map ptD)) (.int ((k : Int) + 1)) = some (ptD (at3 ps (k + 1))) := by
            rw [o_ixT, show ((k : Int) + 1) = ((k + 1 : Nat) : Int) by omega, atN, List.getElem?_map, List.getElem?_eq_getElem (show k + 1 < ps.length by omega), get]; rfl
          have i2 : opIx (.tup (ps.map ptD)) (.int ((k : Int) + 1 - 1)) = some (ptD (at3 ps k)) := by
            rw [o_ixT, show ((k : Int) + 1 - 1) = ((k : Nat) : Int) by omega, atN, List.getElem?_map, List.getElem?_eq_getElem (show k < ps.length by omega), get]; rfl
          refine ⟨_, decide ((at3 ps (k + 1)).1 ≤ (at3 ps k).1), rfl, ele (e2 (e2 rfl rfl i1) ki rfl) (e2 (e2 rfl (esub rfl ki) i2) ki rfl), fun z => by rw [z]; rfl, fun z => ⟨_, rfl, by rw [z]; rfl⟩⟩
        · refine (eq_nil (n := 0) ?_ (by omega)).trans ?_
          · intro y hy
            obtain ⟨x, hx, e⟩ := List.mem_filterMap.mp hy
            split at e
            · cases e; exact Sh.int 0 _
            · cases e
          · rw [rise_range]; rfl
    · have e0 : trackB (.tup l) = false := by
        show (decide (1 ≤ l.length) && decide (l.length ≤ 12) && _) = _
        by_cases h1 : 1 ≤ l.length
        · rw [decide_eq_true h1, decide_eq_false (show ¬ l.length ≤ 12 from fun z => hl ⟨h1, z⟩)]; rfl
        · rw [decide_eq_false h1]; rfl
      rw [e0]
      have ch : ev (.chain .LtE .LtE opLe opLe (.c (.int 1)) (.prim pLen (.cons (.v 0) .nil)) (.c (.int 12))) (full (startS 3 [.tup l])) = .ok (.bl false) := by
        refine (echain ki ln ki rfl rfl).trans ?_
        by_cases h1 : 1 ≤ l.length
        · rw [decide_eq_true (show (1 : Int) ≤ (l.length : Nat) by omega), decide_eq_false (show ¬ ((l.length : Nat) : Int) ≤ 12 by omega)]; rfl
        · rw [decide_eq_false (show ¬ (1 : Int) ≤ (l.length : Nat) by omega)]; rfl
      exact rcall rfl (riteT (eorF (enT (e1 rfl rfl)) (enF ch)) (rret rfl))
  | exc c => cases hp
  | ob c ks vs => cases hp
  | dct ks vs => cases hp
  | dcT ks vs => cases hp
  | _ => exact rcall rfl (riteT (eorT (enF (e1 rfl rfl))) (rret rfl))
end PL

namespace PL
open PySem PySem.Spec PyProof.Rows L2
/-! ## all places in a thing -/
def tupN (p : List Nat) : D := .tup (p.map fun (k : Nat) => D.int (k : Int))
def placesOf : Nat → D → List (List Nat)
  | 0, _ => []
  | n + 1, .tup l => [] :: (List.range l.length).flatMap fun k => (placesOf n (l.getD k .non)).map (k :: ·)
  | _ + 1, _ => [[]]
/-- so deep at most -/
def Deep : Nat → D → Prop
  | 0, _ => False
  | n + 1, .tup l => ∀ e ∈ l, Deep n e
  | _ + 1, _ => True
def pathD : D → List Nat → Option D
  | d, [] => some d
  | .tup l, k :: r => match l[k]? with
    | some e => pathD e r
    | none => none
  | _, _ :: _ => none
def putD : D → List Nat → D → D
  | _, [], new => new
  | .tup l, k :: r, new => .tup (l.set k (putD (l.getD k .non) r new))
  | d, _ :: _, _ => d
theorem getD_get {l : List D} {k : Nat} (h : k < l.length) : l.getD k .non = l[k] := by rw [List.getD_eq_getElem?_getD, List.getElem?_eq_getElem h]; rfl
theorem places_path : ∀ (n : Nat) (d : D) (p : List Nat), p ∈ placesOf n d → p.length < n ∧ ∃ e, pathD d p = some e
  | 0, d, p, h => by cases h
  | n + 1, .tup l, p, h => by
    rcases List.mem_cons.mp (show p ∈ [] :: (List.range l.length).flatMap fun k => (placesOf n (l.getD k .non)).map (k :: ·) from h) with rfl | h
    · exact ⟨by simp, _, by unfold pathD; rfl⟩
    · obtain ⟨k, hk, h⟩ := List.mem_flatMap.mp h
      obtain ⟨r, hr, rfl⟩ := List.mem_map.mp h
      obtain ⟨h1, e, h2⟩ := places_path n _ r hr
      have hk' : k < l.length := List.mem_range.mp hk
      refine ⟨by rw [List.length_cons]; omega, e, ?_⟩
      show (match l[k]? with | some e => pathD e r | none => none) = _
      rw [List.getElem?_eq_getElem hk']
      rw [getD_get hk'] at h2
      exact h2
  | n + 1, .non, p, h => by cases List.mem_singleton.mp (show p ∈ [[]] from h); exact ⟨by simp, _, rfl⟩
  | n + 1, .bl _, p, h => by cases List.mem_singleton.mp (show p ∈ [[]] from h); exact ⟨by simp, _, rfl⟩
  | n + 1, .int _, p, h => by cases List.mem_singleton.mp (show p ∈ [[]] from h); exact ⟨by simp, _, rfl⟩
  | n + 1, .str _, p, h => by cases List.mem_singleton.mp (show p ∈ [[]] from h); exact ⟨by simp, _, rfl⟩
  | n + 1, .lst _, p, h => by cases List.mem_singleton.mp (show p ∈ [[]] from h); exact ⟨by simp, _, rfl⟩
  | n + 1, .scr _, p, h => by cases List.mem_singleton.mp (show p ∈ [[]] from h); exact ⟨by simp, _, rfl⟩
  | n + 1, .dct _ _, p, h => by cases List.mem_singleton.mp (show p ∈ [[]] from h); exact ⟨by simp, _, rfl⟩
  | n + 1, .dcT _ _, p, h => by cases List.mem_singleton.mp (show p ∈ [[]] from h); exact ⟨by simp, _, rfl⟩
  | n + 1, .exc _, p, h => by cases List.mem_singleton.mp (show p ∈ [[]] from h); exact ⟨by simp, _, rfl⟩
  | n + 1, .ob _ _ _, p, h => by cases List.mem_singleton.mp (show p ∈ [[]] from h); exact ⟨by simp, _, rfl⟩
def plBody (F : List D → Res D) : S := .cons (.extd true 1 (.comp [("place", 3)] (.name 3) (.seq (.call "_law_places" F (.cons (.prim pIx (.cons (.v 0) (.cons (.v 2) .nil))) .nil))) .none (.prim pAdd (.cons (.prim pTup (.cons (.v 2) .nil)) (.cons (.v 3) .nil))))) .nil
theorem pl_loop {F : List D → Res D} {l : List D} {g : Nat → List (List Nat)} (hF : ∀ k, (h : k < l.length) → F [l[k]] = .ok (.lst ((g k).map tupN)) ∧ (g k).length ≤ 1000 ∧ ∀ p ∈ g k, p.length ≤ 1000) : ∀ (ks : List Nat) (acc : List D) (K : Sl), (∀ k ∈ ks, k < l.length) → acc.length + (ks.flatMap g).length < 90000 →
    ∃ K', forM (fun s => run (plBody F) s) (.name 2) (ks.map fun (k : Nat) => D.int (0 + (k : Int))) [.ro (.tup l), .own acc, K, .no] = .nx [.ro (.tup l), .own (acc ++ (ks.flatMap fun k => (g k).map (k :: ·)).map tupN), K', .no]
  | [], acc, K, _, _ => ⟨K, by
    show Out.nx _ = _
    simp⟩
  | k :: ks, acc, K, h, hl => by
    have hk : k < l.length := h k List.mem_cons_self
    obtain ⟨f1, f2, f3⟩ := hF k hk
    rw [List.flatMap_cons, List.length_append] at hl
    have step : run (plBody F) [.ro (.tup l), .own acc, .ro (.int (0 + (k : Int))), .no] = .nx [.ro (.tup l), .own (acc ++ ((g k).map (k :: ·)).map tupN), .ro (.int (0 + (k : Int))), .no] := by
      refine rextd (l := acc) (es := ((g k).map (k :: ·)).map tupN) rfl ?_ rfl ?_ rfl
      · refine (ecomp (g k) tupN (fun p => tupN (k :: p)) (iseq (ec (lc (e2 rfl rfl ?_) l0) f1) rfl) f2 ?_).trans ?_
        · show atI l (0 + (k : Int)) = _
          rw [Int.zero_add, atN, List.getElem?_eq_getElem hk]
        · intro p hp
          refine ⟨_, rfl, e2 (e1 rfl rfl) rfl ?_⟩
          show (if [D.int (0 + (k : Int))].length + (p.map fun (k : Nat) => D.int (k : Int)).length ≤ sizeD then some (D.tup ([D.int (0 + (k : Int))] ++ p.map fun (k : Nat) => D.int (k : Int))) else none) = _
          rw [if_pos (by rw [List.length_map]; have := f3 p hp; unfold sizeD; simp; omega), Int.zero_add]
          rfl
        · rw [List.map_map]; rfl
      · rw [List.length_map, List.length_map]; unfold sizeD; omega
    obtain ⟨K', ih⟩ := pl_loop hF ks (acc ++ ((g k).map (k :: ·)).map tupN) (.ro (.int (0 + (k : Int)))) (fun j hj => h j (List.mem_cons_of_mem _ hj)) (by rw [List.length_append, List.length_map, List.length_map]; omega)
    refine ⟨K', ?_⟩
    show seqO (run (plBody F) [.ro (.tup l), .own acc, .ro (.int (0 + (k : Int))), .no]) _ = _
    rw [step]
    refine ih.trans ?_
    rw [List.flatMap_cons, List.map_append, List.append_assoc]
theorem rng_0n {n : Nat} (h : n ≤ 1000) : rngD [.int ((n : Nat) : Int)] = .ok ((List.range n).map fun (k : Nat) => D.int (0 + (k : Int))) := by
  have o2 : okZ ((n : Nat) : Int) = true := by
    unfold okZ
    rw [decide_eq_true (by omega), decide_eq_true (by omega)]; rfl
  show (if okZ ((n : Nat) : Int) = true then Res.ok (rangeD 0 ((n : Nat) : Int)) else Res.stuck) = _
  rw [o2]
  show Res.ok (rangeD 0 ((n : Nat) : Int)) = _
  unfold rangeD
  have e : (((n : Nat) : Int) - 0).toNat = n := by omega
  rw [e]
theorem len_flat {g : Nat → List (List Nat)} : ∀ {ks : List Nat} {k : Nat}, k ∈ ks → (g k).length ≤ (ks.flatMap g).length
  | j :: ks, k, h => by
    rw [List.flatMap_cons, List.length_append]
    rcases List.mem_cons.mp h with rfl | h
    · omega
    · have := len_flat (g := g) h
      omega
theorem len_flat1 {g : Nat → List (List Nat)} : ∀ {ks : List Nat}, (∀ k ∈ ks, 1 ≤ (g k).length) → ks.length ≤ (ks.flatMap g).length
  | [], _ => by simp
  | j :: ks, h => by
    rw [List.flatMap_cons, List.length_append, List.length_cons]
    have a := h j List.mem_cons_self
    have b := len_flat1 (g := g) (ks := ks) fun k hk => h k (List.mem_cons_of_mem _ hk)
    omega
theorem places_pos {n : Nat} {d : D} (h : Deep n d) : 1 ≤ (placesOf n d).length := by
  cases n with
  | zero => exact h.elim
  | succ n => cases d <;> first | exact Nat.le_refl 1 | exact Nat.le_add_left 1 _
theorem places_succ (n : Nat) (l : List D) : (placesOf (n + 1) (.tup l)).length = ((List.range l.length).flatMap fun k => placesOf n (l.getD k .non)).length + 1 := by
  show ([] :: (List.range l.length).flatMap fun k => (placesOf n (l.getD k .non)).map (k :: ·)).length = _
  rw [List.length_cons, List.length_flatMap, List.length_flatMap]
  simp
theorem law_places_ok : ∀ (n : Nat) (d : D), n ≤ 1000 → Deep n d → (placesOf n d).length ≤ 1000 → d.pl = true → f__law_places n [d] = .ok (.lst ((placesOf n d).map tupN))
  | 0, d, _, h, _, _ => h.elim
  | n + 1, d, hn, hd, hw, hp => by
    cases d with
    | tup l =>
      have hd' : ∀ e ∈ l, Deep n e := hd
      have pa := plAll_mem (show plAll l = true from hp)
      rw [places_succ] at hw
      have sub : ∀ k, k < l.length → (placesOf n (l.getD k .non)).length ≤ 1000 := fun k hk => by
        have := len_flat (g := fun k => placesOf n (l.getD k .non)) (List.mem_range.mpr hk)
        omega
      have hl : l.length ≤ 1000 := by
        have := len_flat1 (g := fun k => placesOf n (l.getD k .non)) (ks := List.range l.length) fun k hk => by
          have hk' := List.mem_range.mp hk
          rw [getD_get hk']
          exact places_pos (hd' _ (List.getElem_mem hk'))
        rw [List.length_range] at this
        omega
      have hF : ∀ k, (h : k < l.length) → f__law_places n [l[k]] = .ok (.lst ((placesOf n (l.getD k .non)).map tupN)) ∧ (placesOf n (l.getD k .non)).length ≤ 1000 ∧ ∀ p ∈ placesOf n (l.getD k .non), p.length ≤ 1000 := fun k hk => by
        have s := sub k hk
        rw [getD_get hk] at s ⊢
        have m := List.getElem_mem hk
        refine ⟨law_places_ok n _ (by omega) (hd' _ m) s (pa _ m), s, fun p hpp => ?_⟩
        have := (places_path n _ p hpp).1
        omega
      obtain ⟨K', lp⟩ := pl_loop hF (List.range l.length) [.tup []] .no (fun k hk => List.mem_range.mp hk) (by simp only [List.length_cons, List.length_nil]; omega)
      refine rcall rfl (rown (l := [.tup []]) rfl rfl ?_)
      refine rite2 (s' := [.ro (.tup l), .own ([.tup []] ++ ((List.range l.length).flatMap fun k => (placesOf n (l.getD k .non)).map (k :: ·)).map tupN), K', .no]) (k := true) (e1 rfl rfl) (fun _ => ?_) (fun z => nomatch z) (rret rfl)
      exact rfor (irng (lc (e1 rfl rfl) l0) (rng_0n hl)) lp rfl
    | exc c => cases hp
    | ob c ks vs => cases hp
    | dct ks vs => cases hp
    | dcT ks vs => cases hp
    | _ => exact rcall rfl (rown (l := [.tup []]) rfl rfl (riteF (e1 rfl rfl) (rret rfl)))
/-! ## something else at a place -/
theorem sh_tupN (p : List Nat) : Sh 1 (tupN p) := Sh.tup (n := 0) fun d hd => by
  obtain ⟨k, _, rfl⟩ := List.mem_map.mp hd
  exact Sh.int 0 _
theorem eq_nilT {n : Nat} {l : List D} (h : Sh n (.tup l)) (hn : n ≤ 64) : opEq (.tup l) (.tup []) = some (.bl l.isEmpty) := by
  unfold opEq
  rw [h.shp hn]
  cases l <;> rfl
theorem ne_nilT {n : Nat} {l : List D} (h : Sh n (.tup l)) (hn : n ≤ 64) : opNe (.tup l) (.tup []) = some (.bl (!l.isEmpty)) := by
  unfold opNe
  rw [h.shp hn]
  cases l <;> rfl
/-- narrow: no tuple longer than that -/
def Nar : Nat → D → Prop
  | 0, _ => True
  | n + 1, .tup l => l.length ≤ 1000 ∧ ∀ e ∈ l, Nar n e
  | _ + 1, _ => True
theorem sl_lo {l : List D} (k : Nat) : opSlL (.tup l) (.int (k : Int)) = some (.tup (l.drop k)) := by
  show some (D.tup (cutG l (some (k : Int)) none)) = _
  rw [cut_lo]
theorem sl_hi {l : List D} (k : Nat) : opSlU (.tup l) (.int (k : Int)) = some (.tup (l.take k)) := by
  show some (D.tup (cutG l none (some (k : Int)))) = _
  rw [cut_hi]
theorem add_tup {a b : List D} (h : a.length + b.length ≤ 90000) : opAdd (.tup a) (.tup b) = some (.tup (a ++ b)) := by
  show (if a.length + b.length ≤ sizeD then some (D.tup (a ++ b)) else none) = _
  rw [if_pos (by unfold sizeD; omega)]
theorem set_cut {l : List D} {k : Nat} {x : D} (h : k < l.length) : l.take k ++ [x] ++ l.drop (k + 1) = l.set k x := by
  rw [List.set_eq_take_append_cons_drop, if_pos h]; simp
theorem law_put_ok : ∀ (p : List Nat) (n : Nat) (d e new : D), p.length < n → pathD d p = some e → Nar n d → f__law_put n [d, tupN p, new] = .ok (putD d p new)
  | [], 0, _, _, _, h, _, _ => by cases h
  | [], n + 1, d, e, new, h, hp, hw => by
    have : putD d [] new = new := by cases d <;> rfl
    rw [this]
    exact rcall rfl (riteT (e2 rfl rfl ((eq_nilT (sh_tupN []) (by decide)).trans rfl)) (rret rfl))
  | k :: r, 0, _, _, _, h, _, _ => by cases h
  | k :: r, n + 1, d, e, new, h, hp, hw => by
    cases d with
    | tup l =>
      have hp' : (match l[k]? with | some e => pathD e r | none => none) = some e := hp
      obtain ⟨w1, w2⟩ := (show l.length ≤ 1000 ∧ ∀ e ∈ l, Nar n e from hw)
      by_cases hk : k < l.length
      · rw [List.getElem?_eq_getElem hk] at hp'
        have ih := law_put_ok r n l[k] e new (by rw [List.length_cons] at h; omega) hp' (w2 _ (List.getElem_mem hk))
        have gp : putD (.tup l) (k :: r) new = .tup (l.take k ++ [putD l[k] r new] ++ l.drop (k + 1)) := by
          rw [set_cut hk]
          show D.tup (l.set k (putD (l.getD k .non) r new)) = _
          rw [getD_get hk]
        rw [gp]
        refine rcall rfl (riteF (e2 rfl rfl ((eq_nilT (sh_tupN (k :: r)) (by decide)).trans rfl)) ?_)
        refine rset (s := [.ro (.tup l), .ro (tupN (k :: r)), .ro new, .no]) (d := .int (k : Int)) (e2 rfl ki (at0 _ _)) rfl ?_
        refine rret (e2 (x := .tup (l.take k ++ [putD l[k] r new])) (y := .tup (l.drop (k + 1))) (e2 (e2 rfl rfl (sl_hi k)) (e1 (ec (lc (e2 rfl rfl ?_) (lc (e2 rfl ki (sl_lo (l := (k :: r).map fun (k : Nat) => D.int (k : Int)) 1)) (lc rfl l0))) ih) rfl) (add_tup ?_)) (e2 rfl (eadd rfl ki) ?_) (add_tup ?_))
        · show atI l (k : Int) = _
          rw [atN, List.getElem?_eq_getElem hk]
        · rw [List.length_take]; simp; omega
        · rw [show ((k : Int) + 1) = ((k + 1 : Nat) : Int) by omega]
          exact sl_lo (k + 1)
        · rw [List.length_append, List.length_take, List.length_drop]; simp; omega
      · rw [List.getElem?_eq_none (by omega)] at hp'; cases hp'
    | _ => cases hp
end PL

namespace PL
open PySem PySem.Spec PyProof.Rows L2
/-! ## a thing with something else at a drawn place -/
/-- tuples of tuples of whole numbers -/
def IntT : Nat → D → Prop
  | n + 1, .tup l => l.length ≤ 900 ∧ ∀ e ∈ l, IntT n e
  | _ + 1, .int _ => True
  | _, _ => False
theorem IntT.deep : ∀ {n : Nat} {d : D}, IntT n d → Deep n d
  | 0, d, h => by cases d <;> exact h.elim
  | n + 1, d, h => by
    cases d with
    | tup l => exact fun e he => (h.2 e he).deep
    | int i => exact trivial
    | _ => exact h.elim
theorem IntT.nar : ∀ {n : Nat} {d : D}, IntT n d → Nar n d
  | 0, d, h => by cases d <;> exact h.elim
  | n + 1, d, h => by
    cases d with
    | tup l =>
      obtain ⟨h1, h2⟩ := (show l.length ≤ 900 ∧ ∀ e ∈ l, IntT n e from h)
      exact ⟨by omega, fun e he => (h2 e he).nar⟩
    | int i => exact trivial
    | _ => exact h.elim
theorem IntT.sh : ∀ {n : Nat} {d : D}, IntT n d → Sh n d
  | 0, d, h => by cases d <;> exact h.elim
  | n + 1, d, h => by
    cases d with
    | tup l => exact Sh.tup fun e he => (h.2 e he).sh
    | int i => exact Sh.int _ _
    | _ => exact h.elim
theorem IntT.up : ∀ {n : Nat} {d : D}, IntT n d → IntT (n + 1) d
  | 0, d, h => by cases d <;> exact h.elim
  | n + 1, d, h => by
    cases d with
    | tup l => exact ⟨h.1, fun e he => (h.2 e he).up⟩
    | int i => exact trivial
    | _ => exact h.elim
theorem IntT.path : ∀ {p : List Nat} {n : Nat} {d e : D}, IntT n d → pathD d p = some e → IntT n e
  | [], n, d, e, h, hp => by
    have : d = e := by cases d <;> exact Option.some.inj hp
    rw [← this]; exact h
  | k :: r, n, d, e, h, hp => by
    cases d with
    | tup l =>
      cases n with
      | zero => exact h.elim
      | succ n =>
        have hp' : (match l[k]? with | some e => pathD e r | none => none) = some e := hp
        cases ek : l[k]? with
        | none => rw [ek] at hp'; cases hp'
        | some x =>
          rw [ek] at hp'
          exact (IntT.path (h.2 x (List.mem_of_getElem? ek)) hp').up
    | _ => cases hp
theorem sh_put : ∀ {p : List Nat} {a b : Nat} {d e new : D}, Sh a d → Sh b new → pathD d p = some e → Sh (a + b) (putD d p new)
  | [], a, b, d, e, new, h1, h2, _ => by
    have : putD d [] new = new := by cases d <;> rfl
    rw [this]; exact h2.mono (by omega)
  | k :: r, a, b, d, e, new, h1, h2, hp => by
    cases d with
    | tup l =>
      obtain ⟨m, rfl, hl⟩ := h1.tupI
      have hp' : (match l[k]? with | some e => pathD e r | none => none) = some e := hp
      cases ek : l[k]? with
      | none => rw [ek] at hp'; cases hp'
      | some x =>
        rw [ek] at hp'
        have gx : l.getD k .non = x := by rw [List.getD_eq_getElem?_getD, ek]; rfl
        show Sh (m + 1 + b) (.tup (l.set k (putD (l.getD k .non) r new)))
        rw [gx, show m + 1 + b = (m + b) + 1 by omega]
        refine Sh.tup fun y hy => ?_
        rcases List.mem_or_eq_of_mem_set hy with hy | rfl
        · exact (hl y hy).mono (by omega)
        · exact sh_put (hl x (List.mem_of_getElem? ek)) h2 hp'
    | _ => cases hp
def hereBody : S := .cons (.set true 5 (.prim pIx (.cons (.v 5) (.cons (.v 6) .nil)))) .nil
theorem here_loop {a b c f g : Sl} : ∀ (p : List Nat) (d e : D) (K : Sl), pathD d p = some e → ∃ K', forM (fun s => run hereBody s) (.name 6) (p.map fun (k : Nat) => D.int (k : Int)) [a, b, c, f, g, .ro d, K, .no, .no] = .nx [a, b, c, f, g, .ro e, K', .no, .no]
  | [], d, e, K, h => ⟨K, by
    have : d = e := by cases d <;> exact Option.some.inj h
    rw [this]; rfl⟩
  | k :: r, d, e, K, h => by
    cases d with
    | tup l =>
      have hp' : (match l[k]? with | some e => pathD e r | none => none) = some e := h
      cases ek : l[k]? with
      | none => rw [ek] at hp'; cases hp'
      | some x =>
        rw [ek] at hp'
        obtain ⟨K', ih⟩ := here_loop (a := a) (b := b) (c := c) (f := f) (g := g) r x e (.ro (.int (k : Int))) hp'
        refine ⟨K', ?_⟩
        show seqO (run hereBody [a, b, c, f, g, .ro (.tup l), .ro (.int (k : Int)), .no, .no]) _ = _
        have st : run hereBody [a, b, c, f, g, .ro (.tup l), .ro (.int (k : Int)), .no, .no] = .nx [a, b, c, f, g, .ro x, .ro (.int (k : Int)), .no, .no] := by
          refine rset (e2 rfl rfl ?_) rfl rfl
          show atI l (k : Int) = _
          rw [atN]; exact ek
        rw [st]; exact ih
    | _ => cases h
def someD (e : D) : List D := [.int 0, .int 1, .int 2, .int 99, .int 100, .int (-99), .int (-100), .int 999, .int 1000, .bl true, .non, .str "1", .tup [], .tup [.int 0, .int 0, .int 0], .lst [.int 0], .tup [e], .tup [e, e]]
theorem sh_some {e x : D} {n : Nat} (h : Sh (n + 1) e) (hx : x ∈ someD e) : Sh (n + 2) x := by
  unfold someD at hx
  simp only [List.mem_cons, List.not_mem_nil, or_false] at hx
  rcases hx with rfl | rfl | rfl | rfl | rfl | rfl | rfl | rfl | rfl | rfl | rfl | rfl | rfl | rfl | rfl | rfl | rfl
  · exact Sh.int _ _
  · exact Sh.int _ _
  · exact Sh.int _ _
  · exact Sh.int _ _
  · exact Sh.int _ _
  · exact Sh.int _ _
  · exact Sh.int _ _
  · exact Sh.int _ _
  · exact Sh.int _ _
  · exact ⟨rfl, rfl, Nat.zero_le _⟩
  · exact ⟨rfl, rfl, Nat.zero_le _⟩
  · exact ⟨rfl, by decide +kernel, Nat.zero_le _⟩
  · exact Sh.tup fun d hd => by cases hd
  · exact Sh.tup fun d hd => by
      simp only [List.mem_cons, List.not_mem_nil, or_false] at hd
      rcases hd with rfl | rfl | rfl <;> exact Sh.int _ _
  · exact Sh.lst fun d hd => by
      simp only [List.mem_cons, List.not_mem_nil, or_false] at hd
      rcases hd with rfl <;> exact Sh.int _ _
  · exact Sh.tup fun d hd => by
      simp only [List.mem_cons, List.not_mem_nil, or_false] at hd
      rcases hd with rfl <;> exact h
  · exact Sh.tup fun d hd => by
      simp only [List.mem_cons, List.not_mem_nil, or_false] at hd
      rcases hd with rfl | rfl <;> exact h
/-- of no great width -/
def Wd (w : Nat) (d : D) : Prop := ∀ l, d = .tup l → l.length ≤ w
theorem wd_put {w : Nat} {d new : D} {p : List Nat} (hd : IntT 4 d) (hw : ∀ l, d = .tup l → l.length + 1 ≤ w) (h : p = [] → Wd w new) : Wd w (putD d p new) := by
  cases p with
  | nil => cases d <;> exact h rfl
  | cons k r =>
    cases d with
    | tup l =>
      intro m hm
      have e : D.tup (l.set k (putD (l.getD k .non) r new)) = .tup m := hm
      cases e
      rw [List.length_set]
      have := hw l rfl
      omega
    | int i => exact fun l hl => nomatch hl
    | _ => exact hd.elim
theorem wd_some {w : Nat} {e x : D} (h3 : 3 ≤ w) (hx : x ∈ someD e) : Wd w x := by
  unfold someD at hx
  simp only [List.mem_cons, List.not_mem_nil, or_false] at hx
  rcases hx with rfl | rfl | rfl | rfl | rfl | rfl | rfl | rfl | rfl | rfl | rfl | rfl | rfl | rfl | rfl | rfl | rfl <;> (intro l hl; first | (cases hl; done) | (cases hl; simp; done) | (cases hl; simp; omega))
theorem spoilt_okW {ns : List Int} {k : Int} {d : D} {w : Nat} (h3 : 3 ≤ w) (hdw : ∀ l, d = .tup l → l.length + 1 ≤ w) (h0 : 0 ≤ k) (h1 : k < 900000) (hd : IntT 4 d) (hc : (placesOf 4 d).length ≤ 1000) : ∃ bad, f__law_spoilt_thing [.scr ns, .int k, d] = .ok bad ∧ Sh 9 bad ∧ Wd w bad := by
  have pl := hd.sh.pl
  have pp := places_pos hd.deep
  have ln : opLen (.lst ((placesOf 4 d).map tupN)) = some (.int ((placesOf 4 d).length : Nat)) := by
    rw [o_lenL, List.length_map]
  have q0 := pickI_nn ns k (m := ((placesOf 4 d).length : Nat)) (by omega)
  have q1 := pickI_lt ns k (m := ((placesOf 4 d).length : Nat)) (by omega)
  obtain ⟨j, hj⟩ := Int.eq_ofNat_of_zero_le q0
  have hjl : j < (placesOf 4 d).length := by omega
  obtain ⟨pl4, e, hpath⟩ := places_path 4 d _ (List.getElem_mem hjl)
  generalize hp : (placesOf 4 d)[j] = p at pl4 hpath
  have he := hd.path hpath
  obtain ⟨K', lp⟩ := here_loop (a := .ro (.scr ns)) (b := .ro (.int k)) (c := .ro d) (f := .ro (.lst ((placesOf 4 d).map tupN))) (g := .ro (tupN p)) p d e .no hpath
  have put : ∀ {new : D}, Sh 5 new → (p = [] → Wd w new) → f__law_put 4 [d, tupN p, new] = .ok (putD d p new) ∧ Sh 9 (putD d p new) ∧ Wd w (putD d p new) := fun {new} hn hw => ⟨law_put_ok p 4 d e new pl4 hpath hd.nar, sh_put hd.sh hn hpath, wd_put hd hdw hw⟩
  have w0 := pickI_nn ns (k + 1) (m := 23) (by omega)
  have w1 := pickI_lt ns (k + 1) (m := 23) (by omega)
  have main : ∃ bad, run b__law_spoilt_thing (startS 9 [.scr ns, .int k, d]) = .rt bad ∧ Sh 9 bad ∧ Wd w bad := by
    have pre : ∀ {o : Out}, run (.cons (.ite (.prim pLt (.cons (.v 8) (.cons (.c (.int 17)) .nil)))
          (.cons (.ret (.call "_law_put" (f__law_put 4) (.cons (.v 2) (.cons (.v 4) (.cons (.prim pIx (.cons (.v 7) (.cons (.v 8) .nil))) .nil))))) .nil) .nil)
          (.cons (.ite (.and (.prim pIsTuple (.cons (.v 5) .nil)) (.prim pNe (.cons (.v 5) (.cons (.prim pTup .nil) .nil))))
          (.cons (.set true 6 (.call "_law_pick" fPick (.cons (.v 0) (.cons (.prim pAdd (.cons (.v 1) (.cons (.c (.int 2)) .nil))) (.cons (.prim pLen (.cons (.v 5) .nil)) .nil)))))
          (.cons (.ret (.call "_law_put" (f__law_put 4) (.cons (.v 2) (.cons (.v 4) (.cons (.ite (.prim pLt (.cons (.v 8) (.cons (.c (.int 20)) .nil))) (.prim pAdd (.cons (.prim pSlU (.cons (.v 5) (.cons (.v 6) .nil))) (.cons (.prim pSlL (.cons (.v 5) (.cons (.prim pAdd (.cons (.v 6) (.cons (.c (.int 1)) .nil))) .nil))) .nil))) (.prim pAdd (.cons (.prim pSlU (.cons (.v 5) (.cons (.prim pAdd (.cons (.v 6) (.cons (.c (.int 1)) .nil))) .nil))) (.cons (.prim pSlL (.cons (.v 5) (.cons (.v 6) .nil))) .nil)))) .nil))))) .nil)) .nil)
          (.cons (.ret (.call "_law_put" (f__law_put 4) (.cons (.v 2) (.cons (.v 4) (.cons (.ite (.prim pIsInt (.cons (.v 5) .nil)) (.prim pSub (.cons (.prim pAdd (.cons (.v 5) (.cons (.v 8) .nil))) (.cons (.c (.int 21)) .nil))) (.c (.int 7))) .nil))))) .nil)))
          [.ro (.scr ns), .ro (.int k), .ro d, .ro (.lst ((placesOf 4 d).map tupN)), .ro (tupN p), .ro e, K', .ro (.lst (someD e)), .ro (.int (pickI ns (k + 1) 23))] = o → run b__law_spoilt_thing (startS 9 [.scr ns, .int k, d]) = o := by
      intro o ho
      refine rset (s := [.ro (.scr ns), .ro (.int k), .ro d, .no, .no, .no, .no, .no, .no]) (ec (lc rfl l0) (law_places_ok 4 d (by decide) hd.deep hc pl)) rfl ?_
      refine rset (s := [.ro (.scr ns), .ro (.int k), .ro d, .ro (.lst ((placesOf 4 d).map tupN)), .no, .no, .no, .no, .no]) (d := tupN p) (e2 rfl (ec (lc rfl (lc rfl (lc (e1 rfl ln) l0))) (pick_ok h0 (by omega) (by omega))) ?_) rfl ?_
      · show atI ((placesOf 4 d).map tupN) _ = _
        rw [hj, atN, List.getElem?_map, List.getElem?_eq_getElem hjl, hp]; rfl
      refine rset (s := [.ro (.scr ns), .ro (.int k), .ro d, .ro (.lst ((placesOf 4 d).map tupN)), .ro (tupN p), .no, .no, .no, .no]) (d := d) rfl rfl ?_
      refine rfor (s := [.ro (.scr ns), .ro (.int k), .ro d, .ro (.lst ((placesOf 4 d).map tupN)), .ro (tupN p), .ro d, .no, .no, .no]) (s' := [.ro (.scr ns), .ro (.int k), .ro d, .ro (.lst ((placesOf 4 d).map tupN)), .ro (tupN p), .ro e, K', .no, .no]) (iseq rfl rfl) lp ?_
      refine rset (s := [.ro (.scr ns), .ro (.int k), .ro d, .ro (.lst ((placesOf 4 d).map tupN)), .ro (tupN p), .ro e, K', .no, .no]) (d := .lst (someD e)) rfl rfl ?_
      exact rset (s := [.ro (.scr ns), .ro (.int k), .ro d, .ro (.lst ((placesOf 4 d).map tupN)), .ro (tupN p), .ro e, K', .ro (.lst (someD e)), .no]) (d := .int (pickI ns (k + 1) 23)) (ec (lc rfl (lc (eadd rfl ki) (lc ki l0))) (pick_ok (by omega) (by omega) (by omega))) rfl ho
    by_cases hw : pickI ns (k + 1) 23 < 17
    · obtain ⟨i, hi⟩ := Int.eq_ofNat_of_zero_le w0
      have hil : i < (someD e).length := by
        have : (someD e).length = 17 := rfl
        omega
      obtain ⟨p1, p2⟩ := put (sh_some (n := 3) he.sh (List.getElem_mem hil)) (fun _ => wd_some h3 (List.getElem_mem hil))
      refine ⟨_, pre (riteT ((elt rfl ki).trans (by rw [decide_eq_true hw])) (rret (ec (lc rfl (lc rfl (lc (e2 rfl rfl ?_) l0))) p1))), p2⟩
      show atI (someD e) _ = _
      rw [hi, atN, List.getElem?_eq_getElem hil]
    · have hF : ∀ {o : Out}, run (.cons (.ite (.and (.prim pIsTuple (.cons (.v 5) .nil)) (.prim pNe (.cons (.v 5) (.cons (.prim pTup .nil) .nil))))
          (.cons (.set true 6 (.call "_law_pick" fPick (.cons (.v 0) (.cons (.prim pAdd (.cons (.v 1) (.cons (.c (.int 2)) .nil))) (.cons (.prim pLen (.cons (.v 5) .nil)) .nil)))))
          (.cons (.ret (.call "_law_put" (f__law_put 4) (.cons (.v 2) (.cons (.v 4) (.cons (.ite (.prim pLt (.cons (.v 8) (.cons (.c (.int 20)) .nil))) (.prim pAdd (.cons (.prim pSlU (.cons (.v 5) (.cons (.v 6) .nil))) (.cons (.prim pSlL (.cons (.v 5) (.cons (.prim pAdd (.cons (.v 6) (.cons (.c (.int 1)) .nil))) .nil))) .nil))) (.prim pAdd (.cons (.prim pSlU (.cons (.v 5) (.cons (.prim pAdd (.cons (.v 6) (.cons (.c (.int 1)) .nil))) .nil))) (.cons (.prim pSlL (.cons (.v 5) (.cons (.v 6) .nil))) .nil)))) .nil))))) .nil)) .nil)
          (.cons (.ret (.call "_law_put" (f__law_put 4) (.cons (.v 2) (.cons (.v 4) (.cons (.ite (.prim pIsInt (.cons (.v 5) .nil)) (.prim pSub (.cons (.prim pAdd (.cons (.v 5) (.cons (.v 8) .nil))) (.cons (.c (.int 21)) .nil))) (.c (.int 7))) .nil))))) .nil))
          [.ro (.scr ns), .ro (.int k), .ro d, .ro (.lst ((placesOf 4 d).map tupN)), .ro (tupN p), .ro e, K', .ro (.lst (someD e)), .ro (.int (pickI ns (k + 1) 23))] = o → run b__law_spoilt_thing (startS 9 [.scr ns, .int k, d]) = o := by
        intro o ho
        exact pre (riteF ((elt rfl ki).trans (by rw [decide_eq_false hw])) ho)
      cases e with
      | int i =>
        obtain ⟨p1, p2⟩ := put (new := .int (i + pickI ns (k + 1) 23 - 21)) (Sh.int _ _) (fun _ l h => nomatch h)
        exact ⟨_, hF (riteF (eandF (e1 rfl rfl)) (rret (ec (lc rfl (lc rfl (lc (eite (k := true) (e1 rfl rfl) (esub (eadd rfl rfl) ki)) l0))) p1))), p2⟩
      | tup l =>
        have hl := he.1
        cases l with
        | nil =>
          obtain ⟨p1, p2⟩ := put (new := .int 7) (Sh.int _ _) (fun _ l h => nomatch h)
          exact ⟨_, hF (riteF (eandT (e1 rfl rfl) (e2 rfl rfl ((ne_nilT he.sh (by decide)).trans rfl))) (rret (ec (lc rfl (lc rfl (lc (eite (k := false) (e1 rfl rfl) rfl) l0))) p1))), p2⟩
        | cons x l =>
          have lx : opLen (.tup (x :: l)) = some (.int ((x :: l).length : Nat)) := rfl
          have hpos : 0 < (((x :: l).length : Nat) : Int) := by rw [List.length_cons]; omega
          have r0 := pickI_nn ns (k + 2) hpos
          have r1 := pickI_lt ns (k + 2) hpos
          obtain ⟨m, hm⟩ := Int.eq_ofNat_of_zero_le r0
          obtain ⟨c, ecc, hsh⟩ := he.sh.tupI
          have cutT : ∀ a b : Nat, Sh 5 (.tup ((x :: l).take a ++ (x :: l).drop b)) := fun a b => by
            refine (Sh.tup (n := c) fun y hy => ?_).mono (by omega)
            rcases List.mem_append.mp hy with hy | hy
            · exact hsh y (List.mem_of_mem_take hy)
            · exact hsh y (List.mem_of_mem_drop hy)
          have go : ∀ {new : D}, ev (.ite (.prim pLt (.cons (.v 8) (.cons (.c (.int 20)) .nil))) (.prim pAdd (.cons (.prim pSlU (.cons (.v 5) (.cons (.v 6) .nil))) (.cons (.prim pSlL (.cons (.v 5) (.cons (.prim pAdd (.cons (.v 6) (.cons (.c (.int 1)) .nil))) .nil))) .nil))) (.prim pAdd (.cons (.prim pSlU (.cons (.v 5) (.cons (.prim pAdd (.cons (.v 6) (.cons (.c (.int 1)) .nil))) .nil))) (.cons (.prim pSlL (.cons (.v 5) (.cons (.v 6) .nil))) .nil))))
              [some (.scr ns), some (.int k), some d, some (.lst ((placesOf 4 d).map tupN)), some (tupN p), some (.tup (x :: l)), some (.int (m : Int)), some (.lst (someD (.tup (x :: l)))), some (.int (pickI ns (k + 1) 23))] = .ok new → Sh 5 new → (p = [] → Wd w new) → ∃ bad, run b__law_spoilt_thing (startS 9 [.scr ns, .int k, d]) = .rt bad ∧ Sh 9 bad ∧ Wd w bad := by
            intro new hnew hs5 hw5
            obtain ⟨p1, p2⟩ := put hs5 hw5
            refine ⟨_, hF (riteT (eandT (e1 rfl rfl) (e2 rfl rfl ((ne_nilT he.sh (by decide)).trans rfl))) ?_), p2⟩
            refine rset (s := [.ro (.scr ns), .ro (.int k), .ro d, .ro (.lst ((placesOf 4 d).map tupN)), .ro (tupN p), .ro (.tup (x :: l)), K', .ro (.lst (someD (.tup (x :: l)))), .ro (.int (pickI ns (k + 1) 23))]) (d := .int (m : Int)) (ec (lc rfl (lc (eadd rfl ki) (lc (e1 rfl lx) l0))) ((pick_ok (by omega) (by omega) hpos).trans (by rw [hm]))) rfl ?_
            exact rret (ec (lc rfl (lc rfl (lc hnew l0))) p1)
          by_cases h20 : pickI ns (k + 1) 23 < 20
          · refine go (eite (k := true) ((elt rfl ki).trans (by rw [decide_eq_true h20])) (e2 (x := .tup ((x :: l).take m)) (y := .tup ((x :: l).drop (m + 1))) (e2 rfl rfl (sl_hi m)) (e2 rfl (eadd rfl ki) ?_) (add_tup ?_))) (cutT m (m + 1)) (fun pe z hz => by cases hz; rw [pe] at hpath; cases hpath; have := hdw _ rfl; rw [List.length_append, List.length_take, List.length_drop]; omega)
            · rw [show ((m : Int) + 1) = ((m + 1 : Nat) : Int) by omega]
              exact sl_lo (m + 1)
            · rw [List.length_take, List.length_drop]; omega
          · refine go (eite (k := false) ((elt rfl ki).trans (by rw [decide_eq_false h20])) (e2 (x := .tup ((x :: l).take (m + 1))) (y := .tup ((x :: l).drop m)) (e2 rfl (eadd rfl ki) ?_) (e2 rfl rfl (sl_lo m)) (add_tup ?_))) (cutT (m + 1) m) (fun pe z hz => by cases hz; rw [pe] at hpath; cases hpath; have := hdw _ rfl; rw [List.length_append, List.length_take, List.length_drop]; omega)
            · rw [show ((m : Int) + 1) = ((m + 1 : Nat) : Int) by omega]
              exact sl_hi (m + 1)
            · rw [List.length_take, List.length_drop]; omega
      | _ => exact he.elim
  obtain ⟨bad, hr, hs⟩ := main
  exact ⟨bad, rcall rfl hr, hs⟩
theorem spoilt_ok {ns : List Int} {k : Int} {d : D} (h0 : 0 ≤ k) (h1 : k < 900000) (hd : IntT 4 d) (hc : (placesOf 4 d).length ≤ 1000) : ∃ bad, f__law_spoilt_thing [.scr ns, .int k, d] = .ok bad ∧ Sh 9 bad := by
  obtain ⟨bad, h1, h2, _⟩ := spoilt_okW (ns := ns) (w := 1000) (by decide) (fun l e => by subst e; have := hd.1; omega) h0 h1 hd hc
  exact ⟨bad, h1, h2⟩
theorem intT_trk {T : List P3} (h : T.length ≤ 12) : IntT 4 (trk T) := by
  refine ⟨by rw [List.length_map]; omega, fun e he => ?_⟩
  obtain ⟨p, _, rfl⟩ := List.mem_map.mp he
  refine ⟨by simp, fun x hx => ?_⟩
  simp only [List.mem_cons, List.not_mem_nil, or_false] at hx
  rcases hx with rfl | rfl | rfl <;> exact trivial
theorem len_flatC {g : Nat → List (List Nat)} {c : Nat} : ∀ {ks : List Nat}, (∀ k ∈ ks, (g k).length = c) → (ks.flatMap g).length = c * ks.length
  | [], _ => by simp
  | j :: ks, h => by
    rw [List.flatMap_cons, List.length_append, List.length_cons, h j List.mem_cons_self, len_flatC (g := g) (ks := ks) fun k hk => h k (List.mem_cons_of_mem _ hk), Nat.mul_succ]
    omega
theorem places_trk {T : List P3} (h : T.length ≤ 12) : (placesOf 4 (trk T)).length ≤ 1000 := by
  rw [show trk T = .tup (T.map ptD) from rfl, places_succ, len_flatC (c := 4), List.length_range, List.length_map]
  · omega
  · intro k hk
    have hk' : k < (T.map ptD).length := List.mem_range.mp hk
    rw [getD_get hk', List.getElem_map]
    rfl
/-- a track with something else at a drawn place -/
theorem spoilt_trk {ns : List Int} {k : Int} {T : List P3} (h0 : 0 ≤ k) (h1 : k < 900000) (h : T.length ≤ 12) : ∃ bad, f__law_spoilt_thing [.scr ns, .int k, trk T] = .ok bad ∧ Sh 9 bad :=
  spoilt_ok h0 h1 (intT_trk h) (places_trk h)
end PL

namespace PL
open PySem PySem.Spec PyProof.Rows L2
/-! ## steps of the laws with a try -/
theorem rfrz {i : Nat} {r : S} {s : SE} {l : List D} {o : Out} (hs : s[i]? = some (.own l)) (h : run r (s.set i (.ro (.lst l))) = o) : run (.frz i r) s = o := by
  show (match s[i]? with | some (.own l) => run r (s.set i (.ro (.lst l))) | some (.odt d) => run r (s.set i (.ro d)) | some (.tre _ o) => run r (s.set i (.ro o.d)) | _ => run r s) = _
  rw [hs]; exact h
theorem rtry_nx {body r : S} {i j : Nat} {h : Str} {tab : List (Str × Bool)} {s s' : SE} {o : Out} (h1 : PL.run body s = .nx s') (h2 : PL.run r s' = o) : PL.run (.cons (.atom (aTry body i j h tab)) r) s = o := by
  show seqO (triRun body i j tab s) _ = _
  unfold triRun
  rw [h1]; exact h2
theorem rtry_exc {body r : S} {i j : Nat} {h c : Str} {tab : List (Str × Bool)} {s : SE} {o : Out} (h1 : PL.run body s = .exc c) (ht : tab.lookup c = some true) (h2 : PL.run r ((noneS s.length).set j (.ro (.exc c))) = o) : PL.run (.cons (.atom (aTry body i j h tab)) r) s = o := by
  show seqO (triRun body i j tab s) _ = _
  unfold triRun
  rw [h1]
  dsimp only
  rw [ht]; exact h2
theorem etab {fs : List (Str × (List D → Res D))} {w : Nat} {as : EL} {ρ : En} {k : Int} {f : Str × (List D → Res D)} {ds : List D} {o : Res D} (h1 : ρ[w]? = some (some (.int k))) (h2 : atI fs k = some f) (h3 : evL as ρ = .ok ds) (h4 : f.2 ds = o) : ev (.atom (aTab fs w as)) ρ = o := by
  show (match ρ[w]? with | some (some (.int k)) => (match atI fs k with | some f => (evL as ρ).bind f.2 | none => .stuck) | _ => .stuck) = _
  rw [h1]
  dsimp only
  rw [h2]
  dsimp only
  rw [h3]; exact h4
theorem fm_empty {α β : Type} (c : α → Bool) (f : α → β) : ∀ l : List α, (l.filterMap fun a => if c a then some (f a) else none).isEmpty = l.all fun a => !c a
  | [] => rfl
  | a :: l => by
    rw [List.filterMap_cons, List.all_cons, ← fm_empty c f l]
    cases c a <;> rfl
theorem enumD_range (f : Nat → D) : ∀ n i, enumD i ((List.range n).map fun k => f (i + k)) = (List.range n).map fun k => .tup [.int ((i + k : Nat) : Int), f (i + k)]
  | 0, _ => rfl
  | n + 1, i => by
    rw [List.range_succ_eq_map, List.map_cons, List.map_cons, List.map_map, List.map_map]
    show D.tup [.int (i : Nat), f (i + 0)] :: enumD (i + 1) ((List.range n).map fun k => f (i + (k + 1))) = _
    have e : (List.range n).map (fun k => f (i + (k + 1))) = (List.range n).map fun k => f (i + 1 + k) := List.map_congr_left fun k _ => by rw [show i + (k + 1) = i + 1 + k by omega]
    rw [e, enumD_range f n (i + 1)]
    congr 1
    exact List.map_congr_left fun k _ => by
      show D.tup [.int ((i + 1 + k : Nat) : Int), f (i + 1 + k)] = D.tup [.int ((i + (k + 1) : Nat) : Int), f (i + (k + 1))]
      rw [show i + (k + 1) = i + 1 + k by omega]
theorem enum_range (f : Nat → D) (n : Nat) : enumItems (.lst ((List.range n).map f)) = .ok ((List.range n).map fun (k : Nat) => .tup [.int (k : Int), f k]) := by
  show Res.ok (enumD 0 ((List.range n).map f)) = _
  have e : (List.range n).map f = (List.range n).map fun k => f (0 + k) := List.map_congr_left fun k _ => by rw [Nat.zero_add]
  rw [e, enumD_range f n 0]
  congr 1
  exact List.map_congr_left fun k _ => by rw [Nat.zero_add]
theorem ienum {a : E} {ρ : En} {x : D} {ds : List D} (h1 : ev a ρ = .ok x) (h : enumItems x = .ok ds) : evI (.enum a) ρ = .ok ds := by
  show (ev a ρ).bind enumItems = _
  rw [h1]; exact h
/-- a test that may go either way -/
theorem riteB {t : E} {s : SE} {u v r : S} {k : Bool} {o : Out} (h1 : ev t (full s) = .ok (.bl k)) (hT : k = true → seqO (run u s) (fun s => run r s) = o) (hF : k = false → seqO (run v s) (fun s => run r s) = o) : run (.cons (.ite t u v) r) s = o := by
  refine rite h1 ?_
  cases k with
  | true => rw [if_pos rfl]; exact hT rfl
  | false => rw [if_neg Bool.false_ne_true]; exact hF rfl
theorem nx_seq {u r : S} {s s' : SE} {o : Out} (h : run u s = .nx s') (h2 : run r s' = o) : seqO (run u s) (fun s => run r s) = o := by rw [h]; exact h2
theorem rt_seq {u r : S} {s : SE} {d : D} (h : run u s = .rt d) : seqO (run u s) (fun s => run r s) = .rt d := by rw [h]; rfl
theorem rexc {e : E} {s : SE} {r : S} {c : Str} (h : ev e (full s) = .exc c) : run (.cons (.expr e) r) s = .exc c := by
  show seqO (outE (ev e (full s)) _) _ = _
  rw [h]; rfl
theorem callE {n np : Nat} {bd : S} {ds : List D} {c : Str} (hl : ds.length = np) (h : run bd (startS n ds) = .exc c) : callD n np bd ds = .exc c := by
  unfold callD; rw [if_pos hl, h]; rfl
theorem x_seq {a : E} {ρ : En} {c : Str} (h : ev a ρ = .exc c) : evI (.seq a) ρ = .exc c := by
  show (ev a ρ).bind itemsD = _; rw [h]; rfl
theorem x_comp {own : List (Str × Nat)} {tg : Tg} {it : IT} {cond : EO} {elt : E} {ρ : En} {c : Str} (h : evI it ρ = .exc c) : ev (.comp own tg it cond elt) ρ = .exc c := by
  show (evI it ρ).bind _ = _; rw [h]; rfl
theorem x_prim1 {p : Prim} {a : E} {as : EL} {ρ : En} {c : Str} (h : ev a ρ = .exc c) : ev (.prim p (.cons a as)) ρ = .exc c := by
  show ((ev a ρ).bind fun d => (evL as ρ).bind fun ds => Res.ok (d :: ds)).bind _ = _; rw [h]; rfl
theorem x_ret {e : E} {s : SE} {r : S} {c : Str} (h : ev e (full s) = .exc c) : run (.cons (.ret e) r) s = .exc c := by
  show seqO (outE (ev e (full s)) _) _ = _
  rw [h]; rfl
theorem x_set {h : Bool} {i : Nat} {e : E} {s : SE} {r : S} {c : Str} (h1 : ev e (see h s) = .exc c) : run (.cons (.set h i e) r) s = .exc c := by
  show seqO (outE (ev e (see h s)) _) _ = _
  rw [h1]; rfl
theorem look_no {d : D} (h : d.pl = true) (ht : trackB d = false) : f_look_track [d] = .exc "NoTrack" := by rw [look_any h, ht]; rfl
theorem while_T {c : SE → Res Bool} {f : SE → Out} {n : Nat} {s s' : SE} (h1 : c s = .ok true) (h2 : f s = .nx s') : whileM c f (n + 1) s = whileM c f n s' := by
  show outE (c s) (fun t => if t then seqO (f s) (whileM c f n) else .nx s) = _
  rw [h1]
  show seqO (f s) (whileM c f n) = _
  rw [h2]; rfl
theorem while_F {c : SE → Res Bool} {f : SE → Out} {n : Nat} {s : SE} (h1 : c s = .ok false) : whileM c f (n + 1) s = .nx s := by
  show outE (c s) (fun t => if t then seqO (f s) (whileM c f n) else .nx s) = _
  rw [h1]; rfl
theorem map_erase {α β : Type} (f : α → β) : ∀ (l : List α) (k : Nat), (l.map f).eraseIdx k = (l.eraseIdx k).map f
  | [], _ => rfl
  | a :: l, 0 => rfl
  | a :: l, k + 1 => by
    show f a :: (l.map f).eraseIdx k = f a :: (l.eraseIdx k).map f
    rw [map_erase f l k]
theorem erase_perm {α : Type} : ∀ (l : List α) (k : Nat) (h : k < l.length), (l[k] :: l.eraseIdx k).Perm l
  | [], _, h => by cases h
  | a :: l, 0, _ => .refl _
  | a :: l, k + 1, h => by
    have h' : k < l.length := Nat.lt_of_succ_lt_succ h
    show (l[k] :: a :: l.eraseIdx k).Perm (a :: l)
    exact (List.Perm.swap a l[k] _).trans ((erase_perm l k h').cons a)
theorem eiteT {t a b : E} {ρ : En} {o : Res D} (h1 : ev t ρ = .ok (.bl true)) (h : ev a ρ = o) : ev (.ite t a b) ρ = o := eite h1 h
theorem eiteF {t a b : E} {ρ : En} {o : Res D} (h1 : ev t ρ = .ok (.bl false)) (h : ev b ρ = o) : ev (.ite t a b) ρ = o := eite h1 h
theorem eqBB (a b : Bool) : opEq (.bl a) (.bl b) = some (.bl (a == b)) := by cases a <;> cases b <;> rfl
theorem eqSS {s : Str} (h : Sh 0 (.str s)) : opEq (.str s) (.str s) = some (.bl true) := eq_refl h (by decide)
theorem for_name {f : SE → Out} {i : Nat} {d : D} {ds : List D} {s s1 : SE} {o : Out} (h1 : f (s.set i (.ro d)) = .nx s1) (h2 : forM f (.name i) ds s1 = o) : forM f (.name i) (d :: ds) s = o := by
  show seqO (f (s.set i (.ro d))) (forM f (.name i) ds) = _
  rw [h1]; exact h2
theorem rwhile {n : Nat} {c : E} {b r : S} {s s' : SE} {o : Out} (h : whileM (fun s => (ev c (full s)).bind truth) (fun s => run b s) n s = .nx s') (h2 : run r s' = o) : run (.cons (.while_ n c b) r) s = o := rc h h2
theorem dq_pr (a b : P2) : deq (PL.prD a) (PL.prD b) = decide (a = b) := by
  show ((a.1 == b.1) && ((a.2 == b.2) && true)) = _
  rw [Bool.and_true, Bool.beq_eq_decide_eq, Bool.beq_eq_decide_eq, ← Bool.decide_and]
  exact decide_eq_decide.mpr ⟨fun z => Prod.ext z.1 z.2, fun z => by rw [z]; exact ⟨rfl, rfl⟩⟩
theorem sh_pr2 (p : P2) : Sh 1 (PL.prD p) := Sh.tup (n := 0) fun d hd => by
  simp only [List.mem_cons, List.not_mem_nil, or_false] at hd
  rcases hd with rfl | rfl <;> exact Sh.int 0 _
theorem eq_pr (a b : P2) : opEq (PL.prD a) (PL.prD b) = some (.bl (decide (a = b))) := by
  unfold opEq
  rw [(sh_pr2 a).shp (by decide), (sh_pr2 b).shp (by decide), dq_pr]; rfl
theorem ne_pr (a b : P2) : opNe (PL.prD a) (PL.prD b) = some (.bl (!decide (a = b))) := by
  unfold opNe
  rw [(sh_pr2 a).shp (by decide), (sh_pr2 b).shp (by decide), dq_pr]; rfl
end PL

namespace PL
open PySem PySem.Spec PyProof.Rows L2
/-! ## for x in l: .., l a list that is the frame's own, and that the loop leaves as it is -/
def loanS (a : Nat) (l : List D) : Sl := .obj "loan" (.tup [.int (a : Int), .lst l])
theorem loan_ow (a : Nat) (l : List D) : (loanS a l).ow = some (loanOP a l) := by
  show some (objOP "loan" (.tup [.int (a : Int), .lst l])) = _
  show some (loanOP (a : Int).toNat l) = _
  rw [Int.toNat_natCast]
open Classical in
noncomputable def forOM (f : SE → Out) (tg : Tg) (i : Nat) (x : Sl) : List D → SE → Out
  | [], s => .nx s
  | d :: ds, s => match setTgS tg d s with
    | some s1 => seqO (f s1) fun s2 => if s2[i]? = some x then forOM f tg i x ds s2 else .stuck
    | none => .stuck
open Classical in
noncomputable def runForO (f : SE → Out) (tg : Tg) (i : Nat) (s : SE) : Out := match s[i]? with
  | some (.own l) => if h : ∃ s' : SE, ∀ a : Nat, forOM f tg i (loanS a l) l (s.set i (loanS a l)) = .nx (s'.set i (loanS a l)) then .nx (h.choose.set i (.own l)) else .stuck
  | _ => .stuck
theorem rForO {f : SE → Out} {tg : Tg} {i : Nat} {s s' : SE} {l : List D} (hs : s[i]? = some (.own l)) (h : ∀ a, forOM f tg i (loanS a l) l (s.set i (loanS a l)) = .nx (s'.set i (loanS a l))) : runForO f tg i s = .nx (s'.set i (.own l)) := by
  have hx : ∃ s' : SE, ∀ a : Nat, forOM f tg i (loanS a l) l (s.set i (loanS a l)) = .nx (s'.set i (loanS a l)) := ⟨s', h⟩
  unfold runForO
  rw [hs]
  dsimp only
  rw [dif_pos hx]
  have e := (hx.choose_spec 0).symm.trans (h 0)
  have e2 : hx.choose.set i (loanS 0 l) = s'.set i (loanS 0 l) := Out.nx.inj e
  have e3 := congrArg (fun z : SE => z.set i (.own l)) e2
  rw [List.set_set, List.set_set] at e3
  rw [e3]
def nameChk (i : Nat) (N : List Str) (sc : Scope) : Expr → Bool
  | .Name y _ => decide (N[i]? = some y) && visB sc y && okName y
  | _ => false
def forOChk (tg : Tg) (i : Nat) (b : S) (N : List Str) (sc : Scope) (st : Stmt) : Bool := oB (asFor st) fun t => chkTg N sc tg t.1 && nameChk i N sc t.2.1 && chkS N sc b t.2.2
noncomputable def aForO (tg : Tg) (i : Nat) (b : S) : AtomS := ⟨forOChk tg i b, runForO (fun s => run b s) tg i⟩
theorem upd_eq {H : Hp} {a : Addr} {o : HO} (h : H a = some o) : L2.upd H a o = H := by
  funext b
  by_cases e : b = a
  · rw [e, upd_same, h]
  · rw [upd_ne e]
section
variable {X : Cx} {W : WX} {H0 : Hp} {M0 : Mk}
open Classical in
theorem st_forO {tg : Tg} {i : Nat} {b : S} {Dn : Ends} {σ : L2.St} {H : Hp} (q : tSS X W H0 M0 (runForO (fun s => run b s) tg i) Dn σ H) :
    tFor (iList X.K fun σ H Q => ∃ v, σ[i]? = some (some v) ∧ Q v H) (gTg X.K tg) (tSS X W H0 M0 (run b)) Dn σ H := by
  obtain ⟨A, s, r, o⟩ := q
  cases es : s[i]? with
  | none => unfold runForO at o; rw [es] at o; exact o.elim
  | some x =>
    cases x with
    | own l =>
      unfold runForO at o
      rw [es] at o
      dsimp only at o
      by_cases hx : ∃ s' : SE, ∀ a : Nat, forOM (fun s => run b s) tg i (loanS a l) l (s.set i (loanS a l)) = .nx (s'.set i (loanS a l))
      · rw [dif_pos hx] at o
        obtain ⟨s', hs'⟩ : ∃ s' : SE, s' = hx.choose := ⟨_, rfl⟩
        have hA := hx.choose_spec
        rw [← hs'] at o hA
        obtain ⟨a, eA, f0, n0, hσ, vs, hH, ra⟩ := r.ownL i l es
        have ch := r.change1 (x := loanS a l) (q' := loanOP a l) (o := .lst vs) (o' := .lst vs) (owAt_own es) eA hH trivial trivial (loan_ow a l) hσ ⟨⟨a, vs, rfl, rfl, upd_same, trivial, by rw [upd_eq hH]; exact ra⟩, rfl⟩
        rw [upd_eq hH] at ch
        refine ⟨.ref a, hσ, a, rfl, ⟨vs, SqL.of hH⟩, fun j m σ' H' => m + j = l.length ∧ ∃ A' s1, RelS X.K H0 M0 A' σ' H' s1 ∧ Frame X.K (marks M0 A s) H (marks M0 A' s1) H' ∧ s1[i]? = some (loanS a l) ∧ forOM (fun s => run b s) tg i (loanS a l) (l.drop j) s1 = .nx (s'.set i (loanS a l)), ⟨l.length, rfl, A, s.set i (loanS a l), ch.1, ch.2, ?_, hA a⟩, ?_⟩
        · rw [List.getElem?_set_self (List.getElem?_eq_some_iff.mp es).1]
        rintro j m σ' H' ⟨em, A', s1, r1, fr, ei, eL⟩
        have ow1 : owAt s1 i = some (loanOP a l) := owAt_of ei (loan_ow a l)
        obtain ⟨fA, v, hv, ⟨a', vs', eA', rfl, hH', _, ra'⟩, ea⟩ := r1.ownG i _ ow1
        cases ea
        cases ed : l[j]? with
        | none =>
          left
          have hd : l.drop j = [] := List.drop_eq_nil_of_le (List.getElem?_eq_none_iff.mp ed)
          rw [hd] at eL
          have e1 : s1 = s'.set i (loanS a l) := Out.nx.inj eL
          refine ⟨⟨vs', SqL.of hH', by rw [ra'.length]; exact List.getElem?_eq_none_iff.mp ed⟩, ?_⟩
          have ch2 := r1.change1 (x := .own l) (q' := lstOP l) (o := .lst vs') (o' := .lst vs') ow1 eA' hH' trivial trivial rfl hv ⟨a, vs', rfl, rfl, upd_same, trivial, by rw [upd_eq hH']; exact ra'⟩
          rw [upd_eq hH'] at ch2
          have e2 : s1.set i (.own l) = s'.set i (.own l) := by rw [e1, List.set_set]
          rw [e2] at ch2
          exact o σ' H' A' ch2.1 (fr.trans ch2.2)
        | some d =>
          right
          have hj : j < l.length := (List.getElem?_eq_some_iff.mp ed).1
          obtain ⟨x, hx', rx⟩ := ra'.get ed
          have hdrop : l.drop j = d :: l.drop (j + 1) := by
            rw [List.drop_eq_getElem_cons hj]
            rw [List.getElem?_eq_getElem hj] at ed
            cases ed; rfl
          rw [hdrop] at eL
          refine ⟨⟨vs', x, SqL.of hH', hx'⟩, fun σ2 H2 => ∃ A2 s2, RelS X.K H0 M0 A2 σ2 H2 s2 ∧ Frame X.K (marks M0 A s) H (marks M0 A2 s2) H2 ∧ s2[i]? = some (loanS a l) ∧ forOM (fun s => run b s) tg i (loanS a l) (l.drop (j + 1)) s2 = .nx (s'.set i (loanS a l)),
            fun σ2 H2 hN => ⟨m - 1, by omega, by omega, hN⟩, fun xv H2 hy => ?_⟩
          obtain ⟨rfl, hy⟩ := hy
          have := hy vs' (SqL.of hH')
          rw [hx'] at this
          cases this
          have eL' : (match setTgS tg d s1 with
            | some s2 => seqO (run b s2) fun s2 => if s2[i]? = some (loanS a l) then forOM (fun s => run b s) tg i (loanS a l) (l.drop (j + 1)) s2 else .stuck
            | none => .stuck) = .nx (s'.set i (loanS a l)) := eL
          cases e3 : setTgS tg d s1 with
          | none => rw [e3] at eL'; cases eL'
          | some s3 =>
            rw [e3] at eL'
            dsimp only at eL'
            refine gTgS e3 r1 rx fun σ3 r3 sub3 => ?_
            have f3 : Frame X.K (marks M0 A' s1) H2 (marks M0 A' s3) H2 := Frame.grow r1.dm (Same.refl _) sub3
            refine ⟨A', s3, r3, ?_⟩
            cases e4 : run b s3 with
            | nx s4 =>
              rw [e4] at eL'
              have eL2 : (if s4[i]? = some (loanS a l) then forOM (fun s => run b s) tg i (loanS a l) (l.drop (j + 1)) s4 else .stuck) = .nx (s'.set i (loanS a l)) := eL'
              by_cases c4 : s4[i]? = some (loanS a l)
              · rw [if_pos c4] at eL2
                intro σ4 H4 A4 r4 f4
                exact ⟨A4, s4, r4, (fr.trans f3).trans f4, c4, eL2⟩
              · rw [if_neg c4] at eL2; cases eL2
            | rt d => rw [e4] at eL'; cases eL'
            | exc c => rw [e4] at eL'; cases eL'
            | stuck => rw [e4] at eL'; cases eL'
      · rw [dif_neg hx] at o; exact o.elim
    | _ => unfold runForO at o; rw [es] at o; exact o.elim
end
theorem forOG {P : Str → (List D → Res D) → Prop} {C : Str → Cn → Prop} {R : Str → Prop} {tg : Tg} {i : Nat} {b : S} (g : goodS P C R b) : AtomSG P C R (aForO tg i b) := by
  intro X k W H0 M0 xo eP eC eR st hc
  subst eP eC eR
  obtain ⟨⟨t, it, body⟩, e1, hh⟩ := optM (o := asFor st) (f := fun t => chkTg X.N X.env.scope tg t.1 && nameChk i X.N X.env.scope t.2.1 && chkS X.N X.env.scope b t.2.2) hc
  obtain ⟨pos, rfl⟩ := asFor_eq e1
  rw [Bool.and_eq_true, Bool.and_eq_true] at hh
  obtain ⟨⟨h1, h2⟩, h3⟩ := hh
  dsimp only at h1 h2 h3
  unfold nameChk at h2
  split at h2
  · rename_i y p
    rw [Bool.and_eq_true, Bool.and_eq_true, decide_eq_true_eq] at h2
    obtain ⟨⟨k1, k2⟩, k3⟩ := h2
    obtain ⟨k4, k5⟩ := okName_of k3
    exact ps_weak (ps_for xo.po xo.calm (pi_list (pe_var k1 (vis_of k2) k4 k5)) (pg_tg xo.calm rfl xo.nd xo.hf h1) (snd_S b xo g body h3) (fun _ => rfl)) fun Dn σ H q => st_forO q
  · cases h2
open Classical in
theorem forO_step {f : SE → Out} {tg : Tg} {i : Nat} {x : Sl} {d : D} {ds : List D} {s s1 s2 : SE} {o : Out} (h0 : setTgS tg d s = some s1) (h1 : f s1 = .nx s2) (hi : s2[i]? = some x) (h2 : forOM f tg i x ds s2 = o) : forOM f tg i x (d :: ds) s = o := by
  show (match setTgS tg d s with
    | some s1 => seqO (f s1) fun s2 => if s2[i]? = some x then forOM f tg i x ds s2 else .stuck
    | none => .stuck) = _
  rw [h0]
  dsimp only
  rw [h1]
  show (if s2[i]? = some x then forOM f tg i x ds s2 else .stuck) = _
  rw [if_pos hi]; exact h2
theorem forO_nil {f : SE → Out} {tg : Tg} {i : Nat} {x : Sl} {s : SE} : forOM f tg i x [] s = .nx s := rfl
theorem rforOwn {tg : Tg} {i : Nat} {b r : S} {s s' : SE} {l : List D} {o : Out} (hs : s[i]? = some (.own l)) (h : ∀ a, forOM (fun s => run b s) tg i (loanS a l) l (s.set i (loanS a l)) = .nx (s'.set i (loanS a l))) (h2 : run r (s'.set i (.own l)) = o) : run (.cons (.atom (aForO tg i b)) r) s = o := by
  show seqO (runForO (fun s => run b s) tg i s) (fun s => run r s) = _
  rw [rForO hs h]; exact h2
end PL

namespace PL
open PySem PySem.Spec PyProof.Rows L2
/-! ## a list times an int, as a new list of the frame's own -/
section
variable {X : Cx} {W : WX}
theorem w_2F {ma mb : En → Res D} {sem : List D → Option D} {r : R2} {σ : L2.St} {H : Hp} {Q : VK}
    (hr : ∀ (M : Mk) (H : Hp) (x y : V) (d1 d2 d : D), DomM M H → Rep X.K M H x d1 → Rep X.K M H y d2 → sem [d1, d2] = some d → (∃ es, d = .lst es ∧ ∀ p vs H', Same X.K H H' → Fr H p → H' p = some (.lst vs) → RepAll X.K (mark M p) H' vs es → Q (.ref p) H') → r x y H Q)
    (q : tF X W (fun ρ => (seqM [ma, mb] ρ).bind fun ds => ofO (sem ds)) σ H Q) : tOp r (tS X W ma) (tS X W mb) σ H Q := by
  obtain ⟨M, ρ, dm, re, o⟩ := q
  refine ⟨M, ρ, dm, re, ?_⟩
  simp only [seqM, consM] at o
  cases e1 : ma ρ with
  | ok d1 =>
    rw [e1] at o
    intro x H1 s1 r1
    refine ⟨M, ρ, dm.mono s1, re.same s1, ?_⟩
    cases e2 : mb ρ with
    | ok d2 =>
      rw [e2] at o
      intro y H2 s2 r2
      simp only [Res.bind_ok] at o
      cases e3 : sem [d1, d2] with
      | none => rw [e3] at o; exact o.elim
      | some d =>
        rw [e3] at o
        obtain ⟨es, ed, o⟩ := o
        exact hr M H2 x y d1 d2 d ((dm.mono s1).mono s2) (r1.same s2) r2 e3 ⟨es, ed, fun p vs H' s' n e rv => o p vs H' ((s1.trans s2).trans s') ((s1.trans s2).free n) e rv⟩
    | exc c => rw [e2] at o; exact fun H' s' => o H' (s1.trans s')
    | stuck => rw [e2] at o; exact o
  | exc c => rw [e1] at o; exact o
  | stuck => rw [e1] at o; exact o
end
def pRepF : Prim := { syn := binSyn .Mult isMul, sem := two opRep, fresh := true }
theorem repFG : PrimG pRepF := by
  intro X k W xo
  have main : ∀ {e : Expr} {es : List Expr} {ms : List (En → Res D)}, binSyn .Mult isMul X.env.scope e = some es → PEs X W es ms → ∃ a b pos, e = .BinOp a .Mult b pos ∧ PE X e (tF X W fun ρ => (seqM ms ρ).bind fun ds => ofO (two opRep ds)) := by
    intro e es ms h hp
    unfold binSyn at h
    split at h
    · rename_i a o b pos
      split at h
      · rename_i hso
        cases h
        have ho : o = .Mult := by cases o <;> first | rfl | cases hso
        subst ho
        obtain ⟨ma, mb, rfl, h1, h2, _, _⟩ := two_pes hp
        refine ⟨a, b, pos, rfl, pe_weak (pe_op op_rep h1 h2) fun σ H Q q => w_2F (fun M H x y d1 d2 d dm r1 r2 e k => ?_) q⟩
        obtain ⟨es, ee, k⟩ := k
        have e' : opRep d1 d2 = some d := e
        unfold opRep at e'
        split at e'
        · rename_i l n
          split at e'
          · rename_i hc
            rw [Bool.and_eq_true, Bool.and_eq_true, decide_eq_true_eq, decide_eq_true_eq, decide_eq_true_eq] at hc
            cases e'
            cases ee
            cases r1 with
            | lst s nm ra =>
              cases r2
              have hs := sizeLine_eq
              have hl := ra.length
              refine ⟨_, n, _, rfl, rfl, s, by omega, by omega, ?_, fun p np => k p _ _ (same_new np) (Fr.of np) upd_same ((RepAll.ext (Ext.mark (Fr.of np)) _ _ (ra.rep n.toNat)).same (same_new np))⟩
              rw [hl]
              omega
          · cases e'
        · cases e'
      · cases h
    · cases h
  have lst : ∀ (ms : List (En → Res D)) ρ d, ((seqM ms ρ).bind fun ds => ofO (two opRep ds)) = .ok d → ∃ l, d = .lst l := fun ms ρ d e => by
    obtain ⟨ds, _, e⟩ := Res.bind_eq_ok e
    match ds, e with
    | [], e => cases e
    | [_], e => cases e
    | [x, y], e =>
      have e' : ofO (opRep x y) = .ok d := e
      unfold opRep at e'
      split at e'
      · split at e'
        · cases e'; exact ⟨_, rfl⟩
        · cases e'
      · cases e'
    | _ :: _ :: _ :: _, e => cases e
  refine ⟨fun {e es ms} h hp => ?_, fun _ {e es ms} h hp => ?_, fun {e es ms} h hp => ?_⟩
  · obtain ⟨a, b, pos, rfl, pe⟩ := main h hp
    exact tF_S pe (lst ms)
  · obtain ⟨a, b, pos, rfl, pe⟩ := main h hp
    exact pe
  · obtain ⟨a, b, pos, rfl, pe⟩ := main h hp
    exact pt_of_pe (tF_S pe (lst ms)) (fun _ => rfl)
end PL

namespace PL
open PySem PySem.Spec PyProof.Rows L2
/-! ## min(xs), xs a list of things that are alike: tuples, tuples in tuples -/
def ltD (a b : D) : Bool := PySem.W.dataLt a.py b.py
def alikeB (l : List D) : Bool := plAll l && (l.all fun a => (l.all fun b => PySem.W.alike a.py b.py) && (match a with | .non => false | _ => true)) && decide (PyData.depthAll (pyAll l) ≤ 60)
def minG (x : D) (l : List D) : D := l.foldl (fun a y => if ltD y a then y else a) x
def opMinG : D → Option D
  | .lst (x :: l) => if alikeB (x :: l) then some (minG x l) else none
  | _ => none
def rMinG (K : PySem.W.Frag) : List V → Hp → VK → Prop := fun vs H Q => ∃ (a : Addr) (xs : List V) (ds : List PyData), vs = [V.ref a] ∧ SqL K H a xs ∧ DpAll K H xs ds ∧ PySem.W.AlikeAll ds ∧ 0 < ds.length ∧ PyData.depthAll ds ≤ 60 ∧
  ∀ x, xs[argBest (fun i j => PySem.W.dataLt (ds.getD i .none) (ds.getD j .none)) (ds.length - 1)]? = some x → Q x H
theorem vals_get {xs : List V} {us : List Value} (r : Vals xs us) : ∀ {i : Nat} {u : Value}, us[i]? = some u → ∃ x, xs[i]? = some x ∧ RelV x u := by
  induction r with
  | nil => intro i u h; cases h
  | cons h t ih =>
    intro i u e
    cases i with
    | zero => cases e; exact ⟨_, rfl, h⟩
    | succ i => exact ih e
theorem cr_minG {X : Cx} (hc : X.calm = true) (hu : X.A.units + 65 < cLine) : CallR X (.builtin "min") (rMinG X.K) := by
  intro pins s σ H vs us Q I r h
  obtain ⟨a, xs, ds, rfl, hs, hd, ha, hne, hdp, q⟩ := h
  obtain ⟨its, rv, hl, _⟩ := I.list hs
  rw [Vals.ref1 r]
  obtain ⟨as, hr⟩ := Dp.readsAll I ds xs its hd rv
  have hr' : ReadsAll s.heap its.toArray.toList ds as := by rw [List.toList_toArray]; exact hr
  have hn : its.toArray.size = ds.length := PySem.W.readsAll_len hr'
  refine call_min_walkH (PySem.W.iter_listW (A := X.A.in1) (I.ok.hd hc) hl.isList fun s₂ e W st hfp hw hk => ?_)
  refine ⟨_, _, _, _, _, _, _, s.heap, _, rfl, W, st, hfp, by omega, hw, hk, PySem.W.cmpIn_lt (A := X.A.in1) hr' ha (by show X.A.units + 1 + _ < _; omega), fun v s' hP m => ?_⟩
  obtain ⟨h', tk, rfl, hk'⟩ := PySem.W.moved_old e rfl m
  rw [hn] at hP
  have hP' : its[argBest (fun i j => PySem.W.dataLt (ds.getD i .none) (ds.getD j .none)) (ds.length - 1)]? = some v := by
    rw [← List.getElem?_toArray]; exact hP
  obtain ⟨x, hx, rx⟩ := vals_get rv hP'
  exact ⟨x, H, I.kept hk', rx, q x hx⟩
theorem py_getD : ∀ (l : List D) (i : Nat), (pyAll l).getD i .none = (l.getD i .non).py
  | [], i => rfl
  | d :: l, 0 => rfl
  | d :: l, i + 1 => py_getD l i
theorem pyAll_len : ∀ l : List D, (pyAll l).length = l.length
  | [] => rfl
  | d :: l => by show (pyAll l).length + 1 = l.length + 1; rw [pyAll_len l]
theorem pyAll_mem : ∀ {l : List D} {x : PyData}, x ∈ pyAll l → ∃ d ∈ l, d.py = x
  | [], x, h => by cases h
  | d :: l, x, h => by
    rcases List.mem_cons.mp h with rfl | h
    · exact ⟨d, List.mem_cons_self, rfl⟩
    · obtain ⟨e, he, k⟩ := pyAll_mem h
      exact ⟨e, List.mem_cons_of_mem _ he, k⟩
theorem rep_get {K : PySem.W.Frag} {M : Mk} {H : Hp} : ∀ {vs : List V} {ds : List D}, RepAll K M H vs ds → ∀ {i : Nat} {v : V}, vs[i]? = some v → Rep K M H v (ds.getD i .non)
  | _, _, .nil, i, v, h => by cases h
  | _, _, .cons r rs, 0, v, h => by cases h; exact r
  | _, _, .cons r rs, i + 1, v, h => rep_get rs h
theorem alike_of {l : List D} (h : alikeB l = true) : plAll l = true ∧ PySem.W.AlikeAll (pyAll l) ∧ PyData.depthAll (pyAll l) ≤ 60 := by
  unfold alikeB at h
  rw [Bool.and_eq_true, Bool.and_eq_true, decide_eq_true_eq] at h
  refine ⟨h.1.1, ⟨fun x hx y hy => ?_, fun x hx e => ?_⟩, h.2⟩
  · obtain ⟨a, ha, rfl⟩ := pyAll_mem hx
    obtain ⟨b, hb, rfl⟩ := pyAll_mem hy
    have := List.all_eq_true.mp h.1.2 a ha
    rw [Bool.and_eq_true] at this
    exact List.all_eq_true.mp this.1 b hb
  · obtain ⟨a, ha, rfl⟩ := pyAll_mem hx
    have := List.all_eq_true.mp h.1.2 a ha
    rw [Bool.and_eq_true] at this
    have p : a.pl = true := by
      have : ∀ {l : List D}, plAll l = true → a ∈ l → a.pl = true := fun {l} => by
        induction l with
        | nil => intro _ h; cases h
        | cons d l ih =>
          intro h1 h2
          have h' : d.pl = true ∧ plAll l = true := by simpa [plAll] using h1
          rcases List.mem_cons.mp h2 with rfl | h2
          · exact h'.1
          · exact ih h'.2 h2
      exact this h.1.1 ha
    cases a <;> first | exact absurd this.2 (by decide) | exact absurd p (by decide +revert) | (simp [D.pl] at p; done) | (cases e; done)
def pMinG : Prim := { syn := callSyn "min", sem := one1 opMinG }
theorem minGG : PrimG pMinG := prim_blt (id := "min") (by decide) (by decide +kernel) (by decide) (by decide) fun X k W xo => by
  refine ⟨_, cr_minG xo.calm (by have := xo.room.un; omega), fun M H xs ds d Q dm rs e k => ?_⟩
  obtain ⟨a, vs, l, rfl, rfl, e, s, n, ra⟩ := one_lst rs e (fun a d h => by cases a <;> first | exact ⟨_, rfl⟩ | cases h)
  match l, ra, e with
  | [], _, e => cases e
  | x :: l, ra, e =>
    have e' : (if alikeB (x :: l) then some (minG x l) else none) = some d := e
    split at e'
    · rename_i hl
      cases e'
      obtain ⟨p, al, dp⟩ := alike_of hl
      refine ⟨a, vs, pyAll (x :: l), rfl, SqL.of s, RepAll.dp _ _ p ra, al, by rw [pyAll_len, List.length_cons]; omega, dp, fun v hv => ?_⟩
      have r := rep_get ra hv
      have fe : (fun i j => PySem.W.dataLt ((pyAll (x :: l)).getD i .none) ((pyAll (x :: l)).getD j .none)) = fun i j => ltD ((x :: l).getD i .non) ((x :: l).getD j .non) := by
        funext i j
        rw [py_getD, py_getD]; rfl
      rw [fe, pyAll_len, List.length_cons, Nat.add_sub_cancel, (PySem.W.argBest_fold ltD D.non x l l.length (Nat.le_refl _)).2, List.take_length] at r
      exact k _ _ (Same.refl H) r
    · cases e'
theorem pyAll_ints : ∀ a : List Int, pyAll (a.map D.int) = a.map PyData.int
  | [] => rfl
  | x :: a => by show PyData.int x :: pyAll (a.map D.int) = _; rw [pyAll_ints a]; rfl
theorem py_tupI (a : List Int) : (D.tup (a.map D.int)).py = .tuple (a.map PyData.int) := by
  show PyData.tuple (pyAll (a.map D.int)) = _
  rw [pyAll_ints]
theorem ltD_ints (a b : List Int) : ltD (.tup (a.map D.int)) (.tup (b.map D.int)) = decide (a < b) := by
  unfold ltD
  rw [py_tupI, py_tupI, PySem.W.dataLt_tuple]
  exact PySem.W.dataLt_ints a b
theorem alike_tupI (a b : List Int) : PySem.W.alike (D.tup (a.map D.int)).py (D.tup (b.map D.int)).py = true := by
  rw [py_tupI, py_tupI]
  unfold PySem.W.alike
  exact PySem.W.alike_ints a b
theorem eqv_tupI (a b : List Int) : PyData.eqv (D.tup (a.map D.int)).py (D.tup (b.map D.int)).py = decide (a = b) := by
  rw [py_tupI, py_tupI]
  have : ∀ a b : List Int, PyData.eqvAll (a.map PyData.int) (b.map PyData.int) = decide (a = b) := fun a => by
    induction a with
    | nil => intro b; cases b <;> simp [PyData.eqvAll]
    | cons x a ih =>
      intro b
      cases b with
      | nil => simp [PyData.eqvAll]
      | cons y b =>
        rw [List.map_cons, List.map_cons, PySem.W.eqv_all_cons, ih]
        simp [PyData.eqv, Bool.beq_eq_decide_eq]
  unfold PyData.eqv
  exact this a b
theorem ltD_pairI (x y : Int) (a b : List Int) : ltD (.tup [.int x, .tup (a.map D.int)]) (.tup [.int y, .tup (b.map D.int)]) = if x = y then (if a = b then false else decide (a < b)) else decide (x < y) := by
  have e : ∀ (x : Int) (a : List Int), (D.tup [.int x, .tup (a.map D.int)]).py = .tuple [.int x, (D.tup (a.map D.int)).py] := fun x a => rfl
  unfold ltD
  rw [e, e, PySem.W.dataLt_pair (by unfold PySem.W.alike; rfl) (alike_tupI a b), eqv_tupI]
  have h := ltD_ints a b
  unfold ltD at h
  rw [h, PySem.W.dataLt_int]
  have e2 : PyData.eqv (.int x) (.int y) = decide (x = y) := by simp [PyData.eqv, Bool.beq_eq_decide_eq]
  rw [e2]
  by_cases hx : x = y
  · by_cases ha : a = b <;> simp [hx, ha]
  · simp [hx]
theorem alike_pairI (x y : Int) (a b : List Int) : PySem.W.alike (D.tup [.int x, .tup (a.map D.int)]).py (D.tup [.int y, .tup (b.map D.int)]).py = true := by
  show PySem.W.alike (.tuple [.int x, (D.tup (a.map D.int)).py]) (.tuple [.int y, (D.tup (b.map D.int)).py]) = true
  unfold PySem.W.alike PySem.W.alikeAll PySem.W.alikeAll PySem.W.alikeAll
  rw [alike_tupI]
  simp [PySem.W.alike]
end PL

namespace PL
open PySem PySem.Spec PyProof.Rows L2
/-! ## tuple(range(n)) -/
def tupRgSyn : Scope → Expr → Option (List Expr) := fun sc e => match e with
  | .Call (.Name x _) [.Call (.Name y _) [a] [] _] [] _ => if (decide (x = "tuple") && glB sc x) && (decide (y = "range") && glB sc y) then some [a] else none
  | _ => none
def opTupRg : D → Option D
  | .int n => if decide (0 ≤ n) && decide (n ≤ 1000) then some (.tup ((List.range n.toNat).map fun (i : Nat) => D.int (i : Int))) else none
  | _ => none
def pTupRg : Prim := { syn := tupRgSyn, sem := one1 opTupRg }
theorem rep_ints {K : PySem.W.Frag} {M : Mk} {H : Hp} (f : Nat → Int) : ∀ l : List Nat, RepAll K M H (l.map fun i => V.int (f i)) (l.map fun i => D.int (f i))
  | [] => .nil
  | i :: l => .cons (.int _) (rep_ints f l)
theorem tupRgG : PrimG pTupRg := by
  intro X k W xo
  have main : ∀ {e : Expr} {es : List Expr} {ms : List (En → Res D)}, tupRgSyn X.env.scope e = some es → PEs X W es ms → ∃ a b pos, e = .Call a b [] pos ∧ PE X e (tS X W fun ρ => (seqM ms ρ).bind fun ds => ofO (one1 opTupRg ds)) := by
    intro e es ms h hp
    unfold tupRgSyn at h
    split at h
    · rename_i x p y p2 a q pos
      split at h
      · rename_i hg
        cases h
        rw [Bool.and_eq_true, Bool.and_eq_true, Bool.and_eq_true, decide_eq_true_eq, decide_eq_true_eq] at hg
        obtain ⟨⟨rfl, g1⟩, rfl, g2⟩ := hg
        obtain ⟨ma, rfl, h1, n1⟩ := one_pes hp
        refine ⟨_, _, pos, rfl, pe_weak (pe_tupRg xo.calm (gl_of g1) (xo.bf _ (by decide)) (prg_1 (gl_of g2) (xo.bf _ (by decide)) h1 (star_of n1 [] X.env)) rfl) fun σ H Q q => w_1 (r := fun x H Q => ∃ n, x = .int n ∧ RgOk 0 n ∧ ∀ q, H q = none → Q (.ref q) (upd H q (.tup (rgV 0 n)))) (fun M H x d1 d dm r1 e k => ?_) q⟩
        have e' : opTupRg d1 = some d := e
        cases d1 with
        | int n =>
          cases r1
          have e2 : (if decide (0 ≤ n) && decide (n ≤ 1000) then some (D.tup ((List.range n.toNat).map fun (i : Nat) => D.int (i : Int))) else none) = some d := e'
          split at e2
          · rename_i hn
            rw [Bool.and_eq_true, decide_eq_true_eq, decide_eq_true_eq] at hn
            cases e2
            refine ⟨n, rfl, RgOk.of_le (by omega) (by omega) (by omega) (by omega), fun p hp => k _ _ (same_new hp) (.tup upd_same (dm.fresh hp) ?_)⟩
            unfold rgV
            rw [show (n - 0).toNat = n.toNat by omega]
            have : (fun i : Nat => V.int (0 + (i : Int))) = fun i : Nat => V.int (i : Int) := by funext i; rw [Int.zero_add]
            rw [this]
            exact rep_ints (fun i : Nat => (i : Int)) _
          · cases e2
        | _ => cases e'
      · cases h
    · cases h
  refine ⟨fun h hp => (main h hp).choose_spec.choose_spec.choose_spec.2, (fun z => nomatch z), fun {e es ms} h hp => ?_⟩
  obtain ⟨a, b, pos, rfl, pe⟩ := main h hp
  exact pt_of_pe pe (fun _ => rfl)
end PL

namespace PL
open PySem PySem.Spec PyProof.Rows L2
/-! ## sorted(set(xs)), xs a list of whole numbers -/
section
variable {P : Program} {w : World} {A : Around} {E : Value → Shared → Prop} {s : Shared}
/-- what set() lays -/
abbrev bareSet (w : World) : Obj := { cls := .type "set", dict := none, data := .set #[] 0 (.fresh 0 0 (!w.params.followText "set-order")) }
/-- the set of ns stands at the new place, all else as before -/
def Filled (w : World) (s : Shared) (ns : List Int) (z : Shared) : Prop := ∃ h' tk c, z = { s with heap := h', toks := tk } ∧ SetR w h' s.heap.objs.size (fun j => decide (j ∈ ns)) c ∧ c ≤ ns.length ∧ ∀ b o, s.heap.get? b = some o → h'.get? b = some o
theorem set_ints {l : Addr} {its : Array Value} (ns : List Int) {Q : Value → Shared → Prop} (free : A.handled = none) (isl : s.heap.IsList l its) (inz : IntsAre its.toList ns) (few : ns.length + 1 < scanBound) (then_ : ∀ z, Filled w s ns z → Q (.ref s.heap.objs.size) z) :
    wpAny (model P w) A (call (.type "set") [.ref l]) Q E s := by
  have len : its.size = ns.length := by have q := inz.length; rwa [Array.length_toList] at q
  have ⟨c0, tl0, mro0⟩ := F.called_set.mro
  have made0 := F.called_set.made; have sub0 := F.called_set.sub; have nt0 := F.called_set.notType; have cc0 := F.called_set.canCreate; have tc0 := F.typeCall_set_1 (.ref l)
  refine wpAny_call (codeAny_of_tree (show wpAny _ _ (callAny (.type "set") _) _ _ _ from wpAny_pure ⟨Code.quiet_builtin _ (by decide +kernel), codeAny_builtin F.entry_type_call ?_⟩))
  rw [Around.under_plain (weight_type_call_type "set" [.ref l] []) rfl]
  repeat (any_goals (first | assumption | wp_step))
  refine codeAny_mono (code_set_led1 (w := w) (.ref l) (E := E) (Q₁ := fun v z => v = .ref s.heap.objs.size ∧ z = { s with heap := s.heap.push (bareSet w) }) ⟨rfl, rfl⟩) fun r z rz => ?_
  match r, rz with
  | .error e, rz => exact rz
  | .ok (.ret v), ⟨e1, e2⟩ =>
    subst e1 e2
    have at0 : (s.heap.push (bareSet w)).get? s.heap.objs.size = some (bareSet w) := Heap.get?_push_size _ rfl
    have ty0 : Shared.TypeIs { s with heap := s.heap.push (bareSet w) } (.ref s.heap.objs.size) "set" := ⟨_, at0, rfl⟩
    have il0 := F.called_set.init.lookup; have ib0 := F.called_set.init.bind (.ref s.heap.objs.size)
    repeat (any_goals (first | assumption | wp_step))
    refine codeAny_mono (codeAny_call_builtin (R := wants (fun v z => v = .none ∧ Filled w s ns z) E) F.called_set.init.plain F.entry_set_init (check_set_init_1 ty0 ?_)) fun r2 z2 rz2 => ?_
    · obtain ⟨⟨kc, kd, ka, ks⟩, lo, kcl, m, kda⟩ := isl
      dsimp only at kcl kda
      subst kcl kda
      have lo1 : (s.heap.push (bareSet w)).get? l = some { cls := .type "list", dict := kd, data := .seq its m, slots := ks } := Heap.get?_push_of_some _ lo
      have isl1 : (s.heap.push (bareSet w)).IsList l its := ⟨_, lo1, rfl, m, rfl⟩
      have f1 := F.sub_list_set; have f2 := F.sub_list_frozenset
      have f3 : (Value.type "list" == Value.type "dict") = false := by decide
      unfold Builtin.«set.__init__» noKeywords Builtin.Frozenset.updateFrom
      generalize gi : pyIter = itr
      wp_walk
      subst gi
      refine wpAny_pyIter_list isl1 (wpAny_bind (wpAny_runValue ?_))
      have low : l < s.heap.objs.size := Heap.lt_size lo
      have sz1 : (s.heap.push (bareSet w)).objs.size = s.heap.objs.size + 1 := Heap.size_push ..
      have apart : l ≠ (s.heap.push (bareSet w)).objs.size := by rw [sz1]; exact Nat.ne_of_lt (Nat.lt_succ_of_lt low)
      have out : s.heap.objs.size ∉ [(s.heap.push (bareSet w)).objs.size, l] := by
        rw [sz1]; simp only [List.mem_cons, List.not_mem_nil, or_false, not_or]; exact ⟨Nat.ne_of_lt (Nat.lt_succ_self _), Nat.ne_of_gt low⟩
      have vals : ∀ (i : Nat) (v : Value), its[i]? = some v → ∃ k t, ns[i]? = some k ∧ v = .int k t := fun i v hv => by
        have hi : i < ns.length := by rw [← len]; exact (Array.getElem?_eq_some_iff.mp hv).1
        obtain ⟨t, e⟩ := inz.int_at i v (by rw [Array.getElem?_toList]; exact hv)
        exact ⟨ns[i], t, List.getElem?_eq_getElem hi, by rw [e, List.getD_eq_getElem?_getD, List.getElem?_eq_getElem hi]; rfl⟩
      refine set_update_ints ((Walks.list (by simp [free]) _ l apart its).toS) s.heap.objs.size out ns len few vals (its.size - 0) 0 _ (by omega) (Nat.zero_le _) ⟨⟨_, Heap.get?_push_size _ rfl, rfl, rfl⟩, isl1.push _⟩ ⟨0, Nat.le_refl 0, setR_new_at (Heap.get?_push_of_some _ at0)⟩ fun z c mv hc hz => ?_
      obtain ⟨h', g', d', t', o'⟩ := z
      obtain rfl : g' = s.gens := mv.gens
      obtain rfl : d' = s.drawn := mv.drawn
      obtain rfl : o' = s.os := mv.os
      rw [len] at hc
      refine wpAny_pure (show wpAny _ _ (ret Value.none) _ _ _ from wpAny_pure ⟨rfl, h', t', c, rfl, hz, hc, fun b o e => ?_⟩)
      have lb : b < s.heap.objs.size := Heap.lt_size e
      refine mv.heap b o ?_ (Heap.get?_push_of_some _ (Heap.get?_push_of_some _ e))
      rw [sz1]; simp only [List.mem_cons, List.not_mem_nil, or_false, not_or]; exact ⟨Nat.ne_of_lt lb, Nat.ne_of_lt (Nat.lt_succ_of_lt lb)⟩
    · match r2, rz2 with
      | .error e, rz2 => exact rz2
      | .ok (.ret v), ⟨e1, fz⟩ =>
        subst e1
        repeat (any_goals (first | assumption | wp_step))
        exact then_ _ fz
end
end PL

namespace PL
open PySem PySem.Spec PyProof.Rows L2
/-! ### plain: strictly rising, none twice -/
def insI (a : Int) : List Int → List Int
  | [] => [a]
  | b :: r => if a < b then a :: b :: r else if a = b then b :: r else b :: insI a r
def ssI : List Int → List Int
  | [] => []
  | a :: r => insI a (ssI r)
theorem insI_mem (a x : Int) : ∀ l : List Int, x ∈ insI a l ↔ x = a ∨ x ∈ l
  | [] => by simp [insI]
  | b :: r => by
    unfold insI
    split
    · simp
    · split
      · rename_i e; subst e; simp
      · rw [List.mem_cons, insI_mem a x r, List.mem_cons]
        constructor
        · rintro (h | h | h)
          · exact .inr (.inl h)
          · exact .inl h
          · exact .inr (.inr h)
        · rintro (h | h | h)
          · exact .inr (.inl h)
          · exact .inl h
          · exact .inr (.inr h)
theorem insI_pw (a : Int) : ∀ {l : List Int}, l.Pairwise (· < ·) → (insI a l).Pairwise (· < ·)
  | [], _ => .cons (fun _ h => by cases h) .nil
  | b :: r, h => by
    unfold insI
    split
    · rename_i hab
      refine .cons (fun q hq => ?_) h
      rcases List.mem_cons.mp hq with rfl | hq
      · exact hab
      · exact Int.lt_trans hab (List.rel_of_pairwise_cons h hq)
    · split
      · exact h
      · rename_i h1 h2
        refine .cons (fun q hq => ?_) (insI_pw a h.of_cons)
        rcases (insI_mem a q r).mp hq with rfl | hq
        · omega
        · exact List.rel_of_pairwise_cons h hq
theorem ssI_mem (x : Int) : ∀ l : List Int, x ∈ ssI l ↔ x ∈ l
  | [] => Iff.rfl
  | a :: r => by
    show x ∈ insI a (ssI r) ↔ _
    rw [insI_mem, ssI_mem x r, List.mem_cons]
theorem ssI_pw : ∀ l : List Int, (ssI l).Pairwise (· < ·)
  | [] => .nil
  | a :: r => insI_pw a (ssI_pw r)
theorem ssI_is {l m : List Int} (hm : m.Pairwise (· < ·)) (h : ∀ x, x ∈ m ↔ x ∈ l) : m = ssI l := by
  have nd : ∀ {l : List Int}, l.Pairwise (· < ·) → l.Nodup := fun h => List.Pairwise.imp (fun {a b} k => Int.ne_of_lt k) h
  exact List.Perm.eq_of_pairwise (fun a b _ _ h1 h2 => absurd (Int.lt_trans h1 h2) (Int.lt_irrefl _)) hm (ssI_pw l) ((List.perm_ext_iff_of_nodup (nd hm) (nd (ssI_pw l))).mpr fun x => by rw [h, ssI_mem])
/-! ### the prim -/
theorem repAll_ints {K : PySem.W.Frag} {M : Mk} {H : Hp} : ∀ L : List Int, RepAll K M H (L.map V.int) (L.map D.int)
  | [] => .nil
  | a :: L => .cons (.int _) (repAll_ints L)
def rSetI (X : Cx) : List V → Hp → VK → Prop := fun xs H Q => ∃ l, ∃ ns : List Int, xs = [.ref l] ∧ SqL X.K H l (ns.map V.int) ∧ ns.length < 64 ∧ ∀ a c, c ≤ ns.length → H a = none → Q (.ref a) (upd H a (SetO X.w a (fun j => decide (j ∈ ns)) c))
theorem cr_setI {X : Cx} (hc : X.calm = true) : CallR X (.type "set") (rSetI X) := by
  intro pins s σ H xs us Q I r h
  obtain ⟨l, ns, rfl, hq, h1, z⟩ := h
  rw [Vals.ref1 r]
  obtain ⟨its, rr, pl, hz⟩ := I.list hq
  refine set_ints ns (I.ok.hd hc) pl.isList (by simpa using ints_of_vals rr) (Nat.lt_of_lt_of_le (Nat.succ_lt_succ h1) (by decide)) fun z' fz => ?_
  obtain ⟨h', tk, c, rfl, R, hcn, keep⟩ := fz
  exact ⟨.ref _, _, I.laid keep (Nat.le_refl _) (setO_new R), rfl, z _ c hcn (I.hok.fresh (Nat.le_refl _))⟩
def opSortedSetI : D → Option D
  | .lst l => (intsD l).bind fun ns => if ns.length < 64 then some (.lst ((ssI ns).map D.int)) else none
  | _ => none
def pSortedSetI : Prim := { syn := sortedSetSyn, sem := one1 opSortedSetI }
theorem sortedSetIG : PrimG pSortedSetI := by
  intro X k W xo
  have main : ∀ {e : Expr} {es : List Expr} {ms : List (En → Res D)}, sortedSetSyn X.env.scope e = some es → PEs X W es ms → ∃ a b pos, e = .Call a b [] pos ∧ PE X e (tS X W fun ρ => (seqM ms ρ).bind fun ds => ofO (one1 opSortedSetI ds)) := by
    intro e es ms h hp
    unfold sortedSetSyn at h
    split at h
    · rename_i x p y p2 a q pos
      split at h
      · rename_i hg
        cases h
        rw [Bool.and_eq_true, Bool.and_eq_true, Bool.and_eq_true, decide_eq_true_eq, decide_eq_true_eq] at hg
        obtain ⟨⟨rfl, g1⟩, rfl, g2⟩ := hg
        obtain ⟨ma, rfl, h1, n1⟩ := one_pes hp
        refine ⟨_, _, pos, rfl, pe_weak (pe_callB (cr_sortedSet xo.calm) (gl_of g1) (xo.bf _ (by decide)) (by decide +kernel) (pa_cons (pe_callTy (cr_setI xo.calm) (gl_of g2) (xo.bf _ (by decide)) (by decide +kernel) (pa_cons h1 pa_nil (star_of n1 [] X.env)) (by decide) (by decide) (star_of n1 [] X.env) rfl) pa_nil rfl) (by decide) (by decide) rfl rfl) fun σ H Q q => ?_⟩
        refine w_1 (r := fun x H Q => rSetI X [x] H fun y H1 => rSortedSet X.w [y] H1 Q) (fun M H x d1 d dm r1 e k => ?_) q
        have e' : opSortedSetI d1 = some d := e
        cases d1 with
        | lst l =>
          cases r1 with
          | @lst b vs _ s n ra =>
            have e2 : ((intsD l).bind fun ns => if ns.length < 64 then some (D.lst ((ssI ns).map D.int)) else none) = some d := e'
            cases e3 : intsD l with
            | none => rw [e3] at e2; cases e2
            | some ns =>
              rw [e3] at e2
              have e4 : (if ns.length < 64 then some (D.lst ((ssI ns).map D.int)) else none) = some d := e2
              split at e4
              · rename_i hl
                cases e4
                refine ⟨b, ns, rfl, SqL.of (by rw [← intsD_rep ra e3]; exact s), hl, fun a c hc ha => ?_⟩
                have same1 : Same X.K H (upd H a (SetO X.w a (fun j => decide (j ∈ ns)) c)) := same_new ha
                refine ⟨a, _, c, rfl, upd_same, by omega, fun ms p pw mem len hn => ?_⟩
                have same2 := same_new (K := X.K) (o := .lst (ms.map V.int)) hn
                have np : Fr H p := same1.free (Fr.of hn)
                have eq : ms = ssI ns := ssI_is pw fun x => by rw [mem x, decide_eq_true_eq]
                subst eq
                refine k _ _ (same1.trans same2) (.lst upd_same (dm.fresh np) ?_)
                exact repAll_ints _
              · cases e4
        | _ => cases e'
      · cases h
    · cases h
  refine ⟨fun h hp => (main h hp).choose_spec.choose_spec.choose_spec.2, (fun z => nomatch z), fun {e es ms} h hp => ?_⟩
  obtain ⟨a, b, pos, rfl, pe⟩ := main h hp
  exact pt_of_pe pe (fun _ => rfl)
end PL

namespace PL
open PySem PySem.Spec PyProof.Rows L2
/-! ## sorted(set(t)), t a tuple of whole numbers -/
def rSetU (X : Cx) : List V → Hp → VK → Prop := fun xs H Q => ∃ l, ∃ ns : List Int, xs = [.ref l] ∧ SqT X.K H l (ns.map V.int) ∧ ns.length < 64 ∧ ∀ a c, c ≤ ns.length → H a = none → Q (.ref a) (upd H a (SetO X.w a (fun j => decide (j ∈ ns)) c))
theorem cr_setU {X : Cx} (hc : X.calm = true) : CallR X (.type "set") (rSetU X) := by
  intro pins s σ H xs us Q I r h
  obtain ⟨l, ns, rfl, hq, h1, z⟩ := h
  rw [Vals.ref1 r]
  obtain ⟨its, rr, pl, hz⟩ := I.tuple hq
  refine call_set_tupI ns (I.ok.hd hc) pl (by simpa using ints_of_vals rr) (Nat.lt_of_lt_of_le (Nat.succ_lt_succ h1) (by decide)) fun h' tk c R hcn keep => ?_
  exact ⟨.ref _, _, I.laid keep (Nat.le_refl _) (setO_new R), rfl, z _ c hcn (I.hok.fresh (Nat.le_refl _))⟩
def opSortedSetU : D → Option D
  | .tup l => (intsD l).bind fun ns => if ns.length < 64 then some (.lst ((ssI ns).map D.int)) else none
  | _ => none
def pSortedSetU : Prim := { syn := sortedSetSyn, sem := one1 opSortedSetU }
theorem sortedSetUG : PrimG pSortedSetU := by
  intro X k W xo
  have main : ∀ {e : Expr} {es : List Expr} {ms : List (En → Res D)}, sortedSetSyn X.env.scope e = some es → PEs X W es ms → ∃ a b pos, e = .Call a b [] pos ∧ PE X e (tS X W fun ρ => (seqM ms ρ).bind fun ds => ofO (one1 opSortedSetU ds)) := by
    intro e es ms h hp
    unfold sortedSetSyn at h
    split at h
    · rename_i x p y p2 a q pos
      split at h
      · rename_i hg
        cases h
        rw [Bool.and_eq_true, Bool.and_eq_true, Bool.and_eq_true, decide_eq_true_eq, decide_eq_true_eq] at hg
        obtain ⟨⟨rfl, g1⟩, rfl, g2⟩ := hg
        obtain ⟨ma, rfl, h1, n1⟩ := one_pes hp
        refine ⟨_, _, pos, rfl, pe_weak (pe_callB (cr_sortedSet xo.calm) (gl_of g1) (xo.bf _ (by decide)) (by decide +kernel) (pa_cons (pe_callTy (cr_setU xo.calm) (gl_of g2) (xo.bf _ (by decide)) (by decide +kernel) (pa_cons h1 pa_nil (star_of n1 [] X.env)) (by decide) (by decide) (star_of n1 [] X.env) rfl) pa_nil rfl) (by decide) (by decide) rfl rfl) fun σ H Q q => ?_⟩
        refine w_1 (r := fun x H Q => rSetU X [x] H fun y H1 => rSortedSet X.w [y] H1 Q) (fun M H x d1 d dm r1 e k => ?_) q
        have e' : opSortedSetU d1 = some d := e
        cases d1 with
        | tup l =>
          cases r1 with
          | @tup b vs _ s n ra =>
            have e2 : ((intsD l).bind fun ns => if ns.length < 64 then some (D.lst ((ssI ns).map D.int)) else none) = some d := e'
            cases e3 : intsD l with
            | none => rw [e3] at e2; cases e2
            | some ns =>
              rw [e3] at e2
              have e4 : (if ns.length < 64 then some (D.lst ((ssI ns).map D.int)) else none) = some d := e2
              split at e4
              · rename_i hl
                cases e4
                refine ⟨b, ns, rfl, SqT.of (by rw [← intsD_rep ra e3]; exact s), hl, fun a c hc ha => ?_⟩
                have same1 : Same X.K H (upd H a (SetO X.w a (fun j => decide (j ∈ ns)) c)) := same_new ha
                refine ⟨a, _, c, rfl, upd_same, by omega, fun ms p pw mem len hn => ?_⟩
                have same2 := same_new (K := X.K) (o := .lst (ms.map V.int)) hn
                have np : Fr H p := same1.free (Fr.of hn)
                have eq : ms = ssI ns := ssI_is pw fun x => by rw [mem x, decide_eq_true_eq]
                subst eq
                refine k _ _ (same1.trans same2) (.lst upd_same (dm.fresh np) ?_)
                exact repAll_ints _
              · cases e4
        | _ => cases e'
      · cases h
    · cases h
  refine ⟨fun h hp => (main h hp).choose_spec.choose_spec.choose_spec.2, (fun z => nomatch z), fun {e es ms} h hp => ?_⟩
  obtain ⟨a, b, pos, rfl, pe⟩ := main h hp
  exact pt_of_pe pe (fun _ => rfl)
end PL

/-! ## sorted(xs), xs a list of tuples of whole numbers, all of one length -/
namespace SrtL
open PySem PySem.Spec PyProof.Rows
section
variable {prog : Program} {w : World} {A : Around} {E : Value → Shared → Prop} {s : Shared}
theorem lex_intsL {Q : Bool → Shared → Prop} {b : Bool} {xs ys : List Value} {ns ms : List Int} (i : Nat) (hx : IntsAre xs ns) (hy : IntsAre ys ms) (hl : ns.length = ms.length) (h : Q (HT.lexLt ns ms) s) : PySem.W.KatLex prog w A b false Q (xs.zip ys) i s := by
  induction hx generalizing ys ms i with
  | nil =>
    cases hy with
    | nil =>
      rw [HT.lexLt_nil_nil] at h
      exact PySem.W.kat_nil h
    | cons q u hy => simp at hl
  | @cons p t xs ns hx ih =>
    cases hy with
    | nil => simp at hl
    | @cons q u ys ms hy =>
      have hl' : ns.length = ms.length := by simpa using hl
      show PySem.W.KatLex prog w A b false Q ((Value.int p t, Value.int q u) :: xs.zip ys) i s
      refine PySem.W.kat_cons (wpAny_eqBool_int ?_)
      rw [HT.lexLt_cons] at h
      by_cases e : p = q
      · subst e
        rw [beq_self_eq_true]
        rw [if_pos rfl] at h
        refine PySem.W.kat_yes ?_
        first
          | exact ih (i + 1) hy hl' h
          | exact ih _ _ (i + 1) hy hl' h
      · rw [show (p == q) = false from beq_eq_false_iff_ne.mpr e]
        rw [if_neg e] at h
        exact PySem.W.kat_no (TS.oneLt_ints _ h)
theorem tup_cmp {vs : List Value} {k : Value → List Int} {d : Nat} (hp : ∀ v ∈ vs, TS.TupInts s.heap v (k v) ∧ (k v).length = d) : SrtO.Cmp prog w A s (tuples' true) (fun p => p.1 ∈ vs) (SrtO.lt2 fun v u => HT.lexLt (k v) (k u)) := by
  intro p q hm hm'
  obtain ⟨h1, l1⟩ := hp _ hm
  obtain ⟨h2, l2⟩ := hp _ hm'
  show wpAny (model prog w) A (keyLt' (tuples' true) p.1 q.1) (fun r s' => s' = s ∧ r = HT.lexLt (k p.1) (k q.1)) (fun _ _ => False) s
  generalize k p.1 = ns at *
  generalize k q.1 = ms at *
  obtain ⟨a, xs, e1, ⟨o, ho, hc, n, hdt⟩, i⟩ := h1
  obtain ⟨a', ys, e2, ⟨o', ho', hc', n', hdt'⟩, i'⟩ := h2
  rw [e1, e2]
  refine PySem.W.kat_lt ho hdt ho' hdt' ?_
  have sz : decide (xs.size < ys.size) = false := by
    have l1 := i.length
    have l2 := i'.length
    rw [Array.length_toList] at l1 l2
    exact decide_eq_false (by omega)
  rw [sz]
  exact lex_intsL 0 i i' (by omega) ⟨rfl, rfl⟩
theorem firsts_of {h : Heap} {d : Nat} (hd : 1 ≤ d) : ∀ vs : List Value, (∀ v ∈ vs, ∃ ns, TS.TupInts h v ns ∧ ns.length = d) → ∃ fs, PySem.W.KatTups h vs fs ∧ fs.length = vs.length ∧ ∀ f, f ∈ fs → ∃ n t, f = Value.int n t
  | [], _ => ⟨[], PySem.W.KatTups.nil, rfl, fun f hf => by simp at hf⟩
  | v :: vs, x => by
    obtain ⟨fs, k, hl, hi⟩ := firsts_of hd vs fun u hu => x u (List.mem_cons_of_mem _ hu)
    obtain ⟨ns, ⟨a, xs, rfl, ⟨o, ho, hc, n, hdt⟩, i⟩, hn⟩ := x v (List.mem_cons_self ..)
    obtain ⟨y, ys, e⟩ : ∃ y ys, xs.toList = y :: ys := by
      cases q : xs.toList with
      | nil =>
        rw [q] at i
        have l := i.length
        rw [List.length_nil, hn] at l
        omega
      | cons y ys => exact ⟨y, ys, rfl⟩
    obtain ⟨m, t, hy⟩ := i.all y (by rw [e]; exact List.mem_cons_self ..)
    refine ⟨y :: fs, PySem.W.KatTups.cons ho hc hdt ?_ k, by simp [hl], ?_⟩
    · have z := congrArg (fun l : List Value => l[0]?) e
      simpa using z
    · intro f hf
      rcases List.mem_cons.mp hf with rfl | hf
      · exact ⟨m, t, hy⟩
      · exact hi f hf
theorem tups_sortable {a : Addr} {vs : List Value} {k : Value → List Int} {d : Nat} (hd : 1 ≤ d) (h0 : 0 < vs.length) (hp : ∀ v ∈ vs, TS.TupInts s.heap v (k v) ∧ (k v).length = d) (ha : ∀ o, s.heap.get? a = some o → o.cls ≠ .type "tuple") : SrtO.SortableO prog w A s a vs fun v u => HT.lexLt (k v) (k u) := by
  intro h' keep
  have hp' : ∀ v ∈ vs, TS.TupInts h' v (k v) ∧ (k v).length = d := fun v hm => ⟨(hp v hm).1.keeps fun b o e c => keep b o (fun z => by subst z; exact ha o e c) e, (hp v hm).2⟩
  obtain ⟨fs, h1, h2, h3⟩ := firsts_of (h := h') hd vs fun v hm => ⟨_, hp' v hm⟩
  refine ⟨tuples' true, fun Q E hq => ?_, tup_cmp (s := { s with heap := h' }) hp'⟩
  refine PySem.W.kat_kind (T := .type "int") h1 (by omega) (fun f hm => ?_) (by rfl) ?_
  · obtain ⟨x, t, rfl⟩ := h3 f hm
    exact PySem.W.Looks.now
  · have e : (Value.type "int" != Value.type "tuple") = true := by first | decide +kernel | rfl | decide
    rw [e]
    exact hq
theorem sorted_tups {l : Addr} {vs : List Value} {k : Value → List Int} {d : Nat} {Q : Value → Shared → Prop} (hd : 1 ≤ d) (hl : s.heap.IsList l vs.toArray) (hz : vs.length ≤ sizeLine) (hp : ∀ v ∈ vs, TS.TupInts s.heap v (k v) ∧ (k v).length = d)
    (h : ∀ (h' : Heap) (d : Addr) (out : List Value), SrtO.Srtd (fun v u => HT.lexLt (k v) (k u)) out → SrtO.Stb (fun v u => HT.lexLt (k v) (k u)) out vs → (∀ b o, s.heap.get? b = some o → h'.get? b = some o) → s.heap.objs.size ≤ d → (∃ n, h'.get? d = some (seqObj "list" out.toArray n)) → Q (.ref d) { s with heap := h' }) :
    wpAny (model prog w) A (call (.builtin "sorted") [.ref l]) Q E s := by
  refine SrtO.sorted_ord (NtL.swo_lexL k) hl hz (fun h2 h₁ a ha kk => ?_) fun out hs hb => ?_
  · refine tups_sortable (s := { s with heap := h₁ }) hd (by omega) (fun v hm => ⟨(hp v hm).1.keeps fun b o e _ => (kk b o e).2, (hp v hm).2⟩) fun o e => ?_
    have e' : some o = some (seqObj "list" vs.toArray 0) := e.symm.trans ha
    cases e'
    intro c
    exact absurd (Value.type.inj c) (by decide)
  · exact h _ _ out hs hb (fun b o e => sortedAll_old e) (Nat.le_succ _) (sortedAll_at s.heap vs out.toArray)
end
end SrtL
namespace PL
open PySem PySem.Spec PyProof.Rows L2
abbrev ltL (k : V → List Int) (x y : V) : Bool := HT.lexLt (k x) (k y)
def rSortedL (K : PySem.W.Frag) : List V → Hp → VK → Prop := fun vs H Q => ∃ (a : Addr) (xs : List V) (k : V → List Int) (d : Nat), vs = [V.ref a] ∧ SqL K H a xs ∧ 1 ≤ d ∧ (∀ x ∈ xs, (k x).length = d ∧ ∃ t, x = V.ref t ∧ H t = some (.tup ((k x).map V.int))) ∧
  ∀ ys p, SrtO.Srtd (ltL k) ys → SrtO.Stb (ltL k) ys xs → H p = none → Q (.ref p) (upd H p (.lst ys))
theorem cr_sortedL {X : Cx} : CallR X (.builtin "sorted") (rSortedL X.K) := by
  intro pins s σ H vs us Q I r h
  obtain ⟨a, xs, k, d, rfl, hs, hd1, hx, q⟩ := h
  obtain ⟨its, rv, hl, hz⟩ := I.list hs
  obtain ⟨u, rfl, ru⟩ := vals1 r
  obtain rfl : u = Value.ref a := ru
  obtain ⟨e1, e2⟩ := refs_back rv fun x m => by
    obtain ⟨_, t, e, _⟩ := hx x m
    exact ⟨t, e⟩
  refine SrtL.sorted_tups (k := fun u => k (backV u)) hd1 hl.isList (by rw [← rv.length]; exact hz) (fun v hv => ?_) fun h' d out h1 h2 kp hd hn => ?_
  · obtain ⟨t, rfl⟩ := e2 v hv
    have hm : V.ref t ∈ xs := by rw [e1]; exact List.mem_map.mpr ⟨_, hv, rfl⟩
    obtain ⟨ld, t', e, ht⟩ := hx _ hm
    cases e
    exact ⟨tupI_raw I (SqT.of ht), ld⟩
  · have h3 : ∀ u ∈ out, ∃ a, u = Value.ref a := fun u hu => e2 u (h2.perm.mem_iff.mp hu)
    obtain ⟨n, hn⟩ := hn
    have hb : SrtO.Stb (ltL k) (out.map backV) xs := by
      rw [e1]
      exact SrtO.Stb.map (NtL.swo_lexL k) backV h2
    refine ⟨.ref d, upd H d (.lst (out.map backV)), I.laid (t' := s.toks) kp hd ⟨?_, out, n, vals_back h3, hn⟩, rfl, q _ d (SrtO.srtd_map h1) hb (I.hok.fresh hd)⟩
    rw [hb.len]
    exact hz
/-! plain -/
def tupI (ns : List Int) : D := .tup (ns.map D.int)
def insL (a : List Int) : List (List Int) → List (List Int)
  | [] => [a]
  | b :: r => if HT.lexLt b a = false then a :: b :: r else b :: insL a r
def sortL : List (List Int) → List (List Int)
  | [] => []
  | a :: r => insL a (sortL r)
theorem insL_perm (a : List Int) : ∀ l : List (List Int), (insL a l).Perm (a :: l)
  | [] => .refl _
  | b :: r => by
    unfold insL
    split
    · exact .refl _
    · exact ((insL_perm a r).cons b).trans (.swap a b r)
theorem sortL_perm : ∀ l : List (List Int), (sortL l).Perm l
  | [] => .refl _
  | a :: r => (insL_perm a (sortL r)).trans ((sortL_perm r).cons a)
theorem insL_pw (a : List Int) : ∀ {l : List (List Int)}, (l.Pairwise fun p q => HT.lexLt q p = false) → (insL a l).Pairwise fun p q => HT.lexLt q p = false
  | [], _ => .cons (fun _ h => by cases h) .nil
  | b :: r, h => by
    unfold insL
    split
    · rename_i hab
      refine .cons (fun q hq => ?_) h
      rcases List.mem_cons.mp hq with rfl | hq
      · exact hab
      · exact NtL.lex_tr _ _ _ hab (List.rel_of_pairwise_cons h hq)
    · rename_i hab
      refine .cons (fun q hq => ?_) (insL_pw a (List.Pairwise.of_cons h))
      rcases List.mem_cons.mp ((insL_perm a r).mem_iff.mp hq) with rfl | hq
      · exact NtL.lex_asym _ _ (by simpa using hab)
      · exact List.rel_of_pairwise_cons h hq
theorem sortL_pw : ∀ l : List (List Int), (sortL l).Pairwise fun p q => HT.lexLt q p = false
  | [] => .nil
  | a :: r => insL_pw a (sortL_pw r)
theorem lex_anti : ∀ a b : List Int, HT.lexLt a b = false → HT.lexLt b a = false → a = b
  | [], [], _, _ => rfl
  | [], y :: ys, h, _ => by rw [HT.lexLt_nil_cons] at h; cases h
  | x :: xs, [], _, h => by rw [HT.lexLt_nil_cons] at h; cases h
  | x :: xs, y :: ys, h1, h2 => by
    rw [HT.lexLt_cons] at h1 h2
    by_cases e : x = y
    · subst e
      rw [if_pos rfl] at h1 h2
      rw [lex_anti xs ys h1 h2]
    · rw [if_neg e] at h1
      rw [if_neg (Ne.symm e)] at h2
      have := of_decide_eq_false h1
      have := of_decide_eq_false h2
      omega
theorem sortL_is {l m : List (List Int)} (hp : m.Perm l) (hs : m.Pairwise fun p q => HT.lexLt q p = false) : m = sortL l :=
  List.Perm.eq_of_pairwise (fun a b _ _ h1 h2 => lex_anti a b h2 h1) hs (sortL_pw l) (hp.trans (sortL_perm l).symm)
def tupsD : List D → Option (List (List Int))
  | [] => some []
  | .tup l :: r => (intsD l).bind fun ns => (tupsD r).map (ns :: ·)
  | _ => none
theorem tupsD_map : ∀ l : List (List Int), tupsD (l.map tupI) = some l
  | [] => rfl
  | p :: l => by
    show (intsD (p.map D.int)).bind (fun ns => (tupsD (l.map tupI)).map (ns :: ·)) = _
    rw [intsD_map, tupsD_map l]; rfl
theorem intsD_is : ∀ {l : List D} {ns : List Int}, intsD l = some ns → l = ns.map D.int
  | [], ns, h => by cases h; rfl
  | d :: l, ns, h => by
    unfold intsD at h
    split at h
    · rename_i e; cases e
    · rename_i i r e
      cases e
      cases e1 : intsD l with
      | none => rw [e1] at h; cases h
      | some m => rw [e1] at h; cases h; rw [intsD_is e1]; rfl
    · cases h
theorem tupsD_is : ∀ {ds : List D} {ks : List (List Int)}, tupsD ds = some ks → ds = ks.map tupI
  | [], ps, h => by cases h; rfl
  | d :: ds, ps, h => by
    unfold tupsD at h
    split at h
    · rename_i e; cases e
    · rename_i l r e
      cases e
      cases e0 : intsD l with
      | none => rw [e0] at h; cases h
      | some ns =>
        rw [e0] at h
        cases e1 : tupsD ds with
        | none => rw [e1] at h; cases h
        | some m =>
          rw [e1] at h
          cases h
          rw [tupsD_is e1, intsD_is e0]; rfl
    · cases h
def lenOk (ks : List (List Int)) : Bool := ks.all fun k => decide (k.length = max 1 (ks.headD []).length)
def opSortedT : D → Option D
  | .lst l => (tupsD l).bind fun ks => if lenOk ks then some (.lst ((sortL ks).map tupI)) else none
  | _ => none
def pSortedT : Prim := { syn := callSyn "sorted", sem := one1 opSortedT }
open Classical in
noncomputable def keyL (H : Hp) (x : V) : List Int := if h : ∃ p : List Int, ∃ t, x = V.ref t ∧ H t = some (.tup (p.map V.int)) then h.choose else []
theorem vint_inj : ∀ {a b : List Int}, a.map V.int = b.map V.int → a = b
  | [], [], _ => rfl
  | [], _ :: _, h => by cases h
  | _ :: _, [], h => by cases h
  | x :: a, y :: b, h => by
    rw [List.map_cons, List.map_cons] at h
    injection h with h1 h2
    injection h1 with h1
    rw [h1, vint_inj h2]
theorem keyL_is {H : Hp} {x : V} {p : List Int} {t : Addr} (e : x = .ref t) (h : H t = some (.tup (p.map V.int))) : keyL H x = p := by
  have hx : ∃ p : List Int, ∃ t, x = V.ref t ∧ H t = some (.tup (p.map V.int)) := ⟨p, t, e, h⟩
  unfold keyL
  rw [dif_pos hx]
  obtain ⟨t', e', h'⟩ := hx.choose_spec
  rw [e] at e'
  cases e'
  rw [h] at h'
  injection h' with h'
  injection h' with h'
  exact (vint_inj h').symm
theorem rep_tupI {K : PySem.W.Frag} {M : Mk} {H : Hp} {x : V} {p : List Int} (r : Rep K M H x (tupI p)) : ∃ t, x = .ref t ∧ H t = some (.tup (p.map V.int)) ∧ ¬ M t := by
  cases r with
  | @tup a xs _ s n ra =>
    refine ⟨a, rfl, ?_, n⟩
    rw [RepAll.ints ra] at s
    exact s
theorem keysL_of {K : PySem.W.Frag} {M : Mk} {H : Hp} : ∀ {xs : List V} {ps : List (List Int)}, RepAll K M H xs (ps.map tupI) → xs.map (keyL H) = ps ∧ ∀ x ∈ xs, Rep K M H x (tupI (keyL H x)) ∧ ∃ t, x = V.ref t ∧ H t = some (.tup ((keyL H x).map V.int))
  | [], [], _ => ⟨rfl, fun _ h => by cases h⟩
  | x :: xs, p :: ps, .cons r rs => by
    obtain ⟨t, e, h, n⟩ := rep_tupI r
    obtain ⟨i1, i2⟩ := keysL_of rs
    have ke := keyL_is e h
    refine ⟨by rw [List.map_cons, i1, ke], fun y hy => ?_⟩
    rcases List.mem_cons.mp hy with rfl | hy
    · rw [ke]; exact ⟨r, t, e, h⟩
    · exact i2 y hy
theorem rep_keysL {K : PySem.W.Frag} {M : Mk} {H : Hp} : ∀ {ys : List V}, (∀ y ∈ ys, Rep K M H y (tupI (keyL H y))) → RepAll K M H ys ((ys.map (keyL H)).map tupI)
  | [], _ => .nil
  | y :: ys, h => .cons (h y List.mem_cons_self) (rep_keysL fun z hz => h z (List.mem_cons_of_mem _ hz))
theorem sortedTG : PrimG pSortedT := prim_blt (id := "sorted") (by decide) (by decide +kernel) (by decide) (by decide) fun X k W xo => by
  refine ⟨_, cr_sortedL, fun M H xs ds d Q dm rs e k => ?_⟩
  obtain ⟨a, vs, l, rfl, rfl, e, s, n, ra⟩ := one_lst rs e (fun a d h => by cases a <;> first | exact ⟨_, rfl⟩ | cases h)
  have e' : ((tupsD l).bind fun ks => if lenOk ks then some (D.lst ((sortL ks).map tupI)) else none) = some d := e
  cases e1 : tupsD l with
  | none => rw [e1] at e'; cases e'
  | some ps =>
    rw [e1] at e'
    have e4 : (if lenOk ps then some (D.lst ((sortL ps).map tupI)) else none) = some d := e'
    split at e4
    · rename_i hl
      cases e4
      have el := tupsD_is e1
      subst el
      obtain ⟨i1, i2⟩ := keysL_of ra
      refine ⟨a, vs, keyL H, max 1 (ps.headD []).length, rfl, SqL.of s, Nat.le_max_left _ _, fun x hx => ⟨?_, (i2 x hx).2⟩, fun ys p hs hst hn => ?_⟩
      · have hm : keyL H x ∈ ps := by rw [← i1]; exact List.mem_map.mpr ⟨x, hx, rfl⟩
        exact of_decide_eq_true (List.all_eq_true.mp hl _ hm)
      · have pm : ys.Perm vs := hst.perm
        have e2 : ys.map (keyL H) = sortL ps := by
          refine sortL_is (by rw [← i1]; exact pm.map _) ?_
          rw [List.pairwise_map]
          exact hs
        refine k _ _ (same_new hn) (.lst upd_same (dm.fresh hn) ?_)
        rw [← e2]
        exact (rep_keysL fun y hy => (i2 y (pm.mem_iff.mp hy)).1).same (same_new hn)
    · cases e4
end PL

namespace PL
open PySem PySem.Spec PyProof.Rows L2
/-! ## list(x) -/
def opListOf : D → Option D
  | .lst l => some (.lst l)
  | .tup l => some (.lst l)
  | _ => none
def pListOf : Prim := { syn := callSyn "list", sem := one1 opListOf, fresh := true }
theorem listOfG : PrimG pListOf := by
  intro X k W xo
  have main : ∀ {e : Expr} {es : List Expr} {ms : List (En → Res D)}, callSyn "list" X.env.scope e = some es → PEs X W es ms → ∃ x p es pos, e = .Call (.Name x p) es [] pos ∧ PE X e (tF X W fun ρ => (seqM ms ρ).bind fun ds => ofO (one1 opListOf ds)) := by
    intro e es ms h hp
    unfold callSyn at h
    split at h
    · rename_i x p a es' pos
      split at h
      · rename_i hg
        cases h
        rw [Bool.and_eq_true, decide_eq_true_eq] at hg
        obtain ⟨rfl, hg⟩ := hg
        have ns : notStar a = true := by cases hp with | cons _ n _ => exact n
        have st : (backTo pos (starEach es' X.env)).any (·.1) = false := by cases hp with | cons _ _ t => exact stars_of t pos
        refine ⟨_, p, _, pos, rfl, pe_weak (pe_callTy call_list_of (gl_of hg) (xo.bf _ (by decide)) (by decide +kernel) hp.pa (by decide) (by decide) (star_of ns es' X.env) st) fun σ H Q q => w_nF (fun M H xs ds d dm rs e k => ?_) q⟩
        obtain ⟨es, ee, k⟩ := k
        match ds, rs, e with
        | [x], .cons r1 .nil, e =>
          have e' : opListOf x = some d := e
          cases x with
          | lst l =>
            cases e'; cases ee
            cases r1 with
            | @lst b vs _ s n ra => exact ⟨_, vs, rfl, .inl (SqL.of s), fun p hp => k p vs _ (same_new hp) hp upd_same ((RepAll.ext (Ext.mark hp) _ _ ra).same (same_new hp))⟩
          | tup l =>
            cases e'; cases ee
            cases r1 with
            | @tup b vs _ s n ra => exact ⟨_, vs, rfl, .inr (SqT.of s), fun p hp => k p vs _ (same_new hp) hp upd_same ((RepAll.ext (Ext.mark hp) _ _ ra).same (same_new hp))⟩
          | _ => cases e'
      · cases h
    · cases h
  have lst : ∀ (ms : List (En → Res D)) ρ d, ((seqM ms ρ).bind fun ds => ofO (one1 opListOf ds)) = .ok d → ∃ l, d = .lst l := fun ms ρ d e => by
    obtain ⟨ds, _, e⟩ := Res.bind_eq_ok e
    match ds, e with
    | [], e => cases e
    | [x], e =>
      have e' : ofO (opListOf x) = .ok d := e
      cases x <;> first | (cases e'; exact ⟨_, rfl⟩) | cases e'
    | _ :: _ :: _, e => cases e
  refine ⟨fun {e es ms} h hp => ?_, fun _ {e es ms} h hp => ?_, fun {e es ms} h hp => ?_⟩
  · obtain ⟨a, b, c, pos, rfl, pe⟩ := main h hp
    exact tF_S pe (lst ms)
  · obtain ⟨a, b, c, pos, rfl, pe⟩ := main h hp
    exact pe
  · obtain ⟨a, b, c, pos, rfl, pe⟩ := main h hp
    exact pt_of_pe (tF_S pe (lst ms)) (fun _ => rfl)
/-! ## x.append(y.pop(e)): from one of the frame's lists into another -/
def popInto (i j : Nat) (s : SE) (l m : List D) : D → Out
  | .int k => if 0 ≤ k ∧ l.length < sizeD ∧ m.length < sizeD then (match m[k.toNat]? with | some x => .nx ((s.set j (.own (m.eraseIdx k.toNat))).set i (.own (l ++ [x]))) | none => .stuck) else .stuck
  | _ => .stuck
def asPop : Expr → Option (Str × Pos × Pos × Expr × Pos)
  | .Call (.Attribute (.Name y p) m ap) [v] [] cp => if m = "pop" then some (y, p, ap, v, cp) else none
  | _ => none
theorem asPop_eq {e v : Expr} {y : Str} {p ap cp : Pos} (h : asPop e = some (y, p, ap, v, cp)) : e = .Call (.Attribute (.Name y p) "pop" ap) [v] [] cp := by
  unfold asPop at h
  split at h
  · split at h
    · rename_i hm; cases h; rw [hm]
    · cases h
  · cases h
def aAppPop (i j : Nat) (e : E) : AtomS where
  chk := fun N sc st => !(i == j) && oB (asMeth st) fun t => match t with
    | (x, _, m, ap, [v], cp) => chkV N sc i x && decide (m = "append") && notStar v && (ap.endLine == cp.line) && oB (asPop v) fun u => chkV N sc j u.1 && chk N sc e u.2.2.2.1 && notStar u.2.2.2.1 && (u.2.2.1.endLine == u.2.2.2.2.line)
    | _ => false
  run := fun s => withOwn s i fun l => withOwn s j fun m => outE (ev e (full s)) fun d => popInto i j s l m d
theorem appPopG {P : Str → (List D → Res D) → Prop} {C : Str → Cn → Prop} {R : Str → Prop} {i j : Nat} {e : E} (ge : good P C e) : AtomSG P C R (aAppPop i j e) := by
  intro X k W H0 M0 xo hP hC hR st hc
  subst hP hC hR
  have hc' : (!(i == j) && oB (asMeth st) fun t => match t with
    | (x, _, m, ap, [v], cp) => chkV X.N X.env.scope i x && decide (m = "append") && notStar v && (ap.endLine == cp.line) && oB (asPop v) fun u => chkV X.N X.env.scope j u.1 && chk X.N X.env.scope e u.2.2.2.1 && notStar u.2.2.2.1 && (u.2.2.1.endLine == u.2.2.2.2.line)
    | _ => false) = true := hc
  rw [Bool.and_eq_true] at hc'
  obtain ⟨hij, h2⟩ := hc'
  have hij' : i ≠ j := by simpa using hij
  obtain ⟨⟨x, p, m, ap, as, cp⟩, e1, h3⟩ := optM h2
  obtain ⟨pos, rfl⟩ := asMeth_eq e1
  match as, h3 with
  | [v], h3 =>
    have h3' : (chkV X.N X.env.scope i x && decide (m = "append") && notStar v && (ap.endLine == cp.line) && oB (asPop v) fun u => chkV X.N X.env.scope j u.1 && chk X.N X.env.scope e u.2.2.2.1 && notStar u.2.2.2.1 && (u.2.2.1.endLine == u.2.2.2.2.line)) = true := h3
    simp only [Bool.and_eq_true, decide_eq_true_eq] at h3'
    obtain ⟨⟨⟨⟨c1, c2⟩, c3⟩, c4⟩, c5⟩ := h3'
    subst c2
    obtain ⟨⟨y, p2, ap2, v2, cp2⟩, e2, h4⟩ := optM c5
    rw [Bool.and_eq_true, Bool.and_eq_true, Bool.and_eq_true] at h4
    obtain ⟨⟨⟨d1, d2⟩, d3⟩, d4⟩ := h4
    have ev := asPop_eq e2
    subst ev
    obtain ⟨a1, a2, a3⟩ := chkV_of c1
    obtain ⟨b1, b2, b3⟩ := chkV_of d1
    refine ps_weak (ps_expr (pe_meth1 PySem.F.slot_list_append PySem.F.type_list_append mt_append a1 a2 a3 (pe_meth1 PySem.F.slot_list_pop PySem.F.type_list_pop mt_popAt b1 b2 b3 (snd_e e xo.toXOk ge v2 d2).pe d3 d4) c3 c4)) fun Dn σ H q => ?_
    obtain ⟨A, s, r, o⟩ := q
    have o : OutS X W H0 M0 (marks M0 A s) H Dn (withOwn s i fun l => withOwn s j fun m => outE (PL.ev e (full s)) fun d => popInto i j s l m d) := o
    obtain ⟨l, es, o⟩ := own_of o
    obtain ⟨ml, em, o⟩ := own_of o
    obtain ⟨ai, eA, n0, nm, ev1, vs, hl, ra⟩ := r.ownL i l es
    obtain ⟨aj, eA', n0', nm', ev1', ws, hl', ra'⟩ := r.ownL j ml em
    refine ⟨_, ev1, .inl ⟨rfl, _, SqL.of hl⟩, ?_⟩
    refine ⟨_, ev1', .inl ⟨rfl, _, SqL.of hl'⟩, ?_⟩
    refine full_out r o fun d v H' e1 s' rv r' o' => ?_
    cases d with
    | int kk =>
      have o2 : OutS X W H0 M0 (marks M0 A s) H Dn (if 0 ≤ kk ∧ l.length < sizeD ∧ ml.length < sizeD then (match ml[kk.toNat]? with | some x => Out.nx ((s.set j (.own (ml.eraseIdx kk.toNat))).set i (.own (l ++ [x]))) | none => .stuck) else .stuck) := o'
      by_cases hk : 0 ≤ kk ∧ l.length < sizeD ∧ ml.length < sizeD
      · rw [if_pos hk] at o2
        cases hx : ml[kk.toNat]? with
        | none => rw [hx] at o2; exact o2.elim
        | some x =>
          rw [hx] at o2
          have o2 : OutS X W H0 M0 (marks M0 A s) H Dn (Out.nx ((s.set j (.own (ml.eraseIdx kk.toNat))).set i (.own (l ++ [x])))) := o2
          cases rv
          obtain ⟨y, hy, ry⟩ := (ra'.same s').get hx
          have hlt : kk.toNat < ml.length := (List.getElem?_eq_some_iff.mp hx).1
          have hlw : ws.length = ml.length := ra'.length
          have sz : sizeD = 100000 := rfl
          refine ⟨aj, ws, kk, kk.toNat, y, rfl, rfl, s'.get _ _ hl', by omega, by omega, ?_, hy, ?_⟩
          · unfold seqIndex?
            have z1 : ¬ kk < 0 := by omega
            simp only [if_neg z1]
            rw [if_pos (by rw [Bool.and_eq_true, decide_eq_true_eq, decide_eq_true_eq]; omega)]
          · obtain ⟨r2, f2⟩ := r'.upd (vs := ws.eraseIdx kk.toNat) (l' := ml.eraseIdx kk.toNat) em eA' ((ra'.same s').eraseIdx _)
            have es2 : (s.set j (.own (ml.eraseIdx kk.toNat)))[i]? = some (.own l) := by rw [List.getElem?_set_ne (Ne.symm hij')]; exact es
            obtain ⟨ai2, eA2, _, _, _, us, hu, ru⟩ := r2.ownL i l es2
            obtain rfl : ai = ai2 := by rw [eA] at eA2; exact (List.cons.inj eA2).1
            have ne : ai ≠ aj := fun z => hij' (r.injG i j _ _ ai (owAt_own es) (owAt_own em) (by rw [eA]; exact List.mem_cons_self) (by rw [eA', z]; exact List.mem_cons_self))
            have eu : us = vs := by
              rw [upd_ne ne, s'.get _ _ hl] at hu
              cases hu; rfl
            subst eu
            have ry2 : Rep X.K (marks M0 A (s.set j (.own (ml.eraseIdx kk.toNat)))) (L2.upd H' aj (.lst (ws.eraseIdx kk.toNat))) y x := Rep.weak (fun a => (marks_own em a).mp) _ _ (Rep.keep f2.keep _ _ ry)
            obtain ⟨r3, f3⟩ := r2.upd (vs := us ++ [y]) (l' := l ++ [x]) es2 eA (ru.append (.cons ry2 .nil))
            refine ⟨ai, us, y, rfl, rfl, hu, own_len ra hk.2.1, ?_⟩
            exact o2 σ _ A r3 (((Frame.grow r.dm s' fun _ m => m).trans f2).trans f3)
      · rw [if_neg hk] at o2; exact o2.elim
    | _ => exact o'.elim
theorem rappPop {i j : Nat} {e : E} {s : SE} {l m : List D} {k : Nat} {x : D} {r : S} {o : Out} (hi : s[i]? = some (.own l)) (hj : s[j]? = some (.own m)) (h1 : ev e (full s) = .ok (.int (k : Int))) (hl : l.length < sizeD) (hm : m.length < sizeD) (hx : m[k]? = some x)
    (h2 : run r ((s.set j (.own (m.eraseIdx k))).set i (.own (l ++ [x]))) = o) : run (.cons (.atom (aAppPop i j e)) r) s = o := by
  refine rc (s' := (s.set j (.own (m.eraseIdx k))).set i (.own (l ++ [x]))) ?_ h2
  show withOwn s i (fun l => withOwn s j fun m => outE (ev e (full s)) fun d => popInto i j s l m d) = _
  unfold withOwn
  rw [hi]
  dsimp only
  rw [hj]
  dsimp only
  rw [h1]
  show (if 0 ≤ (k : Int) ∧ l.length < sizeD ∧ m.length < sizeD then (match m[(k : Int).toNat]? with | some x => Out.nx ((s.set j (.own (m.eraseIdx (k : Int).toNat))).set i (.own (l ++ [x]))) | none => .stuck) else .stuck) = _
  rw [if_pos ⟨by omega, hl, hm⟩, Int.toNat_natCast, hx]
end PL

namespace PL
open PySem PySem.Spec PyProof.Rows L2
/-! ## a <= b <= c of pairs of whole numbers -/
def lePr (a b c d : Int) : Bool := if a = c then decide (b ≤ d) else decide (a ≤ c)
def opLeP : D → D → Option D
  | .tup [.int a, .int b], .tup [.int c, .int d] => some (.bl (lePr a b c d))
  | _, _ => none
theorem lexAt2 (a b c d : Int) : Ob.lexAt (fun j => decide ([a, b].getD j 0 = [c, d].getD j 0)) (fun j => decide ([a, b].getD j 0 ≤ [c, d].getD j 0)) (decide ([a, b].length ≤ [c, d].length)) 0 (min [a, b].length [c, d].length) = lePr a b c d := by
  unfold lePr
  by_cases h : a = c
  · by_cases h2 : b = d
    · subst h h2
      rw [if_pos rfl, decide_eq_true (Int.le_refl b)]
      simp [Ob.lexAt]
    · subst h
      rw [if_pos rfl]
      simp [Ob.lexAt, h2]
  · rw [if_neg h]
    simp [Ob.lexAt, h]
theorem lePO : OpG .LtE opLeP := fun X k W xo => by
  refine ⟨_, op_leT (by have := xo.room.un; omega), fun M H x y d1 d2 d Q dm r1 r2 e k => ?_⟩
  unfold opLeP at e
  split at e
  · rename_i a b c dd
    cases e
    cases r1 with
    | @tup p xs _ s n ra =>
      cases r2 with
      | @tup q ys _ s2 n2 ra2 =>
        have e1 := intsD_rep (ns := [a, b]) ra rfl
        have e2 := intsD_rep (ns := [c, dd]) ra2 rfl
        refine ⟨p, q, [a, b], [c, dd], rfl, rfl, SqT.of (by rw [← e1]; exact s), SqT.of (by rw [← e2]; exact s2), ?_⟩
        rw [lexAt2]
        exact k _ H (Same.refl H) (.bl _)
  · cases e
end PL

namespace Pk32
open PySem PySem.Spec PyProof.Rows L2 PL
def topS (i : Nat) : Stmt := PySem.Challenge.pw_tracklines_k32_whole_hulls_within_hulls.main.body.getD i (.Pass ⟨0, 0, 0, 0⟩)
def N_is_whole : List Str := ["thing", "low", "high"]
def N_is_point : List Str := ["thing", "one"]
def N_is_track : List Str := ["thing", "point", "one", "other"]
def N_look_track : List Str := ["track"]
def N_places_of : List Str := ["track", "time", "x", "y"]
def N_twice_area : List Str := ["track", "some", "one", "other"]
def N_crossed : List Str := ["one", "other", "point"]
def N_is_on : List Str := ["one", "other", "point", "first"]
def N_have_common : List Str := ["one", "other", "first", "last", "sides", "signs", "on", "side"]
def N_crossings : List Str := ["track", "some", "made", "one", "other"]
def N_half_hull : List Str := ["some", "made", "place"]
def N_hull : List Str := ["track", "some"]
def N_are_kept : List Str := ["track", "thing", "one"]
def b_are_kept : S :=
  (.cons (.ite (.or (.not (.prim pIsTuple (.cons (.v 1) .nil))) (.or (.prim pEq (.cons (.v 1) (.cons (.prim pTup .nil) .nil))) (.not (.prim pAll (.cons (.comp [("one", 2)] (.name 2) (.seq (.v 1)) .none (.call "is_whole" f_is_whole (.cons (.v 2) (.cons (.c (.int 0)) (.cons (.prim pSub (.cons (.prim pLen (.cons (.v 0) .nil)) (.cons (.c (.int 1)) .nil))) .nil))))) .nil)))))
  (.cons (.ret (.c (.bl false)))
  .nil)
  .nil)
  (.cons (.ret (.prim pEq (.cons (.prim pListOf (.cons (.v 1) .nil)) (.cons (.prim pSortedSetU (.cons (.v 1) .nil)) .nil))))
  .nil))
def f_are_kept : List D → Res D := callD 3 2 b_are_kept
def N_points_of : List Str := ["track", "kept", "number"]
def b_points_of : S :=
  (.cons (.expr (.call "look_track" f_look_track (.cons (.v 0) .nil)))
  (.cons (.ite (.not (.call "are_kept" f_are_kept (.cons (.v 0) (.cons (.v 1) .nil))))
  (.cons (.raise "NoPoint")
  .nil)
  .nil)
  (.cons (.ret (.prim pTupleOf (.cons (.comp [("number", 2)] (.name 2) (.seq (.v 1)) .none (.prim pIx (.cons (.v 0) (.cons (.v 2) .nil)))) .nil)))
  .nil)))
def f_points_of : List D → Res D := callD 3 2 b_points_of
def N__law_cell : List Str := ["script", "k"]
abbrev b__law_cell : S := PL.b__law_cell
abbrev f__law_cell : List D → Res D := PL.fCell
def N__law_pick : List Str := ["script", "k", "many", "drawn"]
abbrev b__law_pick : S := PL.b__law_pick
abbrev f__law_pick : List D → Res D := PL.fPick
def N__law_small : List Str := ["script", "at", "most", "made", "x", "y", "k", "wide"]
def N__law_det : List Str := ["one", "other"]
def N__law_way : List Str := ["one", "other"]
def N__law_track : List Str := ["script", "at", "most", "many", "wide", "time", "x", "y", "made", "k"]
def N_law : List Str := ["script", "track", "corners", "around", "kept", "less", "k", "one", "other", "x", "y", "place"]
def b_law : S :=
  (.cons (.set true 1 (.ite (.prim pEq (.cons (.call "_law_pick" f__law_pick (.cons (.v 0) (.cons (.c (.int 0)) (.cons (.c (.int 2)) .nil)))) (.cons (.c (.int 0)) .nil))) (.call "_law_small" f__law_small (.cons (.v 0) (.cons (.c (.int 10)) (.cons (.c (.int 12)) .nil)))) (.call "_law_track" f__law_track (.cons (.v 0) (.cons (.c (.int 10)) (.cons (.c (.int 12)) .nil))))))
  (.cons (.set true 2 (.call "hull" f_hull (.cons (.v 1) .nil)))
  (.cons (.set true 3 (.prim pTupleOf (.cons (.comp [("k", 6), ("x", 9), ("y", 10)] (.pr 6 [9, 10]) (.enum (.v 2)) .none (.prim pTup (.cons (.v 6) (.cons (.v 9) (.cons (.v 10) .nil))))) .nil)))
  (.cons (.ite (.or (.prim pNe (.cons (.call "hull" f_hull (.cons (.v 3) .nil)) (.cons (.v 2) .nil))) (.prim pNe (.cons (.call "crossings" f_crossings (.cons (.v 3) .nil)) (.cons (.prim pLst .nil) .nil))))
  (.cons (.ret (.c (.bl false)))
  .nil)
  .nil)
  (.cons (.ite (.prim pNe (.cons (.prim pGt (.cons (.call "twice_area" f_twice_area (.cons (.v 3) .nil)) (.cons (.c (.int 0)) .nil))) (.cons (.prim pGt (.cons (.prim pLen (.cons (.v 2) .nil)) (.cons (.c (.int 2)) .nil))) .nil)))
  (.cons (.ret (.c (.bl false)))
  .nil)
  .nil)
  (.cons (.set true 4 (.prim pTupleOf (.cons (.comp [("k", 6)] (.name 6) (.rng (.cons (.prim pLen (.cons (.v 1) .nil)) .nil)) (.some (.prim pGt (.cons (.call "_law_pick" f__law_pick (.cons (.v 0) (.cons (.prim pAdd (.cons (.c (.int 200)) (.cons (.v 6) .nil))) (.cons (.c (.int 3)) .nil)))) (.cons (.c (.int 0)) .nil)))) (.v 6)) .nil)))
  (.cons (.ite (.prim pEq (.cons (.v 4) (.cons (.prim pTup .nil) .nil)))
  (.cons (.ret (.c (.bl true)))
  .nil)
  .nil)
  (.cons (.set true 5 (.call "hull" f_hull (.cons (.call "points_of" f_points_of (.cons (.v 1) (.cons (.v 4) .nil))) .nil)))
  (.cons (.ite (.prim pGt (.cons (.call "twice_area" f_twice_area (.cons (.prim pTupleOf (.cons (.comp [("k", 6), ("x", 9), ("y", 10)] (.pr 6 [9, 10]) (.enum (.v 5)) .none (.prim pTup (.cons (.v 6) (.cons (.v 9) (.cons (.v 10) .nil))))) .nil)) .nil)) (.cons (.call "twice_area" f_twice_area (.cons (.v 3) .nil)) .nil)))
  (.cons (.ret (.c (.bl false)))
  .nil)
  .nil)
  (.cons (.ite (.prim pLt (.cons (.prim pLen (.cons (.v 2) .nil)) (.cons (.c (.int 3)) .nil)))
  (.cons (.ret (.prim pEq (.cons (.comp [("place", 11)] (.name 11) (.seq (.v 5)) (.some (.not (.chain .LtE .LtE opLeP opLeP (.prim pIx (.cons (.v 2) (.cons (.c (.int 0)) .nil))) (.v 11) (.prim pIx (.cons (.v 2) (.cons (.prim pNeg (.cons (.c (.int 1)) .nil)) .nil)))))) (.v 11)) (.cons (.prim pLst .nil) .nil))))
  .nil)
  .nil)
  (.cons (.for_ (.name 6) (.rng (.cons (.prim pLen (.cons (.v 2) .nil)) .nil))
  (.cons (.par true [(false, 7), (false, 8)] (.cons (.prim pIx (.cons (.v 2) (.cons (.prim pSub (.cons (.v 6) (.cons (.c (.int 1)) .nil))) .nil))) (.cons (.prim pIx (.cons (.v 2) (.cons (.v 6) .nil))) .nil)))
  (.cons (.ite (.prim pNe (.cons (.comp [("place", 11)] (.name 11) (.seq (.v 5)) (.some (.prim pLt (.cons (.call "_law_det" f__law_det (.cons (.call "_law_way" f__law_way (.cons (.v 7) (.cons (.v 8) .nil))) (.cons (.call "_law_way" f__law_way (.cons (.v 7) (.cons (.v 11) .nil))) .nil))) (.cons (.c (.int 0)) .nil)))) (.v 11)) (.cons (.prim pLst .nil) .nil)))
  (.cons (.ret (.c (.bl false)))
  .nil)
  .nil)
  .nil)))
  (.cons (.ret (.prim pEq (.cons (.comp [("place", 11)] (.name 11) (.seq (.v 2)) (.some (.and (.prim pIn (.cons (.v 11) (.cons (.comp [("k", 6)] (.name 6) (.seq (.v 4)) .none (.prim pSlL (.cons (.prim pIx (.cons (.v 1) (.cons (.v 6) .nil))) (.cons (.c (.int 1)) .nil)))) .nil))) (.prim pNi (.cons (.v 11) (.cons (.v 5) .nil))))) (.v 11)) (.cons (.prim pLst .nil) .nil))))
  .nil))))))))))))

end Pk32
namespace Pk32
open PySem PySem.Spec PyProof.Rows PL
open L2 hiding ltP prD R2 trk
open PL.B3 (sh_prs)
theorem chains {m g : P2} {r : List P2} (h : (m :: r).Pairwise ltP) (hg : (m :: r).getLast? = some g) (hr : r ≠ []) : ∃ T1 T2, LH (m :: r) = m :: T1 ++ [g] ∧ UH (m :: r) = g :: T2 ++ [m] ∧ hullP (m :: r) = m :: T1 ++ g :: T2 := by
  have hmg := mg_lt h hg hr
  have gm : g ∈ m :: r := List.mem_of_getLast? hg
  obtain ⟨A, eA⟩ := List.getLast?_eq_some_iff.mp (LH_last h hg)
  obtain ⟨B, eB⟩ := List.getLast?_eq_some_iff.mp (UH_last h)
  have hA : ∃ T1, A = m :: T1 := by
    have mL : m ∈ LH (m :: r) := mem_LH.mpr ⟨List.mem_cons_self, low_first h⟩
    cases A with
    | nil =>
      rw [eA] at mL
      have : m = g := by simpa using mL
      rw [this] at hmg
      exact absurd hmg (ltP_irr g)
    | cons a T1 =>
      have aL : a ∈ LH (m :: r) := by rw [eA]; simp
      rcases first_le (P := r) h (mem_LH.mp aL).1 with z | z
      · exact ⟨T1, by rw [z]⟩
      · have pw := LH_pw h
        rw [eA] at pw mL
        rcases List.mem_cons.mp mL with w | w
        · rw [w] at z; exact absurd z (ltP_irr a)
        · exact absurd (ltP_tr z (List.rel_of_pairwise_cons pw w)) (ltP_irr m)
  have hB : ∃ T2, B = g :: T2 := by
    have gU : g ∈ UH (m :: r) := mem_UH.mpr ⟨gm, up_last h hg⟩
    cases B with
    | nil =>
      rw [eB] at gU
      have : g = m := by simpa using gU
      rw [this] at hmg
      exact absurd hmg (ltP_irr m)
    | cons b T2 =>
      have bU : b ∈ UH (m :: r) := by rw [eB]; simp
      rcases last_ge h hg (mem_UH.mp bU).1 with z | z
      · exact ⟨T2, by rw [z]⟩
      · have pw := UH_pw h
        rw [eB] at pw gU
        rcases List.mem_cons.mp gU with w | w
        · rw [w] at z; exact absurd z (ltP_irr b)
        · exact absurd (ltP_tr (List.rel_of_pairwise_cons pw w) z) (ltP_irr g)
  obtain ⟨T1, rfl⟩ := hA
  obtain ⟨T2, rfl⟩ := hB
  refine ⟨T1, T2, eA, eB, ?_⟩
  unfold hullP
  rw [if_neg (by rw [List.length_cons]; have := List.length_pos_iff.mpr hr; omega), eA, eB, List.dropLast_concat, List.dropLast_concat]
theorem cons_at {l : List P2} {i : Nat} {a b : P2} (h1 : l[i]? = some a) (h2 : l[i + 1]? = some b) : Cons l a b := by
  have hi : i + 1 < l.length := (List.getElem?_eq_some_iff.mp h2).1
  refine ⟨l.take i, l.drop (i + 2), ?_⟩
  have d1 : l.drop i = a :: l.drop (i + 1) := by
    rw [List.drop_eq_getElem_cons (by omega)]
    congr 1
    rw [List.getElem?_eq_getElem (by omega)] at h1
    exact Option.some.inj h1
  have d2 : l.drop (i + 1) = b :: l.drop (i + 2) := by
    rw [List.drop_eq_getElem_cons hi]
    congr 1
    rw [List.getElem?_eq_getElem hi] at h2
    exact Option.some.inj h2
  rw [← d2, ← d1, List.take_append_drop]
theorem around {m g : P2} {r : List P2} (h : (m :: r).Pairwise ltP) (hg : (m :: r).getLast? = some g) (hr : r ≠ []) {x : P2} (hx : x ∈ m :: r) (hn : crs m g x ≠ 0) :
    3 ≤ (hullP (m :: r)).length ∧ ∀ k < (hullP (m :: r)).length, ∃ a b c, (hullP (m :: r))[(k + (hullP (m :: r)).length - 1) % (hullP (m :: r)).length]? = some a ∧ (hullP (m :: r))[k]? = some b ∧ (hullP (m :: r))[(k + 1) % (hullP (m :: r)).length]? = some c ∧ 0 < crs a b c ∧ ∀ q ∈ m :: r, 0 ≤ crs a b q := by
  obtain ⟨T1, T2, eL, eU, eT⟩ := chains h hg hr
  have hmg := mg_lt h hg hr
  have gm : g ∈ m :: r := List.mem_of_getLast? hg
  have edge : ∀ {a b}, Cons (hullP (m :: r) ++ [m]) a b → Cons (LH (m :: r)) a b ∨ Cons (UH (m :: r)) a b := fun {a b} c => by
    rw [eT] at c
    have : m :: T1 ++ g :: T2 ++ [m] = (m :: T1) ++ g :: (T2 ++ [m]) := by simp
    rw [this] at c
    rcases cons_split c with z | z
    · exact .inl (by rw [eL]; exact z)
    · exact .inr (by rw [eU]; exact z)
  have memL : ∀ {a b}, Cons (LH (m :: r)) a b → (a ∈ LH (m :: r)) ∧ b ∈ LH (m :: r) := fun {a b} ⟨A, B, e⟩ => by rw [e]; simp
  have memU : ∀ {a b}, Cons (UH (m :: r)) a b → (a ∈ UH (m :: r)) ∧ b ∈ UH (m :: r) := fun {a b} ⟨A, B, e⟩ => by rw [e]; simp
  have big : 3 ≤ (hullP (m :: r)).length := by
    apply Classical.byContradiction
    intro hs
    rw [eT] at hs
    simp only [List.length_append, List.length_cons] at hs
    have t1 : T1 = [] := List.length_eq_zero_iff.mp (by omega)
    have t2 : T2 = [] := List.length_eq_zero_iff.mp (by omega)
    rw [t1] at eL
    rw [t2] at eU
    have a1 := (supp_LH h (a := m) (b := g) ⟨[], [], eL⟩).2 x hx
    have a2 := (supp_UH h (a := g) (b := m) ⟨[], [], eU⟩).2 x hx
    have : crs g m x = - crs m g x := by unfold crs; grind
    omega
  refine ⟨big, fun k hk => ?_⟩
  have h0 : (hullP (m :: r))[0]? = some m := by rw [eT]; rfl
  generalize hT : hullP (m :: r) = T at *
  have nx : ∀ i, i < T.length → ∃ a b, T[i]? = some a ∧ T[(i + 1) % T.length]? = some b ∧ Cons (T ++ [m]) a b := fun i hi => by
    obtain ⟨a, ha⟩ : ∃ a, T[i]? = some a := ⟨T[i], List.getElem?_eq_getElem hi⟩
    have ha' : (T ++ [m])[i]? = some a := by rw [List.getElem?_append_left hi]; exact ha
    by_cases z : i + 1 < T.length
    · obtain ⟨b, hb⟩ : ∃ b, T[i + 1]? = some b := ⟨T[i + 1], List.getElem?_eq_getElem z⟩
      exact ⟨a, b, ha, by rw [Nat.mod_eq_of_lt z]; exact hb, cons_at ha' (by rw [List.getElem?_append_left z]; exact hb)⟩
    · have e : i + 1 = T.length := by omega
      refine ⟨a, m, ha, by rw [e, Nat.mod_self]; exact h0, cons_at ha' ?_⟩
      rw [e, List.getElem?_append_right (Nat.le_refl _), Nat.sub_self]; rfl
  have hp : (k + T.length - 1) % T.length < T.length := Nat.mod_lt _ (by omega)
  have back : ((k + T.length - 1) % T.length + 1) % T.length = k := by
    by_cases z : k = 0
    · subst z
      rw [Nat.mod_eq_of_lt (show 0 + T.length - 1 < T.length by omega), show 0 + T.length - 1 + 1 = T.length by omega, Nat.mod_self]
    · have : (k + T.length - 1) % T.length = k - 1 := by
        rw [show k + T.length - 1 = (k - 1) + T.length by omega, Nat.add_mod_right, Nat.mod_eq_of_lt (by omega)]
      rw [this, show k - 1 + 1 = k by omega, Nat.mod_eq_of_lt hk]
  obtain ⟨a, b, ha, hb, c1⟩ := nx _ hp
  rw [back] at hb
  obtain ⟨b', c, hb', hc, c2⟩ := nx k hk
  rw [hb] at hb'
  obtain rfl := Option.some.inj hb'
  refine ⟨a, b, c, ha, hb, hc, ?_⟩
  rcases edge c1 with e1 | e1
  · obtain ⟨l1, s1⟩ := supp_LH h e1
    refine ⟨?_, s1⟩
    rcases edge c2 with e2 | e2
    · obtain ⟨l2, s2⟩ := supp_LH h e2
      exact (mem_LH.mp (memL e1).2).2 a (mem_LH.mp (memL e1).1).1 c (mem_LH.mp (memL e2).2).1 l1 l2
    · obtain ⟨l2, s2⟩ := supp_UH h e2
      exact turn_g l1 l2 s1 s2 (mem_UH.mp (memU e2).2).1 List.mem_cons_self gm hx hn
  · obtain ⟨l1, s1⟩ := supp_UH h e1
    refine ⟨?_, s1⟩
    rcases edge c2 with e2 | e2
    · obtain ⟨l2, s2⟩ := supp_LH h e2
      exact turn_m l1 l2 s1 s2 (mem_LH.mp (memL e2).2).1 List.mem_cons_self gm hx hn
    · obtain ⟨l2, s2⟩ := supp_UH h e2
      exact (mem_UH.mp (memU e1).2).2 a (mem_UH.mp (memU e1).1).1 c (mem_UH.mp (memU e2).2).1 l1 l2
theorem flat_hull {m g : P2} {r : List P2} (h : (m :: r).Pairwise ltP) (hg : (m :: r).getLast? = some g) (hr : r ≠ []) (hf : ∀ q ∈ m :: r, crs m g q = 0) : hullP (m :: r) = [m, g] := by
  obtain ⟨T1, T2, eL, eU, eT⟩ := chains h hg hr
  have gm : g ∈ m :: r := List.mem_of_getLast? hg
  have hmg := mg_lt h hg hr
  have t1 : T1 = [] := by
    cases T1 with
    | nil => rfl
    | cons a T1 =>
      exfalso
      have pw := LH_pw h
      have aL : a ∈ LH (m :: r) := by rw [eL]; simp
      rw [eL] at pw
      have la : ltP m a := List.rel_of_pairwise_cons pw (by simp)
      have lg : ltP a g := List.rel_of_pairwise_cons pw.of_cons (by simp)
      have := (mem_LH.mp aL).2 m List.mem_cons_self g gm la lg
      have z := hf a (mem_LH.mp aL).1
      rw [crs_swap, z] at this
      omega
  have t2 : T2 = [] := by
    cases T2 with
    | nil => rfl
    | cons a T2 =>
      exfalso
      have pw := UH_pw h
      have aU : a ∈ UH (m :: r) := by rw [eU]; simp
      rw [eU] at pw
      have la : ltP a g := List.rel_of_pairwise_cons pw (by simp)
      have lm : ltP m a := List.rel_of_pairwise_cons pw.of_cons (by simp)
      have := (mem_UH.mp aU).2 g gm m List.mem_cons_self la lm
      have z := hf a (mem_UH.mp aU).1
      have e : crs g a m = crs m g a := by unfold crs; grind
      omega
  rw [eT, t1, t2]; rfl
theorem hull_head {m : P2} {r : List P2} (h : (m :: r).Pairwise ltP) : (hullP (m :: r))[0]? = some m := by
  by_cases hr : r = []
  · rw [hr]; rfl
  · obtain ⟨g, hg⟩ : ∃ g, (m :: r).getLast? = some g := ⟨_, List.getLast?_eq_some_getLast (by simp)⟩
    obtain ⟨T1, T2, _, _, eT⟩ := chains h hg hr
    rw [eT]; rfl
theorem nodup_ss {l : List P2} (h : l.Nodup) : (ssP l).length = l.length := ((List.perm_ext_iff_of_nodup (nd_of (ssP_pw l)) h).mpr fun x => ssP_mem x l).length_eq
/-! ## few corners, all of them corners -/
theorem len_sub {α : Type} : ∀ {l P : List α}, l.Nodup → (∀ x ∈ l, x ∈ P) → l.length ≤ P.length
  | [], _, _, _ => Nat.zero_le _
  | a :: r, P, n, h => by
    obtain ⟨A, B, e⟩ := List.append_of_mem (h a List.mem_cons_self)
    have n' := List.nodup_cons.mp n
    have := len_sub (l := r) (P := A ++ B) n'.2 fun x hx => by
      have hx' := h x (List.mem_cons_of_mem _ hx)
      rw [e] at hx'
      rcases List.mem_append.mp hx' with z | z
      · exact List.mem_append_left _ z
      · rcases List.mem_cons.mp z with w | w
        · rw [w] at hx; exact absurd hx n'.1
        · exact List.mem_append_right _ w
    rw [e, List.length_cons, List.length_append, List.length_cons]
    rw [List.length_append] at this
    omega
theorem hull_len {P : List P2} (h : P.Pairwise ltP) : (hullP P).length ≤ P.length := len_sub (hull_nodup h) fun x hx => hull_sub hx
/-- what is on neither side is no corner -/
theorem hull_side {m : P2} {r : List P2} (h : (m :: r).Pairwise ltP) {p : P2} (hp : p ∈ hullP (m :: r)) : LowP (m :: r) p ∨ UpP (m :: r) p := by
  by_cases hr : r = []
  · subst hr
    have : p ∈ [m] := hp
    rw [List.mem_singleton] at this
    rw [this]; exact .inl (low_first h)
  · obtain ⟨g, hg⟩ : ∃ g, (m :: r).getLast? = some g := ⟨_, List.getLast?_eq_some_getLast (by simp)⟩
    rcases (mem_hull h hg hr).mp hp with z | z
    · exact .inl z.2.1
    · exact .inr z.2.1
theorem crs_rot (a b c : P2) : crs b c a = crs a b c := by unfold crs; grind
theorem crs_rev (a b c : P2) : crs b a c = - crs a b c := by unfold crs; grind
theorem mid_ne {P : List P2} {a p b : P2} (ha : a ∈ P) (hb : b ∈ P) (h1 : ltP a p) (h2 : ltP p b) (s : LowP P p ∨ UpP P p) : crs a p b ≠ 0 := by
  rcases s with s | s
  · have := s a ha b hb h1 h2; omega
  · have := s b hb a ha h2 h1
    have e : crs b p a = - crs a p b := by unfold crs; grind
    omega
/-- three corners are never in one line -/
theorem three_ne {m : P2} {r : List P2} (h : (m :: r).Pairwise ltP) {a b c : P2} (ha : a ∈ hullP (m :: r)) (hb : b ∈ hullP (m :: r)) (hc : c ∈ hullP (m :: r)) (ab : a ≠ b) (ac : a ≠ c) (bc : b ≠ c) : crs a b c ≠ 0 := by
  have sa := hull_side h ha
  have sb := hull_side h hb
  have sc := hull_side h hc
  have pa := hull_sub ha
  have pb := hull_sub hb
  have pc := hull_sub hc
  have r1 : crs b c a = crs a b c := crs_rot a b c
  have r2 : crs c a b = crs a b c := by rw [← crs_rot]
  have r3 : crs b a c = - crs a b c := crs_rev a b c
  have r4 : crs c b a = - crs a b c := by rw [crs_rev b c a, r1]
  have r5 : crs a c b = - crs a b c := by rw [crs_rev c a b, r2]
  rcases ltP_tri a b with x | x | x
  · rcases ltP_tri b c with y | y | y
    · exact mid_ne pa pc x y sb
    · exact absurd y bc
    · rcases ltP_tri a c with z | z | z
      · have := mid_ne pa pb z y sc; omega
      · exact absurd z ac
      · have := mid_ne pc pb z x sa; omega
  · exact absurd x ab
  · rcases ltP_tri a c with y | y | y
    · have := mid_ne pb pc x y sa; omega
    · exact absurd y ac
    · rcases ltP_tri b c with z | z | z
      · have := mid_ne pb pa z y sc; omega
      · exact absurd z bc
      · have := mid_ne pc pa z x sb; omega
/-! ## the corners of the corners -/
theorem first_of {P : List P2} (h : P.Pairwise ltP) {m : P2} (hm : m ∈ P) (hl : ∀ p ∈ P, p = m ∨ ltP m p) : ∃ r, P = m :: r := by
  cases P with
  | nil => cases hm
  | cons a r =>
    refine ⟨r, ?_⟩
    rcases hl a List.mem_cons_self with z | z
    · rw [z]
    · rcases first_le (P := r) h hm with w | w
      · rw [w]
      · exact absurd (ltP_tr z w) (ltP_irr m)
theorem hull_again {P : List P2} (h : P.Pairwise ltP) : hullP (ssP (hullP P)) = hullP P := by
  match P, h with
  | [], _ => rfl
  | [m], _ => rfl
  | m :: b :: r, h =>
    obtain ⟨g, hg⟩ : ∃ g, (m :: b :: r).getLast? = some g := ⟨_, List.getLast?_eq_some_getLast (by simp)⟩
    have hmg := mg_lt h hg (by simp)
    have mem := fun p => mem_hull h hg (p := p) (by simp)
    have pwQ := ssP_pw (hullP (m :: b :: r))
    have memQ := fun p => ssP_mem p (hullP (m :: b :: r))
    have hm : m ∈ hullP (m :: b :: r) := (mem m).mpr (.inl ⟨List.mem_cons_self, low_first h, fun z => by rw [z] at hmg; exact ltP_irr g hmg⟩)
    have hgm : g ∈ hullP (m :: b :: r) := (mem g).mpr (.inr ⟨List.mem_of_getLast? hg, up_last h hg, fun z => by rw [z] at hmg; exact ltP_irr m hmg⟩)
    generalize hQ : ssP (hullP (m :: b :: r)) = Q at pwQ memQ ⊢
    have qm : m ∈ Q := (memQ m).mpr hm
    have qg : g ∈ Q := (memQ g).mpr hgm
    have sub : ∀ p ∈ Q, p ∈ m :: b :: r := fun p hp => hull_sub ((memQ p).mp hp)
    have eL : LH Q = LH (m :: b :: r) := pw_ext (LH_pw pwQ) (LH_pw h) fun p => by
      rw [mem_LH, mem_LH]
      constructor
      · rintro ⟨h1, h2⟩
        refine ⟨sub p h1, ?_⟩
        rcases hull_side h ((memQ p).mp h1) with z | z
        · exact z
        · rcases first_le (P := b :: r) h (sub p h1) with w | w
          · rw [w]; exact low_first h
          · rcases last_ge h hg (sub p h1) with v | v
            · rw [v]; exact low_last h hg
            · refine absurd ?_ id
              exact not_both qm qg w v h2 fun a ha c hc => z a (sub a ha) c (sub c hc)
      · rintro ⟨h1, h2⟩
        refine ⟨(memQ p).mpr ?_, fun a ha c hc => h2 a (sub a ha) c (sub c hc)⟩
        by_cases e : p = g
        · rw [e]; exact hgm
        · exact (mem p).mpr (.inl ⟨h1, h2, e⟩)
    have eU : UH Q = UH (m :: b :: r) := by
      have : (UH Q).reverse = (UH (m :: b :: r)).reverse := pw_ext (List.pairwise_reverse.mpr (UH_pw pwQ)) (List.pairwise_reverse.mpr (UH_pw h)) fun p => by
        rw [List.mem_reverse, List.mem_reverse, mem_UH, mem_UH]
        constructor
        · rintro ⟨h1, h2⟩
          refine ⟨sub p h1, ?_⟩
          rcases hull_side h ((memQ p).mp h1) with z | z
          · rcases first_le (P := b :: r) h (sub p h1) with w | w
            · rw [w]; exact up_first h
            · rcases last_ge h hg (sub p h1) with v | v
              · rw [v]; exact up_last h hg
              · refine absurd ?_ id
                exact not_both qm qg w v (fun a ha c hc => z a (sub a ha) c (sub c hc)) h2
          · exact z
        · rintro ⟨h1, h2⟩
          refine ⟨(memQ p).mpr ?_, fun a ha c hc => h2 a (sub a ha) c (sub c hc)⟩
          by_cases e : p = m
          · rw [e]; exact hm
          · exact (mem p).mpr (.inr ⟨h1, h2, e⟩)
      rw [← List.reverse_reverse (UH Q), this, List.reverse_reverse]
    have lQ : Q.length ≠ 1 := fun z => by
      cases Q with
      | nil => cases qm
      | cons a s =>
        have : s = [] := List.length_eq_zero_iff.mp (by rw [List.length_cons] at z; omega)
        rw [this, List.mem_singleton] at qm qg
        rw [qm, qg] at hmg
        exact ltP_irr a hmg
    unfold hullP
    rw [if_neg lQ, if_neg (by simp), eL, eU]
/-! ## around, below and above -/
def sg : List P2 → Int
  | a :: b :: r => det a b + sg (b :: r)
  | _ => 0
theorem sg_cut (b : P2) (ys : List P2) : ∀ xs : List P2, sg (xs ++ b :: ys) = sg (xs ++ [b]) + sg (b :: ys)
  | [] => by show sg (b :: ys) = 0 + sg (b :: ys); omega
  | [a] => by show det a b + sg (b :: ys) = det a b + 0 + sg (b :: ys); omega
  | a :: c :: xs => by
    show det a c + sg ((c :: xs) ++ b :: ys) = det a c + sg ((c :: xs) ++ [b]) + sg (b :: ys)
    rw [sg_cut b ys (c :: xs)]; omega
theorem sg_two (xs : List P2) (e b : P2) : sg (xs ++ [e, b]) = sg (xs ++ [e]) + det e b := by
  rw [sg_cut e [b] xs]
  show _ + (det e b + 0) = _
  omega
theorem crs_three (a b c : P2) : crs a b c = det a b + det b c + det c a := by unfold crs det; grind
theorem det_self (a : P2) : det a a = 0 := by unfold det; grind
theorem det_anti (a b : P2) : det a b = - det b a := by unfold det; grind
/-- from a on, along the line a b: below -/
theorem chord_step (a b : P2) : ∀ (C : List P2) (c e : P2), (c :: C).Pairwise ltP → (∀ x ∈ c :: C, 0 ≤ crs a b x) → (c :: C).getLast? = some e →
    (b.1 - a.1) * (sg (c :: C) + det a c + det e a) ≤ (e.1 - a.1) * crs a b e - (c.1 - a.1) * crs a b c
  | [], c, e, _, _, hl => by
    have : c = e := by simpa using hl
    subst this
    show (b.1 - a.1) * (0 + det a c + det c a) ≤ _
    rw [det_anti c a]
    have : (0 + det a c + -det a c) = 0 := by omega
    rw [this, Int.mul_zero, Int.sub_self]; exact Int.le_refl _
  | d :: C, c, e, hp, hs, hl => by
    have ih := chord_step a b C d e hp.of_cons (fun x hx => hs x (List.mem_cons_of_mem _ hx)) (by rw [List.getLast?_cons_cons] at hl; exact hl)
    have lcd : ltP c d := List.rel_of_pairwise_cons hp List.mem_cons_self
    have h1 : 0 ≤ d.1 - c.1 := by unfold ltP at lcd; omega
    have h2 := hs c List.mem_cons_self
    have h3 := hs d (by simp)
    have k := Int.mul_nonneg h1 (Int.add_nonneg h2 h3)
    have id1 : (b.1 - a.1) * (det c d + det a c - det a d) = (d.1 - a.1) * crs a b d - (c.1 - a.1) * crs a b c - (d.1 - c.1) * (crs a b c + crs a b d) := by unfold det crs; grind
    have e1 : sg (c :: d :: C) = det c d + sg (d :: C) := rfl
    rw [e1]
    have e2 : (b.1 - a.1) * (det c d + sg (d :: C) + det a c + det e a) = (b.1 - a.1) * (sg (d :: C) + det a d + det e a) + (b.1 - a.1) * (det c d + det a c - det a d) := by
      rw [← Int.mul_add]; congr 1; omega
    rw [e2, id1]
    omega
theorem flat_x (a : P2) : ∀ (C : List P2) (c e : P2), (∀ x ∈ c :: C, x.1 = a.1) → (c :: C).getLast? = some e → sg (c :: C) + det a c + det e a = 0
  | [], c, e, _, hl => by
    have : c = e := by simpa using hl
    subst this
    show 0 + det a c + det c a = 0
    rw [det_anti c a]; omega
  | d :: C, c, e, hs, hl => by
    have ih := flat_x a C d e (fun x hx => hs x (List.mem_cons_of_mem _ hx)) (by rw [List.getLast?_cons_cons] at hl; exact hl)
    have h1 := hs c List.mem_cons_self
    have h2 := hs d (by simp)
    have e1 : sg (c :: d :: C) = det c d + sg (d :: C) := rfl
    rw [e1]
    have k : det c d + det a c - det a d = 0 := by unfold det; rw [h1, h2]; grind
    omega
theorem chord {a b : P2} {C : List P2} (hp : (a :: C).Pairwise ltP) (hs : ∀ x ∈ a :: C, 0 ≤ crs a b x) (hl : (a :: C).getLast? = some b) : sg (a :: C) ≤ det a b := by
  have k := chord_step a b C a b hp hs hl
  have z : crs a b b = 0 := by unfold crs; grind
  rw [z, Int.mul_zero, Int.sub_self, Int.zero_mul, Int.sub_zero, det_self, Int.add_zero] at k
  have le : a = b ∨ ltP a b := by
    rcases last_ge hp hl List.mem_cons_self with w | w
    · exact .inl w
    · exact .inr w
  by_cases x : a.1 < b.1
  · have : ¬ 0 < sg (a :: C) + det b a := fun y => by
      have := Int.mul_pos (show 0 < b.1 - a.1 by omega) y
      omega
    rw [det_anti b a] at this
    omega
  · have hx : ∀ y ∈ a :: C, y.1 = a.1 := fun y hy => by
      have h1 := last_ge hp hl hy
      have h2 := first_le (P := C) hp hy
      unfold ltP at h1 h2 le
      rcases h1 with rfl | h1 <;> rcases h2 with rfl | h2 <;> rcases le with e | le <;> (try rw [e] at *) <;> omega
    have := flat_x a C a b hx hl
    rw [det_self, det_anti b a] at this
    omega
theorem split_at (b : P2) : ∀ C : List P2, C.Pairwise ltP → ∃ C1 C2, C = C1 ++ C2 ∧ (∀ c ∈ C1, ltP c b) ∧ (∀ c ∈ C2, c = b ∨ ltP b c)
  | [], _ => ⟨[], [], rfl, fun _ z => (nomatch z), fun _ z => (nomatch z)⟩
  | c :: C, h => by
    rcases ltP_tri c b with x | x | x
    · obtain ⟨C1, C2, e, h1, h2⟩ := split_at b C h.of_cons
      refine ⟨c :: C1, C2, by rw [e]; rfl, fun y hy => ?_, h2⟩
      rcases List.mem_cons.mp hy with rfl | hy
      · exact x
      · exact h1 y hy
    · refine ⟨[], c :: C, rfl, fun _ z => (nomatch z), fun y hy => ?_⟩
      rcases List.mem_cons.mp hy with rfl | hy
      · exact .inl x
      · rw [← x]; exact .inr (List.rel_of_pairwise_cons h hy)
    · refine ⟨[], c :: C, rfl, fun _ z => (nomatch z), fun y hy => ?_⟩
      rcases List.mem_cons.mp hy with rfl | hy
      · exact .inr x
      · exact .inr (ltP_tr x (List.rel_of_pairwise_cons h hy))
/-- no chain from end to end goes lower than the low side -/
theorem low_best {P : List P2} : ∀ (L : List P2) (a : P2), (a :: L).Pairwise ltP → (∀ p ∈ L, LowP P p) → (∀ x y, Cons (a :: L) x y → ∀ q ∈ P, 0 ≤ crs x y q) → ∀ C : List P2, (a :: C).Pairwise ltP → (∀ c ∈ a :: C, c ∈ P) → (∀ c ∈ L, c ∈ P) → (a :: C).getLast? = (a :: L).getLast? → sg (a :: C) ≤ sg (a :: L)
  | [], a, _, _, _, C, hC, _, _, hl => by
    cases C with
    | nil => exact Int.le_refl _
    | cons c C =>
      have hl' : (a :: c :: C).getLast? = some a := hl
      rcases last_ge hC hl' (show c ∈ a :: c :: C by simp) with z | z
      · have := List.rel_of_pairwise_cons hC (List.mem_cons_self (a := c) (l := C))
        rw [z] at this
        exact absurd this (ltP_irr a)
      · exact absurd (ltP_tr (List.rel_of_pairwise_cons hC (List.mem_cons_self (a := c) (l := C))) z) (ltP_irr a)
  | b :: L, a, hL, low, sup, C, hC, cP, lP, hl => by
    have lab : ltP a b := List.rel_of_pairwise_cons hL List.mem_cons_self
    obtain ⟨g, hg⟩ : ∃ g, (b :: L).getLast? = some g := ⟨_, List.getLast?_eq_some_getLast (by simp)⟩
    rw [List.getLast?_cons_cons, hg] at hl
    have bg : b = g ∨ ltP b g := last_ge hL.of_cons hg List.mem_cons_self
    obtain ⟨C1, C2, e, h1, h2⟩ := split_at b C hC.of_cons
    subst e
    have bP : b ∈ P := lP b List.mem_cons_self
    have ih := low_best (P := P) L b hL.of_cons (fun p hp => low p (List.mem_cons_of_mem _ hp)) (fun x y ⟨A, B, e⟩ => sup x y ⟨a :: A, B, by rw [e]; rfl⟩)
    -- the left part, up to b
    have hpw := List.pairwise_append.mp (show ((a :: C1) ++ C2).Pairwise ltP from hC)
    have pw1 : (a :: (C1 ++ [b])).Pairwise ltP := by
      show ((a :: C1) ++ [b]).Pairwise ltP
      refine List.pairwise_append.mpr ⟨hpw.1, .cons (fun _ z => nomatch z) .nil, fun x hx y hy => ?_⟩
      rw [List.mem_singleton] at hy
      rw [hy]
      rcases List.mem_cons.mp hx with rfl | hx
      · exact lab
      · exact h1 x hx
    have left := chord (a := a) (b := b) (C := C1 ++ [b]) pw1 (fun x hx => sup a b ⟨[], L, rfl⟩ x (by
      rcases List.mem_cons.mp hx with rfl | hx
      · exact cP _ List.mem_cons_self
      · rcases List.mem_append.mp hx with hx | hx
        · exact cP x (by simp [hx])
        · rw [List.mem_singleton] at hx; rw [hx]; exact bP)) (by rw [show a :: (C1 ++ [b]) = (a :: C1) ++ [b] from rfl, List.getLast?_append]; rfl)
    have lb : sg (a :: b :: L) = det a b + sg (b :: L) := rfl
    cases C2 with
    | nil =>
      exfalso
      rw [List.append_nil] at hl hC
      rcases List.mem_cons.mp (List.mem_of_getLast? hl) with z | z
      · rcases bg with w | w
        · rw [w, z] at lab; exact ltP_irr _ lab
        · rw [z] at w; exact ltP_irr _ (ltP_tr lab w)
      · have := h1 g z
        rcases bg with w | w
        · rw [w] at this; exact ltP_irr _ this
        · exact ltP_irr _ (ltP_tr this w)
    | cons d C2 =>
      have hl2 : (d :: C2).getLast? = some g := by
        rw [show a :: (C1 ++ d :: C2) = (a :: C1) ++ d :: C2 from rfl, List.getLast?_append] at hl
        rw [List.getLast?_eq_some_getLast (show d :: C2 ≠ [] by simp)] at hl ⊢
        exact hl
      have pd : ∀ c ∈ d :: C2, c ∈ P := fun c hc => cP c (List.mem_cons_of_mem _ (List.mem_append_right _ hc))
      have e0 : sg (a :: (C1 ++ d :: C2)) = sg ((a :: C1) ++ [d]) + sg (d :: C2) := sg_cut d C2 (a :: C1)
      rcases h2 d List.mem_cons_self with z | z
      · subst z
        have := ih C2 hpw.2.1 pd (fun c hc => lP c (List.mem_cons_of_mem _ hc)) (by rw [hl2, hg])
        have l2 : sg ((a :: C1) ++ [d]) ≤ det a d := left
        omega
      · have pw2 : (b :: d :: C2).Pairwise ltP := by
          refine .cons (fun x hx => ?_) hpw.2.1
          rcases List.mem_cons.mp hx with rfl | hx
          · exact z
          · exact ltP_tr z (List.rel_of_pairwise_cons hpw.2.1 hx)
        have k := ih (d :: C2) pw2 (fun c hc => by
          rcases List.mem_cons.mp hc with rfl | hc
          · exact bP
          · exact pd c hc) (fun c hc => lP c (List.mem_cons_of_mem _ hc)) (by rw [List.getLast?_cons_cons, hl2, hg])
        obtain ⟨D, x, ex⟩ : ∃ D x, a :: C1 = D ++ [x] := ⟨(a :: C1).dropLast, (a :: C1).getLast (by simp), (List.dropLast_concat_getLast (by simp)).symm⟩
        have xm : x ∈ a :: C1 := by rw [ex]; simp
        have lx : ltP x b := by
          rcases List.mem_cons.mp xm with rfl | hx
          · exact lab
          · exact h1 x hx
        have xP : x ∈ P := by
          rcases List.mem_cons.mp xm with rfl | hx
          · exact cP _ List.mem_cons_self
          · exact cP x (by simp [hx])
        have turn := low b List.mem_cons_self x xP d (pd d List.mem_cons_self) lx z
        rw [crs_three] at turn
        have s1 : sg ((a :: C1) ++ [d]) = sg (D ++ [x]) + det x d := by rw [ex, List.append_assoc]; exact sg_two D x d
        have s2 : sg ((a :: C1) ++ [b]) = sg (D ++ [x]) + det x b := by rw [ex, List.append_assoc]; exact sg_two D x b
        have s3 : sg (b :: d :: C2) = det b d + sg (d :: C2) := rfl
        have s4 : det d x = - det x d := det_anti d x
        have l2 : sg ((a :: C1) ++ [b]) ≤ det a b := left
        omega
/-! ## less: no greater around -/
theorem LH_head {m : P2} {r : List P2} (h : (m :: r).Pairwise ltP) : ∃ L, LH (m :: r) = m :: L := by
  unfold LH
  rw [List.filter_cons_of_pos (by rw [decide_eq_true (low_first h)])]
  exact ⟨_, rfl⟩
theorem low_area {P K : List P2} {m m' g g' : P2} {r s : List P2} (h : P.Pairwise ltP) (hK : K.Pairwise ltP) (sub : ∀ x ∈ K, x ∈ P) (eP : P = m :: r) (eK : K = m' :: s) (hg : P.getLast? = some g) (hg' : K.getLast? = some g') : det m m' + sg (LH K) + det g' g ≤ sg (LH P) := by
  have mP : m ∈ P := by rw [eP]; exact List.mem_cons_self
  have gP : g ∈ P := List.mem_of_getLast? hg
  have mK : m' ∈ K := by rw [eK]; exact List.mem_cons_self
  have gK : g' ∈ K := List.mem_of_getLast? hg'
  have lastL := LH_last h hg
  have lastK := LH_last hK hg'
  obtain ⟨L, eL⟩ : ∃ L, LH P = m :: L := by rw [eP] at h ⊢; exact LH_head h
  obtain ⟨L', eL'⟩ : ∃ L', LH K = m' :: L' := by rw [eK] at hK ⊢; exact LH_head hK
  have pwL := LH_pw h
  have pwK := LH_pw hK
  -- in front
  have front : ∃ C, (m :: C).Pairwise ltP ∧ (∀ c ∈ m :: C, c = m ∨ c ∈ K) ∧ (m :: C).getLast? = some g' ∧ sg (m :: C) = det m m' + sg (LH K) := by
    have fl : m' = m ∨ ltP m m' := by rw [eP] at h; exact first_le (P := r) h (by rw [← eP]; exact sub m' mK)
    rcases fl with z | z
    · refine ⟨L', ?_, ?_, ?_, ?_⟩
      · rw [← z, ← eL']; exact pwK
      · intro c hc
        rw [← z, ← eL'] at hc
        exact .inr (mem_LH.mp hc).1
      · rw [← z, ← eL']; exact lastK
      · rw [← z, det_self, ← eL']; omega
    · refine ⟨LH K, ?_, ?_, ?_, ?_⟩
      · rw [eL'] at pwK ⊢
        refine .cons (fun x hx => ?_) pwK
        rcases List.mem_cons.mp hx with rfl | hx
        · exact z
        · exact ltP_tr z (List.rel_of_pairwise_cons pwK hx)
      · intro c hc
        rcases List.mem_cons.mp hc with rfl | hc
        · exact .inl rfl
        · exact .inr (mem_LH.mp hc).1
      · rw [eL', List.getLast?_cons_cons, ← eL']; exact lastK
      · rw [eL']; rfl
  obtain ⟨C, c1, c2, c3, c4⟩ := front
  have back : ∃ C', (m :: C').Pairwise ltP ∧ (∀ c ∈ m :: C', c ∈ P) ∧ (m :: C').getLast? = some g ∧ sg (m :: C') = sg (m :: C) + det g' g := by
    have inP : ∀ c ∈ m :: C, c ∈ P := fun c hc => by
      rcases c2 c hc with rfl | z
      · exact mP
      · exact sub c z
    rcases last_ge h hg (sub g' gK) with z | z
    · exact ⟨C, c1, inP, by rw [← z]; exact c3, by rw [z, det_self]; omega⟩
    · refine ⟨C ++ [g], ?_, ?_, ?_, ?_⟩
      · show ((m :: C) ++ [g]).Pairwise ltP
        refine List.pairwise_append.mpr ⟨c1, .cons (fun _ z => nomatch z) .nil, fun x hx y hy => ?_⟩
        rw [List.mem_singleton] at hy
        rw [hy]
        rcases last_ge c1 c3 hx with w | w
        · rw [w]; exact z
        · exact ltP_tr w z
      · intro c hc
        rcases List.mem_append.mp (show c ∈ (m :: C) ++ [g] from hc) with hc | hc
        · exact inP c hc
        · rw [List.mem_singleton] at hc; rw [hc]; exact gP
      · show ((m :: C) ++ [g]).getLast? = some g
        rw [List.getLast?_append]; rfl
      · obtain ⟨D, e⟩ := List.getLast?_eq_some_iff.mp c3
        show sg ((m :: C) ++ [g]) = _
        rw [e, List.append_assoc]
        exact sg_two D g' g
  obtain ⟨C', d1, d2, d3, d4⟩ := back
  have := low_best (P := P) L m (by rw [← eL]; exact pwL) (fun p hp => (mem_LH.mp (show p ∈ LH P by rw [eL]; exact List.mem_cons_of_mem _ hp)).2) (fun x y c q hq => (supp_LH h (by rw [eL]; exact c)).2 q hq) C' d1 d2 (fun c hc => (mem_LH.mp (show c ∈ LH P by rw [eL]; exact List.mem_cons_of_mem _ hc)).1) (by rw [d3, ← eL, lastL])
  rw [eL]
  omega
theorem sg_ng : ∀ l : List P2, sg (l.map ng) = sg l
  | [] => rfl
  | [_] => rfl
  | a :: b :: r => by
    show det (ng a) (ng b) + sg ((b :: r).map ng) = det a b + sg (b :: r)
    rw [sg_ng (b :: r)]
    have : det (ng a) (ng b) = det a b := by unfold det ng; grind
    rw [this]
theorem rev_last {P : List P2} {m : P2} {r : List P2} (e : P = m :: r) : (P.reverse.map ng).getLast? = some (ng m) := by
  rw [e]; simp
theorem rev_head {P : List P2} {g : P2} (h : P.getLast? = some g) : ∃ r, P.reverse.map ng = ng g :: r := by
  obtain ⟨r, e⟩ := List.getLast?_eq_some_iff.mp h
  rw [e]; exact ⟨r.reverse.map ng, by simp⟩
theorem area_less {P K : List P2} (h : P.Pairwise ltP) (hK : K.Pairwise ltP) (sub : ∀ x ∈ K, x ∈ P) (ne : K ≠ []) : sg (LH K) + sg (UH K) ≤ sg (LH P) + sg (UH P) := by
  obtain ⟨m', s, eK⟩ : ∃ m' s, K = m' :: s := by
    cases K with
    | nil => exact absurd rfl ne
    | cons a s => exact ⟨a, s, rfl⟩
  obtain ⟨m, r, eP⟩ : ∃ m r, P = m :: r := by
    cases P with
    | nil => have := sub m' (by rw [eK]; exact List.mem_cons_self); cases this
    | cons a s => exact ⟨a, s, rfl⟩
  obtain ⟨g, hg⟩ : ∃ g, P.getLast? = some g := by rw [eP]; exact ⟨_, List.getLast?_eq_some_getLast (by simp)⟩
  obtain ⟨g', hg'⟩ : ∃ g', K.getLast? = some g' := by rw [eK]; exact ⟨_, List.getLast?_eq_some_getLast (by simp)⟩
  have lo := low_area h hK sub eP eK hg hg'
  obtain ⟨r2, e2⟩ := rev_head hg
  obtain ⟨s2, f2⟩ := rev_head hg'
  have up := low_area (rev_ng h) (rev_ng hK) (fun x hx => by
    obtain ⟨y, hy, rfl⟩ := List.mem_map.mp hx
    exact List.mem_map.mpr ⟨y, List.mem_reverse.mpr (sub y (List.mem_reverse.mp hy)), rfl⟩) e2 f2 (rev_last eP) (rev_last eK)
  rw [← UH_ng h, ← UH_ng hK, sg_ng, sg_ng] at up
  have a1 : det (ng g) (ng g') = det g g' := by unfold det ng; grind
  have a2 : det (ng m') (ng m) = det m' m := by unfold det ng; grind
  rw [a1, a2, det_anti g g', det_anti m' m] at up
  omega
/-! ## the corners as a track -/
def arT : Nat → List P2 → List P3
  | _, [] => []
  | i, a :: r => ((i : Int), a) :: arT (i + 1) r
theorem ar_len : ∀ (i : Nat) (T : List P2), (arT i T).length = T.length
  | _, [] => rfl
  | i, a :: r => by show (arT (i + 1) r).length + 1 = _; rw [ar_len (i + 1) r]; rfl
theorem ar_pts : ∀ (i : Nat) (T : List P2), pts (arT i T) = T
  | _, [] => rfl
  | i, a :: r => by show a :: pts (arT (i + 1) r) = _; rw [ar_pts (i + 1) r]
theorem ar_mem : ∀ (i : Nat) (T : List P2) (p : P3), p ∈ arT i T → (i : Int) ≤ p.1 ∧ p.1 < (i : Int) + (T.length : Int) ∧ p.2 ∈ T
  | _, [], p, h => nomatch h
  | i, a :: r, p, h => by
    rcases List.mem_cons.mp h with rfl | h
    · exact ⟨Int.le_refl _, by rw [List.length_cons]; show (i : Int) < _; omega, List.mem_cons_self⟩
    · obtain ⟨h1, h2, h3⟩ := ar_mem (i + 1) r p h
      exact ⟨by omega, by rw [List.length_cons]; omega, List.mem_cons_of_mem _ h3⟩
theorem ar_rise : ∀ (i : Nat) (T : List P2), Rise (arT i T)
  | _, [] => trivial
  | _, [_] => trivial
  | i, a :: b :: r => ⟨by show (i : Int) < ((i + 1 : Nat) : Int); omega, ar_rise (i + 1) (b :: r)⟩
theorem ar_good {l : List P3} (G : Good l) {T : List P2} (sub : ∀ c ∈ T, ∃ p ∈ l, p.2 = c) (h1 : 1 ≤ T.length) (h2 : T.length ≤ l.length) : Good (arT 0 T) := by
  have := G.le
  refine ⟨by rw [ar_len]; exact h1, by rw [ar_len]; omega, fun p hp => ?_, ar_rise 0 T⟩
  obtain ⟨a, b, c⟩ := ar_mem 0 T p hp
  obtain ⟨q, hq, e⟩ := sub _ c
  have := G.pt q hq
  unfold InPt at *
  rw [e] at this
  omega
theorem ar_seg (f : P3) : ∀ (i : Nat) (T : List P2), T ≠ [] → B2.segF f (arT i T) = sg (T ++ [f.2])
  | _, [], h => absurd rfl h
  | i, [a], _ => by
    show B2.cr ((i : Int), a) f = det a f.2 + 0
    rw [Int.add_zero]; rfl
  | i, a :: b :: r, _ => by
    show B2.cr ((i : Int), a) (((i + 1 : Nat) : Int), b) + B2.segF f (arT (i + 1) (b :: r)) = det a b + sg ((b :: r) ++ [f.2])
    rw [ar_seg f (i + 1) (b :: r) (by simp)]; rfl
theorem ar_area {m : P2} {T : List P2} : B2.area (arT 0 (m :: T)) = sg (m :: T ++ [m]) := ar_seg ((0 : Nat), m) 0 (m :: T) (by simp)
theorem area_is {P : List P2} (h : P.Pairwise ltP) (ne : P ≠ []) : B2.area (arT 0 (hullP P)) = sg (LH P) + sg (UH P) := by
  match P, h, ne with
  | [m], h, _ =>
    have e1 : LH [m] = [m] := by
      unfold LH
      rw [List.filter_cons_of_pos (by rw [decide_eq_true (low_first h)])]; rfl
    have e2 : UH [m] = [m] := by
      unfold UH
      show List.filter _ [m] = _
      rw [List.filter_cons_of_pos (by rw [decide_eq_true (up_first h)])]; rfl
    rw [e1, e2]
    show B2.area (arT 0 (m :: [])) = 0
    rw [ar_area]
    show det m m + 0 = 0
    rw [det_self]; rfl
  | m :: b :: r, h, _ =>
    obtain ⟨g, hg⟩ : ∃ g, (m :: b :: r).getLast? = some g := ⟨_, List.getLast?_eq_some_getLast (by simp)⟩
    obtain ⟨T1, T2, eL, eU, eT⟩ := chains h hg (by simp)
    rw [eT, eL, eU, List.cons_append, ar_area]
    have : m :: (T1 ++ g :: T2) ++ [m] = (m :: T1) ++ g :: (T2 ++ [m]) := by simp
    rw [this, sg_cut]; rfl
theorem edge {m : P2} {r : List P2} (h : (m :: r).Pairwise ltP) {x y : P2} (c : Cons (hullP (m :: r) ++ [m]) x y) : ∀ q ∈ m :: r, 0 ≤ crs x y q := by
  by_cases hr : r = []
  · subst hr
    intro q hq
    obtain ⟨A, B, e⟩ := c
    have e' : [m, m] = A ++ x :: y :: B := e
    have hx : x ∈ [m, m] := by rw [e']; simp
    have hy : y ∈ [m, m] := by rw [e']; simp
    have x1 : x = m := by simpa using hx
    have y1 : y = m := by simpa using hy
    rw [x1, y1]
    have : crs m m q = 0 := by unfold crs; grind
    omega
  · obtain ⟨g, hg⟩ : ∃ g, (m :: r).getLast? = some g := ⟨_, List.getLast?_eq_some_getLast (by simp)⟩
    obtain ⟨T1, T2, eL, eU, eT⟩ := chains h hg hr
    rw [eT] at c
    have : m :: T1 ++ g :: T2 ++ [m] = (m :: T1) ++ g :: (T2 ++ [m]) := by simp
    rw [this] at c
    rcases cons_split c with z | z
    · exact (supp_LH h (by rw [eL]; exact z)).2
    · exact (supp_UH h (by rw [eU]; exact z)).2
theorem cons_app {l : List P2} {x y : P2} (z : P2) (h : Cons l x y) : Cons (l ++ [z]) x y := by
  obtain ⟨A, B, e⟩ := h
  exact ⟨A, B ++ [z], by rw [e]; simp⟩
theorem cons_mem {l : List P2} {x y : P2} (h : Cons l x y) : x ∈ l ∧ y ∈ l := by
  obtain ⟨A, B, e⟩ := h
  rw [e]; simp
theorem cons_ne {l : List P2} {x y : P2} (n : l.Nodup) (h : Cons l x y) : x ≠ y := by
  obtain ⟨A, B, e⟩ := h
  rw [e] at n
  have := (List.nodup_cons.mp (List.nodup_append.mp n).2.1).1
  intro z
  rw [z] at this
  exact this List.mem_cons_self
/-- another corner is at the left -/
theorem edge_pos {m : P2} {r : List P2} (h : (m :: r).Pairwise ltP) {x y z : P2} (c : Cons (hullP (m :: r)) x y) (hz : z ∈ hullP (m :: r)) (h1 : z ≠ x) (h2 : z ≠ y) : 0 < crs x y z := by
  have a := edge h (cons_app m c) z (hull_sub hz)
  obtain ⟨mx, my⟩ := cons_mem c
  have b := three_ne h mx my hz (cons_ne (hull_nodup h) c) (fun e => h1 e.symm) (fun e => h2 e.symm)
  omega
theorem ds_pos (f : P3) : ∀ (i : Nat) (l : List P2), (∀ x y, Cons l x y → 0 < crs f.2 x y) → 0 ≤ B2.dsum f (arT i l) ∧ (2 ≤ l.length → 0 < B2.dsum f (arT i l))
  | _, [], _ => ⟨Int.le_refl _, fun z => absurd z (by decide)⟩
  | _, [_], _ => ⟨Int.le_refl _, fun z => absurd z (by simp)⟩
  | i, a :: b :: r, h => by
    have ih := ds_pos f (i + 1) (b :: r) fun x y ⟨A, B, e⟩ => h x y ⟨a :: A, B, by rw [e]; rfl⟩
    have k := h a b ⟨[], r, rfl⟩
    have e : B2.dsum f (arT i (a :: b :: r)) = crs f.2 a b + B2.dsum f (arT (i + 1) (b :: r)) := rfl
    rw [e]
    exact ⟨by omega, fun _ => by omega⟩
theorem area_pos {P : List P2} (h : P.Pairwise ltP) (ne : P ≠ []) : decide (B2.area (arT 0 (hullP P)) > 0) = decide ((((hullP P).length : Nat) : Int) > 2) := by
  apply decide_eq_decide.mpr
  obtain ⟨m, r, eP⟩ : ∃ m r, P = m :: r := by
    cases P with
    | nil => exact absurd rfl ne
    | cons a s => exact ⟨a, s, rfl⟩
  subst eP
  have nd := hull_nodup h
  have ep := fun {x y z} => edge_pos h (x := x) (y := y) (z := z)
  cases hT : hullP (m :: r) with
  | nil => exact ⟨fun z => absurd z (by show ¬ (0 : Int) > 0; omega), fun z => absurd z (by show ¬ ((0 : Nat) : Int) > 2; omega)⟩
  | cons t s =>
    rw [hT] at nd ep
    have e : B2.area (arT 0 (t :: s)) = B2.dsum ((0 : Nat), t) (arT 1 s) := B2.area_dsum ((0 : Nat), t) (arT 1 s)
    rw [e]
    have d := ds_pos ((0 : Nat), t) 1 s fun x y c => by
      obtain ⟨mx, my⟩ := cons_mem c
      have nt := (List.nodup_cons.mp nd).1
      obtain ⟨A, B, ec⟩ := c
      have := ep (x := x) (y := y) (z := t) ⟨t :: A, B, by rw [ec]; rfl⟩ List.mem_cons_self (fun z => nt (by rw [z]; exact mx)) (fun z => nt (by rw [z]; exact my))
      have q : crs t x y = crs x y t := (crs_rot t x y).symm
      show 0 < crs t x y
      omega
    rw [List.length_cons]
    constructor
    · intro z
      match s with
      | [] => exact absurd z (by show ¬ (0 : Int) > 0; omega)
      | [_] => exact absurd z (by show ¬ (0 : Int) > 0; omega)
      | a :: b :: s => rw [List.length_cons, List.length_cons]; omega
    · intro z
      exact d.2 (by omega)
theorem ar_at {T : List P2} {i : Nat} (h : i < T.length) : T[i]? = some (B3.pt (arT 0 T) i) := by
  have e : T = pts (arT 0 T) := (ar_pts 0 T).symm
  have g := at3_get (l := arT 0 T) (i := i) (by rw [ar_len]; exact h)
  conv => lhs; rw [e]
  unfold pts
  rw [List.getElem?_map, g]; rfl
theorem nd_ne {l : List P2} (nd : l.Nodup) {i j : Nat} (hi : i < l.length) (hj : j < l.length) (n : i ≠ j) : l[i] ≠ l[j] := by
  have := List.pairwise_iff_getElem.mp nd
  rcases Nat.lt_or_gt_of_ne n with z | z
  · exact this i j hi hj z
  · exact fun e => this j i hj hi z e.symm
theorem no_cross {P : List P2} (h : P.Pairwise ltP) : B3.crossT (arT 0 (hullP P)) = [] := by
  cases P with
  | nil => rfl
  | cons m r =>
    have nd := hull_nodup h
    have ep := fun {x y z} => edge_pos h (x := x) (y := y) (z := z)
    generalize hullP (m :: r) = T at *
    cases e : B3.crossT (arT 0 T) with
    | nil => rfl
    | cons q s =>
      exfalso
      obtain ⟨i, j, _, h1, h2, hc⟩ := B3.mem_cross.mp (show q ∈ B3.crossT (arT 0 T) by rw [e]; exact List.mem_cons_self)
      rw [ar_len] at h2
      unfold B3.cmb at hc
      have hc := of_decide_eq_true hc
      have a1 := ar_at (T := T) (i := i) (by omega)
      have a2 := ar_at (T := T) (i := i + 1) (by omega)
      have a3 := ar_at (T := T) (i := j) (by omega)
      have a4 := ar_at (T := T) (i := j + 1) (by omega)
      generalize B3.pt (arT 0 T) i = A at *
      generalize B3.pt (arT 0 T) (i + 1) = B at *
      generalize B3.pt (arT 0 T) j = C at *
      generalize B3.pt (arT 0 T) (j + 1) = E at *
      have ne : ∀ {x y : Nat} {a b : P2}, T[x]? = some a → T[y]? = some b → x ≠ y → a ≠ b := fun {x y a b} hx hy n z => by
        have hx' := (List.getElem?_eq_some_iff.mp hx)
        have hy' := (List.getElem?_eq_some_iff.mp hy)
        obtain ⟨lx, ex⟩ := hx'
        obtain ⟨ly, ey⟩ := hy'
        exact nd_ne nd lx ly n (by rw [ex, ey, z])
      have c1 := cons_at a1 a2
      have c2 := cons_at a3 a4
      have mA := List.mem_of_getElem? a1
      have mB := List.mem_of_getElem? a2
      have mC := List.mem_of_getElem? a3
      have mE := List.mem_of_getElem? a4
      have k1 := ep c1 mC (ne a3 a1 (by omega)) (ne a3 a2 (by omega))
      have k2 := ep c1 mE (ne a4 a1 (by omega)) (ne a4 a2 (by omega))
      have k3 := ep c2 mA (ne a1 a3 (by omega)) (ne a1 a4 (by omega))
      have k4 := ep c2 mB (ne a2 a3 (by omega)) (ne a2 a4 (by omega))
      have q1 : B3.cro A B C = crs A B C := rfl
      have q2 : B3.cro A B E = crs A B E := rfl
      have q3 : B3.cro C E A = crs C E A := rfl
      have q4 : B3.cro C E B = crs C E B := rfl
      unfold B3.Com B3.Opp at hc
      rw [q1, q2, q3, q4] at hc
      omega
/-- a corner that is kept is a corner of what is kept -/
theorem kept_corner {P K : List P2} (h : P.Pairwise ltP) (hK : K.Pairwise ltP) (sub : ∀ x ∈ K, x ∈ P) {p : P2} (hp : p ∈ hullP P) (pK : p ∈ K) : p ∈ hullP K := by
  match K, hK, sub, pK with
  | [a], _, _, pK => exact pK
  | a :: b :: s, hK, sub, pK =>
    obtain ⟨m, r, eP⟩ : ∃ m r, P = m :: r := by
      cases P with
      | nil => cases hp
      | cons a s => exact ⟨a, s, rfl⟩
    subst eP
    obtain ⟨g, hg⟩ : ∃ g, (a :: b :: s).getLast? = some g := ⟨_, List.getLast?_eq_some_getLast (by simp)⟩
    have hag := mg_lt hK hg (by simp)
    refine (mem_hull hK hg (by simp)).mpr ?_
    by_cases e1 : p = g
    · refine .inr ⟨pK, by rw [e1]; exact up_last hK hg, fun z => ?_⟩
      rw [← e1, z] at hag
      exact ltP_irr _ hag
    · by_cases e2 : p = a
      · exact .inl ⟨pK, by rw [e2]; exact low_first hK, e1⟩
      · rcases hull_side h hp with z | z
        · exact .inl ⟨pK, fun x hx y hy => z x (sub x hx) y (sub y hy), e1⟩
        · exact .inr ⟨pK, fun x hx y hy => z x (sub x hx) y (sub y hy), e2⟩
/-! ## the walk -/
def castL (c : List Nat) : List Int := c.map fun (k : Nat) => (k : Int)
theorem tupN_cast (c : List Nat) : tupN c = .tup ((castL c).map D.int) := by
  unfold tupN castL
  rw [List.map_map]; rfl
theorem rng_n {n : Nat} (h : n ≤ 1000) : rngD [.int ((n : Nat) : Int)] = .ok ((List.range n).map fun (k : Nat) => D.int (k : Int)) := by
  show (if okZ ((n : Nat) : Int) = true then Res.ok (rangeD 0 ((n : Nat) : Int)) else Res.stuck) = _
  have hz : okZ ((n : Nat) : Int) = true := by unfold okZ; rw [decide_eq_true (by omega), decide_eq_true (by omega)]; rfl
  rw [hz]
  show Res.ok (rangeD 0 ((n : Nat) : Int)) = _
  unfold rangeD
  rw [Int.sub_zero, Int.toNat_natCast]
  refine congrArg Res.ok (List.map_congr_left fun k _ => ?_)
  rw [Int.zero_add]
theorem are_whole {n : Nat} {c : List Nat} (h : ∀ x ∈ c, x < n) : ((c.map fun (k : Nat) => D.int (k : Int)).all fun d => wholeB d 0 ((n : Int) - 1)) = true := by
  rw [List.all_eq_true]
  intro d hd
  obtain ⟨k, hk, rfl⟩ := List.mem_map.mp hd
  have := h k hk
  show (decide (0 ≤ (k : Int)) && decide ((k : Int) ≤ (n : Int) - 1)) = true
  rw [decide_eq_true (by omega), decide_eq_true (by omega)]; rfl
theorem ix_trk {T : List P3} {k : Nat} (h : k < T.length) : opIx (trk T) (.int (k : Int)) = some (ptD (at3 T k)) := by
  show atI (T.map ptD) (k : Int) = _
  rw [atN, List.getElem?_map, List.getElem?_eq_getElem h]
  unfold at3; rw [List.getD_eq_getElem?_getD, List.getElem?_eq_getElem h]; rfl
theorem kept_all {T : List P3} {l : List D} (hT : T.length ≤ 12) (hl : l.length ≤ 1000) (pl : ∀ x ∈ l, x.pl = true) {d : D} (hd : d = .tup l) : ev (.prim pAll (.cons (.comp [("one", 2)] (.name 2) (.seq (.v 1)) .none (.call "is_whole" f_is_whole (.cons (.v 2) (.cons (.c (.int 0)) (.cons (.prim pSub (.cons (.prim pLen (.cons (.v 0) .nil)) (.cons (.c (.int 1)) .nil))) .nil))))) .nil)) (full [.ro (trk T), .ro d, .no]) = .ok (.bl (l.all fun d => wholeB d 0 ((T.length : Int) - 1))) := by
  subst hd
  exact e1 (ecomp l id (fun d => .bl (wholeB d 0 ((T.length : Int) - 1))) (iseq (x := .tup l) rfl (by rw [List.map_id]; rfl)) hl fun x hx => ⟨_, rfl, ec (lc rfl (lc ki (lc (esub (e1 (x := trk T) rfl (len_trk T)) ki) l0))) (whole_any (pl x hx) _ _)⟩) (all_map _ _)
theorem sh_lstI (a : List Int) : Sh 1 (.lst (a.map D.int)) := Sh.lst (n := 0) fun d hd => by
  obtain ⟨x, _, rfl⟩ := List.mem_map.mp hd
  exact Sh.int 0 x
theorem kept_ok {T : List P3} {c : List Nat} (hT : T.length ≤ 12) (hc : c.length ≤ 60) (hx : ∀ x ∈ c, x < T.length) (ne : c ≠ []) (up : c.Pairwise (· < ·)) : f_are_kept [trk T, tupN c] = .ok (.bl true) := by
  have eq0 : opEq (tupN c) (.tup []) = some (.bl c.isEmpty) := (eq_nilT (sh_tupN c) (by decide)).trans (by rw [List.isEmpty_map])
  have e : c.isEmpty = false := by
    cases c with
    | nil => exact absurd rfl ne
    | cons a r => rfl
  rw [e] at eq0
  obtain ⟨d, hd⟩ : ∃ d, d = tupN c := ⟨_, rfl⟩
  have ka := kept_all (T := T) (l := c.map fun (k : Nat) => D.int (k : Int)) (d := d) hT (by rw [List.length_map]; omega) (fun x hx => by obtain ⟨k, _, rfl⟩ := List.mem_map.mp hx; rfl) hd
  rw [are_whole hx] at ka
  rw [← hd] at eq0 ⊢
  refine rcall rfl (riteF (s := [.ro (trk T), .ro d, .no]) (eorF (enT (e1 (x := d) rfl (by rw [hd]; rfl))) (eorF (e2 (x := d) (y := .tup []) rfl rfl eq0) (enT ka))) ?_)
  have l1 : opListOf d = some (.lst ((castL c).map D.int)) := by rw [hd, tupN_cast]; rfl
  have pc : (castL c).Pairwise (· < ·) := by
    unfold castL
    rw [List.pairwise_map]
    exact up.imp fun {a b} z => by omega
  have l2 : opSortedSetU d = some (.lst ((castL c).map D.int)) := by
    rw [hd, tupN_cast]
    show ((intsD ((castL c).map D.int)).bind fun ns => if ns.length < 64 then some (D.lst ((ssI ns).map D.int)) else none) = _
    rw [intsD_map]
    show (if (castL c).length < 64 then some (D.lst ((ssI (castL c)).map D.int)) else none) = _
    rw [if_pos (by unfold castL; rw [List.length_map]; omega), ← ssI_is (l := castL c) pc fun x => Iff.rfl]
  exact rret (e2 (e1 (x := d) rfl l1) (e1 (x := d) rfl l2) (eq_refl (sh_lstI _) (by decide)))
def ptsK (T : List P3) (c : List Nat) : List P3 := c.map fun k => at3 T k
theorem ptsK_trk (T : List P3) (c : List Nat) : trk (ptsK T c) = .tup (c.map fun k => ptD (at3 T k)) := by unfold trk ptsK; rw [List.map_map]; rfl
theorem pts_ok {T : List P3} {c : List Nat} (G : Good T) (hc : c.length ≤ 60) (ch : c ≠ []) (up : c.Pairwise (· < ·)) (hx : ∀ x ∈ c, x < T.length) : f_points_of [trk T, tupN c] = .ok (trk (ptsK T c)) := by
  have k := kept_ok (T := T) (c := c) G.le hc hx ch up
  obtain ⟨d, hd⟩ : ∃ d, d = tupN c := ⟨_, rfl⟩
  rw [← hd] at k ⊢
  refine rcall rfl (rexpr (s := [.ro (trk T), .ro d, .no]) (ec (lc rfl l0) (look_ok G)) (riteF (s := [.ro (trk T), .ro d, .no]) (enT (ec (lc rfl (lc rfl l0)) k)) (rret (e1 (ecomp c (fun (k : Nat) => D.int (k : Int)) (fun k => ptD (at3 T k)) (iseq (x := d) rfl (by rw [hd]; rfl)) (by omega) fun x hx' => ⟨_, rfl, e2 (x := trk T) (y := .int (x : Nat)) rfl rfl (ix_trk (hx x hx'))⟩) (by rw [ptsK_trk]; rfl)))))
theorem at3_mem {T : List P3} {k : Nat} (h : k < T.length) : at3 T k ∈ T := List.mem_of_getElem? (at3_get h)
theorem rise_at {T : List P3} (h : Rise T) {i j : Nat} (hij : i < j) (hj : j < T.length) : (at3 T i).1 < (at3 T j).1 := by
  have p := List.pairwise_iff_getElem.mp (rise_pw h) i j (by omega) hj hij
  have a := at3_get (l := T) (i := i) (by omega)
  have b := at3_get (l := T) (i := j) hj
  rw [List.getElem?_eq_getElem (by omega)] at a b
  rw [← Option.some.inj a, ← Option.some.inj b]
  exact p
theorem ptsK_good {T : List P3} {c : List Nat} (G : Good T) (ch : c ≠ []) (up : c.Pairwise (· < ·)) (hx : ∀ x ∈ c, x < T.length) (hl : c.length ≤ T.length) : Good (ptsK T c) := by
  have := G.le
  refine ⟨?_, ?_, fun p hp => ?_, ?_⟩
  · unfold ptsK
    rw [List.length_map]
    exact List.length_pos_iff.mpr ch
  · unfold ptsK
    rw [List.length_map]; omega
  · obtain ⟨k, hk, rfl⟩ := List.mem_map.mp hp
    exact G.pt _ (at3_mem (hx k hk))
  · refine pw_rise ?_
    unfold ptsK
    rw [List.pairwise_map]
    refine List.Pairwise.imp_of_mem (R := fun a b => a < b) (fun {a b} ha hb h => ?_) up
    exact rise_at G.up h (hx b hb)
theorem way_ok (a b : P2) : f__law_way [PL.prD a, PL.prD b] = .ok (PL.prD (b.1 - a.1, b.2 - a.2)) :=
  rcall rfl (rret (en (lc (esub (e2 (x := PL.prD b) rfl ki rfl) (e2 (x := PL.prD a) rfl ki rfl)) (lc (esub (e2 (x := PL.prD b) rfl ki rfl) (e2 (x := PL.prD a) rfl ki rfl)) l0)) rfl))
theorem det_ok {u v : P2} (hu : -2000 ≤ u.1 ∧ u.1 ≤ 2000 ∧ -2000 ≤ u.2 ∧ u.2 ≤ 2000) : f__law_det [PL.prD u, PL.prD v] = .ok (.int (u.1 * v.2 - u.2 * v.1)) :=
  rcall rfl (rret (esub (emul (e2 (x := PL.prD u) rfl ki rfl) (e2 (x := PL.prD v) rfl ki rfl) (mul_small (by omega))) (emul (e2 (x := PL.prD u) rfl ki rfl) (e2 (x := PL.prD v) rfl ki rfl) (mul_small (by omega)))))
theorem dw_ok {a b c e f g h : E} {ρ : En} {A B C F : P2} (hA : SmP A) (hB : SmP B) (h1 : ev a ρ = .ok (PL.prD A)) (h2 : ev b ρ = .ok (PL.prD B)) (h3 : ev c ρ = .ok (PL.prD C)) (h4 : ev e ρ = .ok (PL.prD F)) :
    ev (.call "_law_det" f__law_det (.cons (.call "_law_way" f__law_way (.cons a (.cons b .nil))) (.cons (.call "_law_way" f__law_way (.cons c (.cons e .nil))) .nil))) ρ = .ok (.int ((B.1 - A.1) * (F.2 - C.2) - (B.2 - A.2) * (F.1 - C.1))) := by
  unfold SmP at hA hB
  exact ec (lc (ec (lc h1 (lc h2 l0)) (way_ok A B)) (lc (ec (lc h3 (lc h4 l0)) (way_ok C F)) l0)) (det_ok (by dsimp only; omega))

theorem enum_ar : ∀ (i : Nat) (T : List P2), enumD i (T.map PL.prD) = (arT i T).map fun p : P3 => D.tup [.int p.1, PL.prD p.2]
  | _, [] => rfl
  | i, a :: r => by
    show D.tup [.int (i : Nat), PL.prD a] :: enumD (i + 1) (r.map PL.prD) = _
    rw [enum_ar (i + 1) r]; rfl
theorem ar_comp {T : List P2} {i : Nat} {ρ : En} (hl : T.length ≤ 1000) (h : ev (.v i) ρ = .ok (.lst (T.map PL.prD))) (hr : ∀ d x y : D, ∃ ρ2, setTg (.pr 6 [9, 10]) (.tup [d, .tup [x, y]]) (wipeD ρ [6, 9, 10]) = .ok ρ2 ∧ ev (.v 6) ρ2 = .ok d ∧ ev (.v 9) ρ2 = .ok x ∧ ev (.v 10) ρ2 = .ok y) :
    ev (.prim pTupleOf (.cons (.comp [("k", 6), ("x", 9), ("y", 10)] (.pr 6 [9, 10]) (.enum (.v i)) .none (.prim pTup (.cons (.v 6) (.cons (.v 9) (.cons (.v 10) .nil))))) .nil)) ρ = .ok (trk (arT 0 T)) := by
  refine e1 (x := .lst ((arT 0 T).map ptD)) (ecomp (arT 0 T) (fun p : P3 => D.tup [.int p.1, PL.prD p.2]) ptD ?_ (by rw [ar_len]; exact hl) fun p _ => ?_) rfl
  · show (ev (.v i) ρ).bind enumItems = _
    rw [h]
    show Res.ok (enumD 0 (T.map PL.prD)) = _
    rw [enum_ar]
  · obtain ⟨ρ2, e0, e1', e2', e3'⟩ := hr (.int p.1) (.int p.2.1) (.int p.2.2)
    exact ⟨ρ2, e0, en (lc e1' (lc e2' (lc e3' l0))) rfl⟩
theorem in_pr (f : Bool → Bool) (c : P2) (P : List P2) : opInF f (PL.prD c) (.lst (P.map PL.prD)) = some (.bl (f (decide (c ∈ P)))) := by
  unfold opInF
  rw [(sh_pr2 c).shp (by decide), (sh_prs P).shp (by decide)]
  show some (D.bl (f ((P.map PL.prD).any fun z => deq z (PL.prD c)))) = _
  have : (P.map PL.prD).any (fun z => deq z (PL.prD c)) = decide (c ∈ P) := by
    rw [Bool.eq_iff_iff, List.any_eq_true, decide_eq_true_eq]
    constructor
    · rintro ⟨z, hz, e⟩
      obtain ⟨q, hq, rfl⟩ := List.mem_map.mp hz
      rw [dq_pr, decide_eq_true_eq] at e
      rw [← e]; exact hq
    · intro h
      exact ⟨PL.prD c, List.mem_map.mpr ⟨c, h, rfl⟩, by rw [dq_pr]; exact decide_eq_true rfl⟩
  rw [this]
theorem le_pr {a b : P2} (h : a = b ∨ ltP a b) : opLeP (PL.prD a) (PL.prD b) = some (.bl true) := by
  show some (D.bl (lePr a.1 a.2 b.1 b.2)) = _
  congr 2
  unfold lePr
  rcases h with rfl | h
  · rw [if_pos rfl]; exact decide_eq_true (Int.le_refl _)
  · unfold ltP at h
    split
    · exact decide_eq_true (by omega)
    · exact decide_eq_true (by omega)
theorem len_prs (T : List P2) : opLen (.lst (T.map PL.prD)) = some (.int (T.length : Nat)) := by
  show some (D.int ((T.map PL.prD).length : Nat)) = _
  rw [List.length_map]
def keptN (ns : List Int) (n : Nat) : List Nat := (List.range n).filter fun k => decide (pickI ns (200 + (k : Int)) 3 > 0)
theorem smA {l : List P3} (G : Good l) : SmA (ssP (pts l)) := fun p hp => by
  rw [ssP_mem] at hp
  obtain ⟨q, hq, rfl⟩ := List.mem_map.mp hp
  have := G.pt q hq
  unfold InPt at this
  unfold SmP
  omega
theorem cor_len (l : List P3) : (corners l).length ≤ l.length := by
  have a := hull_len (ssP_pw (pts l))
  have b := ssP_len (pts l)
  have c : (pts l).length = l.length := by unfold pts; rw [List.length_map]
  unfold corners
  omega
theorem ss_ne {l : List P3} (G : Good l) : ssP (pts l) ≠ [] := fun z => by
  have h1 := G.ne
  cases l with
  | nil => exact absurd h1 (by decide)
  | cons a l =>
    have : a.2 ∈ ssP (pts (a :: l)) := (ssP_mem _ _).mpr (by unfold pts; simp)
    rw [z] at this
    cases this
theorem cor_ne {l : List P3} (G : Good l) : 1 ≤ (corners l).length := by
  unfold corners
  have ne := ss_ne G
  have pw := ssP_pw (pts l)
  cases e : ssP (pts l) with
  | nil => exact absurd e ne
  | cons m r =>
    rw [e] at pw
    have := hull_head pw
    exact (List.getElem?_eq_some_iff.mp this).1
theorem cor_good {l : List P3} (G : Good l) : Good (arT 0 (corners l)) := ar_good G (fun c hc => corner_pt hc) (cor_ne G) (cor_len l)
abbrev kst (ns : List Int) (l A : List P3) (C : List P2) (X Y : Sl) (k a b : Sl) : SE := [.ro (.scr ns), .ro (trk l), .ro (.lst (C.map PL.prD)), .ro (trk A), X, Y, k, a, b, .no, .no, .no]
theorem round_loop {ns : List Int} {l A : List P3} {P S' : List P2} {m : P2} {r : List P2} {X : Sl} (eP : P = m :: r) (h : P.Pairwise ltP) (sm : SmA P) (sub : ∀ q ∈ S', q ∈ P) (sl : S'.length ≤ 1000) (tl : (hullP P).length ≤ 1000) : ∀ (js : List Nat), (∀ j ∈ js, j < (hullP P).length) → ∀ (K E F : Sl),
    ∃ K' E' F', forM (fun s => PL.run (S.loop (S.drop b_law 10)) s) (.name 6) (js.map fun (j : Nat) => D.int (j : Int)) (kst ns l A (hullP P) X (.ro (.lst (S'.map PL.prD))) K E F) = .nx (kst ns l A (hullP P) X (.ro (.lst (S'.map PL.prD))) K' E' F')
  | [], _, K, E, F => ⟨K, E, F, rfl⟩
  | j :: js, hj, K, E, F => by
    have hjl := hj j List.mem_cons_self
    have eT := fun {x y} => edge (m := m) (r := r) (x := x) (y := y) (by rw [← eP]; exact h)
    have hd := hull_head (m := m) (r := r) (by rw [← eP]; exact h)
    rw [← eP] at eT hd
    have subT : ∀ c ∈ hullP P, c ∈ P := fun c hc => hull_sub hc
    obtain ⟨K', E', F', ih⟩ := round_loop (ns := ns) (l := l) (A := A) (X := X) eP h sm sub sl tl js (fun x hx => hj x (List.mem_cons_of_mem _ hx)) (.ro (.int (j : Int)))
      (.ro (PL.prD (((hullP P)[((j + (hullP P).length - 1) % (hullP P).length)]?).getD (0, 0)))) (.ro (PL.prD (((hullP P)[j]?).getD (0, 0))))
    refine ⟨K', E', F', for_name (s1 := kst ns l A (hullP P) X (.ro (.lst (S'.map PL.prD))) (.ro (.int (j : Int))) (.ro (PL.prD (((hullP P)[((j + (hullP P).length - 1) % (hullP P).length)]?).getD (0, 0)))) (.ro (PL.prD (((hullP P)[j]?).getD (0, 0))))) ?_ ih⟩
    generalize hullP P = T at *
    have hp : (j + T.length - 1) % T.length < T.length := Nat.mod_lt _ (by omega)
    obtain ⟨a, ha⟩ : ∃ a, T[(j + T.length - 1) % T.length]? = some a := ⟨_, List.getElem?_eq_getElem hp⟩
    obtain ⟨b, hb⟩ : ∃ b, T[j]? = some b := ⟨_, List.getElem?_eq_getElem hjl⟩
    rw [ha, hb]
    show _ = Out.nx (kst ns l A T X (.ro (.lst (S'.map PL.prD))) (.ro (.int (j : Int))) (.ro (PL.prD a)) (.ro (PL.prD b)))
    have ma : SmP a := sm a (subT a (List.mem_of_getElem? ha))
    have mb : SmP b := sm b (subT b (List.mem_of_getElem? hb))
    have cons : Cons (T ++ [m]) a b := by
      by_cases z : j = 0
      · subst z
        have e : (0 + T.length - 1) % T.length = T.length - 1 := by
          rw [Nat.zero_add]; exact Nat.mod_eq_of_lt (by omega)
        rw [e] at ha
        have bm : b = m := by
          rw [hb] at hd
          exact Option.some.inj hd
        rw [bm]
        refine cons_at (i := T.length - 1) (by rw [List.getElem?_append_left (by omega)]; exact ha) ?_
        rw [show T.length - 1 + 1 = T.length by omega, List.getElem?_append_right (Nat.le_refl _), Nat.sub_self]; rfl
      · have e : (j + T.length - 1) % T.length = j - 1 := by rw [show j + T.length - 1 = (j - 1) + T.length by omega, Nat.add_mod_right, Nat.mod_eq_of_lt (by omega)]
        rw [e] at ha
        exact cons_app m (cons_at ha (by rw [show j - 1 + 1 = j by omega]; exact hb))
    have su := eT cons
    have x1 : opIx (.lst (T.map PL.prD)) (.int ((j : Int) - 1)) = some (PL.prD a) := by
      by_cases z : j = 0
      · subst z
        show atI (T.map PL.prD) (((0 : Nat) : Int) - 1) = _
        have e : (0 + T.length - 1) % T.length = T.length - 1 := by
          rw [Nat.zero_add]; exact Nat.mod_eq_of_lt (by omega)
        rw [e] at ha
        have : T.getLast? = some a := by rw [List.getLast?_eq_getElem?]; exact ha
        exact atI_last (getLast_map PL.prD this)
      · have e : (j + T.length - 1) % T.length = j - 1 := by rw [show j + T.length - 1 = (j - 1) + T.length by omega, Nat.add_mod_right, Nat.mod_eq_of_lt (by omega)]
        rw [e] at ha
        exact ix_lst (by omega) ha
    have x2 : opIx (.lst (T.map PL.prD)) (.int (j : Int)) = some (PL.prD b) := ix_lst rfl hb
    refine rpar (s := kst ns l A T X (.ro (.lst (S'.map PL.prD))) (.ro (.int (j : Int))) E F) (s' := kst ns l A T X (.ro (.lst (S'.map PL.prD))) (.ro (.int (j : Int))) (.ro (PL.prD a)) (.ro (PL.prD b))) (ds := [PL.prD a, PL.prD b]) (lc (e2 (x := .lst (T.map PL.prD)) rfl (esub rfl ki) x1) (lc (e2 (x := .lst (T.map PL.prD)) rfl rfl x2) l0)) rfl ?_
    refine riteF (s := kst ns l A T X (.ro (.lst (S'.map PL.prD))) (.ro (.int (j : Int))) (.ro (PL.prD a)) (.ro (PL.prD b))) (e2 (x := .lst []) (y := .lst []) ((ecompF S' PL.prD (fun _ => none) (iseqH (x := .lst (S'.map PL.prD)) rfl rfl) sl fun q hq => ⟨_, false, rfl, (elt (dw_ok (f := .v 0) (g := .v 0) (h := .v 0) ma mb rfl rfl rfl rfl) ki).trans (by rw [decide_eq_false (by have := su q (sub q hq); unfold crs at this; omega)]), fun _ => rfl, (fun z => nomatch z)⟩).trans (by simp)) rfl rfl) rfl
/-- what is behind the fewer points -/
theorem tail_ok {ns : List Int} {l k : List P3} {c : List Nat} (G : Good l) (Gk : Good k) (ek : k = ptsK l c) (hc : c.length ≤ 12) (hx : ∀ x ∈ c, x < l.length) :
    PL.run (S.drop b_law 8) (kst ns l (arT 0 (corners l)) (corners l) (.ro (tupN c)) (.ro (.lst ((corners k).map PL.prD))) .no .no .no) = .rt (.bl true) := by
  have pw := ssP_pw (pts l)
  have pwk := ssP_pw (pts k)
  have ne := ss_ne G
  have nek := ss_ne Gk
  have sm := smA G
  have hl := G.le
  have hkl := Gk.le
  have tl := cor_len l
  have kl := cor_len k
  have subP : ∀ q ∈ ssP (pts k), q ∈ ssP (pts l) := fun q hq => by
    rw [ssP_mem] at hq ⊢
    obtain ⟨p, hp, rfl⟩ := List.mem_map.mp hq
    rw [ek] at hp
    obtain ⟨x, hx', rfl⟩ := List.mem_map.mp hp
    exact List.mem_map.mpr ⟨_, at3_mem (hx x hx'), rfl⟩
  have subK : ∀ q ∈ corners k, q ∈ ssP (pts l) := fun q hq => subP q (hull_sub hq)
  have ar1 := area_is pw ne
  have ar2 := area_is pwk nek
  have le := area_less pw pwk subP nek
  have two1 := B2.two_ok (cor_good G)
  have two2 := B2.two_ok (cor_good Gk)
  obtain ⟨A, hA⟩ : ∃ A, A = arT 0 (corners l) := ⟨_, rfl⟩
  obtain ⟨A2, hA2⟩ : ∃ A, A = arT 0 (corners k) := ⟨_, rfl⟩
  have le' : B2.area A2 ≤ B2.area A := by
    rw [hA, hA2]
    show B2.area (arT 0 (hullP (ssP (pts k)))) ≤ B2.area (arT 0 (hullP (ssP (pts l))))
    omega
  obtain ⟨m, r, eP⟩ : ∃ m r, ssP (pts l) = m :: r := by
    cases e : ssP (pts l) with
    | nil => exact absurd e ne
    | cons m r => exact ⟨m, r, rfl⟩
  have eC : corners l = hullP (ssP (pts l)) := rfl
  have rl := fun X => round_loop (ns := ns) (l := l) (A := A) (X := X) (S' := corners k) eP pw sm subK (by omega) (by rw [← eC]; omega) (List.range (hullP (ssP (pts l))).length) (fun j hj => List.mem_range.mp hj) .no .no .no
  have fin : ∀ p ∈ corners l, p ∈ pts k → p ∈ corners k := fun p hp pk => kept_corner pw pwk subP hp ((ssP_mem _ _).mpr pk)
  have few : (corners l).length < 3 → ∃ g, (corners l).getLast? = some g ∧ ∀ q ∈ ssP (pts l), (m = q ∨ ltP m q) ∧ (q = g ∨ ltP q g) := fun h3 => by
    rw [eC, eP] at h3 ⊢
    rw [eP] at pw
    by_cases hr : r = []
    · subst hr
      refine ⟨m, rfl, fun q hq => ?_⟩
      rw [List.mem_singleton] at hq
      exact ⟨.inl hq.symm, .inl hq⟩
    · obtain ⟨g, hg⟩ : ∃ g, (m :: r).getLast? = some g := ⟨_, List.getLast?_eq_some_getLast (by simp)⟩
      obtain ⟨T1, T2, eL, eU, eT⟩ := chains pw hg hr
      rw [eT] at h3 ⊢
      simp only [List.length_append, List.length_cons] at h3
      have t2 : T2 = [] := List.length_eq_zero_iff.mp (by omega)
      refine ⟨g, by rw [t2, List.getLast?_append]; rfl, fun q hq => ⟨?_, last_ge pw hg hq⟩⟩
      rcases first_le (P := r) pw hq with z | z
      · exact .inl z.symm
      · exact .inr z
  have hd : (corners l)[0]? = some m := by
    rw [eC, eP]
    rw [eP] at pw
    exact hull_head pw
  rw [← hA] at two1 ⊢
  rw [← hA2] at two2
  rw [← eC] at rl
  obtain ⟨C, hC⟩ : ∃ C, C = corners l := ⟨_, rfl⟩
  obtain ⟨E, hE⟩ : ∃ E, E = corners k := ⟨_, rfl⟩
  rw [← hC] at rl few fin hd tl ⊢
  rw [← hE] at rl fin kl subK hA2 ⊢
  obtain ⟨d, hdd⟩ : ∃ d, d = tupN c := ⟨_, rfl⟩
  rw [← hdd]
  have ac : ev (.prim pTupleOf (.cons (.comp [("k", 6), ("x", 9), ("y", 10)] (.pr 6 [9, 10]) (.enum (.v 5)) .none (.prim pTup (.cons (.v 6) (.cons (.v 9) (.cons (.v 10) .nil))))) .nil)) (full (kst ns l A C (.ro d) (.ro (.lst (E.map PL.prD))) .no .no .no)) = .ok (trk A2) := by
    rw [hA2]
    exact ar_comp (i := 5) (by omega) rfl fun d x y => ⟨_, rfl, rfl, rfl, rfl⟩
  refine riteF (s := kst ns l A C (.ro d) (.ro (.lst (E.map PL.prD))) .no .no .no) ((egt (ec (lc ac l0) two2) (ec (lc (a := .v 3) rfl l0) two1)).trans (by rw [decide_eq_false (by omega)])) ?_
  by_cases h3 : C.length < 3
  · obtain ⟨g, hg, bt⟩ := few h3
    refine riteT (s := kst ns l A C (.ro d) (.ro (.lst (E.map PL.prD))) .no .no .no) ((elt (e1 (x := .lst (C.map PL.prD)) rfl (len_prs C)) ki).trans (by rw [decide_eq_true (by omega)])) ?_
    refine rret (e2 (x := .lst []) (y := .lst []) ((ecompF E PL.prD (fun _ => none) (iseqH (x := .lst (E.map PL.prD)) rfl rfl) (by omega) fun q hq => ⟨_, false, rfl, enT ((echain (e2 (x := .lst (C.map PL.prD)) rfl ki (ix_lst (i := 0) rfl hd)) rfl (e2 (x := .lst (C.map PL.prD)) rfl (e1 (x := .int 1) ki rfl) (atI_last (getLast_map PL.prD hg))) (le_pr (bt q (subK q hq)).1) (le_pr (bt q (subK q hq)).2)).trans rfl), fun _ => rfl, (fun z => nomatch z)⟩).trans (by simp)) rfl rfl)
  · refine riteF (s := kst ns l A C (.ro d) (.ro (.lst (E.map PL.prD))) .no .no .no) ((elt (e1 (x := .lst (C.map PL.prD)) rfl (len_prs C)) ki).trans (by rw [decide_eq_false (by omega)])) ?_
    obtain ⟨K', E', F', lp⟩ := rl (.ro d)
    refine rfor (s := kst ns l A C (.ro d) (.ro (.lst (E.map PL.prD))) .no .no .no) (s' := kst ns l A C (.ro d) (.ro (.lst (E.map PL.prD))) K' E' F') (irng (lc (e1 (x := .lst (C.map PL.prD)) rfl (len_prs C)) l0) (rng_n (by omega))) lp ?_
    have kp : ∀ ρ : En, (∃ w, ρ = w) → True := fun _ _ => trivial
    refine rret (e2 (x := .lst []) (y := .lst []) ((ecompF C PL.prD (fun _ => none) (iseqH (x := .lst (C.map PL.prD)) rfl rfl) (by omega) fun q hq => ⟨_, false, rfl, ?_, fun _ => rfl, (fun z => nomatch z)⟩).trans (by simp)) rfl rfl)
    have kc : ev (.comp [("k", 6)] (.name 6) (.seq (.v 4)) .none (.prim pSlL (.cons (.prim pIx (.cons (.v 1) (.cons (.v 6) .nil))) (.cons (.c (.int 1)) .nil)))) ([some (.scr ns), some (trk l), some (.lst (C.map PL.prD)), some (trk A), some d, some (.lst (E.map PL.prD)), K'.full, E'.full, F'.full, none, none, some (PL.prD q)]) = .ok (.lst ((pts k).map PL.prD)) := by
      refine (ecomp c (fun (x : Nat) => D.int (x : Int)) (fun x => PL.prD (at3 l x).2) (iseq (x := d) rfl (by rw [hdd]; rfl)) (by omega) fun x hx' => ⟨_, rfl, e2 (x := ptD (at3 l x)) (e2 (x := trk l) (y := .int (x : Nat)) rfl rfl (ix_trk (hx x hx'))) ki (pt_tail _)⟩).trans ?_
      rw [ek]
      unfold pts ptsK
      rw [List.map_map, List.map_map]; rfl
    by_cases z : q ∈ pts k
    · have i1 := in_pr id q (pts k)
      rw [decide_eq_true z] at i1
      have i2 := in_pr not q E
      rw [decide_eq_true (fin q hq z)] at i2
      exact eandT (e2 (x := PL.prD q) (y := .lst ((pts k).map PL.prD)) rfl kc i1) (e2 (x := PL.prD q) (y := .lst (E.map PL.prD)) rfl rfl i2)
    · have i1 := in_pr id q (pts k)
      rw [decide_eq_false z] at i1
      exact eandF (e2 (x := PL.prD q) (y := .lst ((pts k).map PL.prD)) rfl kc i1)
theorem law_true (ns : List Int) (_ : ns.length ≤ 63) : callD 12 1 b_law [.scr ns] = .ok (.bl true) := by
  obtain ⟨l, G, tk⟩ : ∃ l, Good l ∧ ev (.ite (.prim pEq (.cons (.call "_law_pick" f__law_pick (.cons (.v 0) (.cons (.c (.int 0)) (.cons (.c (.int 2)) .nil)))) (.cons (.c (.int 0)) .nil))) (.call "_law_small" f__law_small (.cons (.v 0) (.cons (.c (.int 10)) (.cons (.c (.int 12)) .nil)))) (.call "_law_track" f__law_track (.cons (.v 0) (.cons (.c (.int 10)) (.cons (.c (.int 12)) .nil))))) (see true (startS 12 [.scr ns])) = .ok (trk l) := by
    have t : ev (.prim pEq (.cons (.call "_law_pick" f__law_pick (.cons (.v 0) (.cons (.c (.int 0)) (.cons (.c (.int 2)) .nil)))) (.cons (.c (.int 0)) .nil))) (see true (startS 12 [.scr ns])) = .ok (.bl (decide (pickI ns 0 2 = 0))) := e2 (ec (lc rfl (lc ki (lc ki l0))) (pick_ok (by decide) (by decide) (by decide))) ki (o_eqI _ 0)
    by_cases z : pickI ns 0 2 = 0
    · exact ⟨smallT ns 10 12, smallT_good (by decide) (by decide), eite t (by rw [decide_eq_true z, if_pos rfl]; exact ec (lc rfl (lc ki (lc ki l0))) (small_ok (by decide) (by decide) (by decide) (by decide)))⟩
    · exact ⟨trackT ns 10 12, trackT_good (by decide) (by decide), eite t (by rw [decide_eq_false z, if_neg Bool.false_ne_true]; exact ec (lc rfl (lc ki (lc ki l0))) (drawn_ok (by decide) (by decide) (by decide) (by decide)))⟩
  have hl := G.le
  have h1 := G.ne
  have tl := cor_len l
  have Ga := cor_good G
  have h0 := hull_ok G
  have ha := hull_ok Ga
  have ca := B3.crossings_ok Ga
  have two := B2.two_ok Ga
  have ap := area_pos (ssP_pw (pts l)) (ss_ne G)
  have eA : corners (arT 0 (corners l)) = corners l := by
    unfold corners
    rw [ar_pts]
    exact hull_again (ssP_pw (pts l))
  have cA : B3.crossT (arT 0 (corners l)) = [] := no_cross (ssP_pw (pts l))
  rw [eA] at ha
  rw [cA] at ca
  obtain ⟨c, hc⟩ : ∃ c, c = keptN ns l.length := ⟨_, rfl⟩
  have cl : c.length ≤ l.length := by
    rw [hc]; unfold keptN
    have := List.length_filter_le (fun k : Nat => decide (pickI ns (200 + (k : Int)) 3 > 0)) (List.range l.length)
    rw [List.length_range] at this
    exact this
  have cx : ∀ x ∈ c, x < l.length := fun x hx => by
    rw [hc] at hx
    exact List.mem_range.mp (List.mem_filter.mp hx).1
  have cu : c.Pairwise (· < ·) := by
    rw [hc]
    exact List.pairwise_lt_range.filter _
  have tail := fun (ch : c ≠ []) => tail_ok (ns := ns) (c := c) G (ptsK_good G ch cu cx cl) rfl (by omega) cx
  have po := fun (ch : c ≠ []) => pts_ok G (by omega) ch cu cx
  have hk := fun (ch : c ≠ []) => hull_ok (ptsK_good G ch cu cx cl)
  obtain ⟨A, hA⟩ : ∃ A, A = arT 0 (corners l) := ⟨_, rfl⟩
  have ap' : decide (B2.area A > 0) = decide ((((corners l).length : Nat) : Int) > 2) := by rw [hA]; exact ap
  rw [← hA] at ha ca two tail
  obtain ⟨C, hC⟩ : ∃ C, C = corners l := ⟨_, rfl⟩
  rw [← hC] at h0 ha ap' tail tl hA
  refine rcall rfl (rset tk rfl ?_)
  refine rset (s := [.ro (.scr ns), .ro (trk l), .no, .no, .no, .no, .no, .no, .no, .no, .no, .no]) (d := .lst (C.map PL.prD)) (ec (lc rfl l0) h0) rfl ?_
  refine rset (s := [.ro (.scr ns), .ro (trk l), .ro (.lst (C.map PL.prD)), .no, .no, .no, .no, .no, .no, .no, .no, .no]) (d := trk A) ?_ rfl ?_
  · rw [hA]
    exact ar_comp (i := 2) (by omega) rfl fun d x y => ⟨_, rfl, rfl, rfl, rfl⟩
  refine riteF (s := kst ns l A C .no .no .no .no .no) (eorF (e2 (ec (lc rfl l0) ha) rfl (ne_refl (sh_prs C) (by decide))) (e2 (x := .lst []) (y := .lst []) (ec (lc rfl l0) ca) rfl rfl)) ?_
  refine riteF (s := kst ns l A C .no .no .no .no .no) (e2 (egt (ec (lc (a := .v 3) rfl l0) two) ki) ((egt (e1 (x := .lst (C.map PL.prD)) rfl (len_prs C)) ki).trans (by rw [← ap'])) (by cases decide (B2.area A > 0) <;> rfl)) ?_
  refine rset (s := kst ns l A C .no .no .no .no .no) (d := tupN c) ?_ rfl ?_
  · refine e1 (x := .lst (c.map fun (x : Nat) => D.int (x : Int))) ((ecompF (List.range l.length) (fun (k : Nat) => D.int (k : Int)) (fun k => if decide (pickI ns (200 + (k : Int)) 3 > 0) then some (D.int (k : Int)) else none) (irng (lc (e1 (x := trk l) rfl (len_trk l)) l0) (rng_n (by omega))) (by rw [List.length_range]; omega) fun k hk => ⟨_, _, rfl, egt (ec (lc rfl (lc (eadd ki rfl) (lc ki l0))) (pick_ok (by omega) (by have := List.mem_range.mp hk; omega) (by decide))) ki, fun z => by rw [z]; rfl, fun z => ⟨D.int (k : Int), rfl, by rw [z]; rfl⟩⟩).trans ?_) rfl
    rw [filterMap_ite, hc]; rfl
  have eq0 : opEq (tupN c) (.tup []) = some (.bl c.isEmpty) := (eq_nilT (sh_tupN c) (by decide)).trans (by rw [List.isEmpty_map])
  obtain ⟨d, hd⟩ : ∃ d, d = tupN c := ⟨_, rfl⟩
  rw [← hd] at eq0 tail po ⊢
  by_cases ch : c = []
  · have : c.isEmpty = true := by rw [ch]; rfl
    rw [this] at eq0
    exact riteT (s := kst ns l A C (.ro d) .no .no .no .no) (e2 (x := d) (y := .tup []) rfl rfl eq0) (rret rfl)
  · have : c.isEmpty = false := by
      cases c with
      | nil => exact absurd rfl ch
      | cons a r => rfl
    rw [this] at eq0
    refine riteF (s := kst ns l A C (.ro d) .no .no .no .no) (e2 (x := d) (y := .tup []) rfl rfl eq0) ?_
    exact rset (s := kst ns l A C (.ro d) .no .no .no .no) (d := .lst ((corners (ptsK l c)).map PL.prD)) (ec (lc (ec (lc rfl (lc rfl l0)) (po ch)) l0) (hk ch)) rfl (tail ch)
end Pk32

namespace Pk32
open PySem PySem.Spec PyProof.Rows L2 PL
theorem k_is_whole : chkS N_is_whole (defScope (topS 8)) b_is_whole (defBody (topS 8)) = true := by decide +kernel
theorem s_is_whole : FnScope N_is_whole ["thing", "low", "high"] (defScope (topS 8)) := ⟨rfl, rfl, rfl, by decide +kernel, rfl, by decide +kernel, by decide +kernel⟩
theorem k_is_point : chkS N_is_point (defScope (topS 9)) b_is_point (defBody (topS 9)) = true := by decide +kernel
theorem s_is_point : FnScope N_is_point ["thing"] (defScope (topS 9)) := ⟨rfl, rfl, rfl, by decide +kernel, rfl, by decide +kernel, by decide +kernel⟩
theorem k_is_track : chkS N_is_track (defScope (topS 10)) b_is_track (defBody (topS 10)) = true := by decide +kernel
theorem s_is_track : FnScope N_is_track ["thing"] (defScope (topS 10)) := ⟨rfl, rfl, rfl, by decide +kernel, rfl, by decide +kernel, by decide +kernel⟩
theorem k_look_track : chkS N_look_track (defScope (topS 11)) b_look_track (defBody (topS 11)) = true := by decide +kernel
theorem s_look_track : FnScope N_look_track ["track"] (defScope (topS 11)) := ⟨rfl, rfl, rfl, by decide +kernel, rfl, by decide +kernel, by decide +kernel⟩
theorem k_places_of : chkS N_places_of (defScope (topS 14)) b_places_of (defBody (topS 14)) = true := by decide +kernel
theorem s_places_of : FnScope N_places_of ["track"] (defScope (topS 14)) := ⟨rfl, rfl, rfl, by decide +kernel, rfl, by decide +kernel, by decide +kernel⟩
theorem k_twice_area : chkS N_twice_area (defScope (topS 15)) b_twice_area (defBody (topS 15)) = true := by decide +kernel
theorem s_twice_area : FnScope N_twice_area ["track"] (defScope (topS 15)) := ⟨rfl, rfl, rfl, by decide +kernel, rfl, by decide +kernel, by decide +kernel⟩
theorem k_crossed : chkS N_crossed (defScope (topS 13)) b_crossed (defBody (topS 13)) = true := by decide +kernel
theorem s_crossed : FnScope N_crossed ["one", "other", "point"] (defScope (topS 13)) := ⟨rfl, rfl, rfl, by decide +kernel, rfl, by decide +kernel, by decide +kernel⟩
theorem k_is_on : chkS N_is_on (defScope (topS 16)) b_is_on (defBody (topS 16)) = true := by decide +kernel
theorem s_is_on : FnScope N_is_on ["one", "other", "point"] (defScope (topS 16)) := ⟨rfl, rfl, rfl, by decide +kernel, rfl, by decide +kernel, by decide +kernel⟩
theorem k_have_common : chkS N_have_common (defScope (topS 17)) b_have_common (defBody (topS 17)) = true := by decide +kernel
theorem s_have_common : FnScope N_have_common ["one", "other", "first", "last"] (defScope (topS 17)) := ⟨rfl, rfl, rfl, by decide +kernel, rfl, by decide +kernel, by decide +kernel⟩
theorem k_crossings : chkS N_crossings (defScope (topS 18)) b_crossings (defBody (topS 18)) = true := by decide +kernel
theorem s_crossings : FnScope N_crossings ["track"] (defScope (topS 18)) := ⟨rfl, rfl, rfl, by decide +kernel, rfl, by decide +kernel, by decide +kernel⟩
theorem k_half_hull : chkS N_half_hull (defScope (topS 19)) b_half_hull (defBody (topS 19)) = true := by decide +kernel
theorem s_half_hull : FnScope N_half_hull ["some"] (defScope (topS 19)) := ⟨rfl, rfl, rfl, by decide +kernel, rfl, by decide +kernel, by decide +kernel⟩
theorem k_hull : chkS N_hull (defScope (topS 20)) b_hull (defBody (topS 20)) = true := by decide +kernel
theorem s_hull : FnScope N_hull ["track"] (defScope (topS 20)) := ⟨rfl, rfl, rfl, by decide +kernel, rfl, by decide +kernel, by decide +kernel⟩
theorem k_are_kept : chkS N_are_kept (defScope (topS 22)) b_are_kept (defBody (topS 22)) = true := by decide +kernel
theorem s_are_kept : FnScope N_are_kept ["track", "thing"] (defScope (topS 22)) := ⟨rfl, rfl, rfl, by decide +kernel, rfl, by decide +kernel, by decide +kernel⟩
theorem k_points_of : chkS N_points_of (defScope (topS 23)) b_points_of (defBody (topS 23)) = true := by decide +kernel
theorem s_points_of : FnScope N_points_of ["track", "kept"] (defScope (topS 23)) := ⟨rfl, rfl, rfl, by decide +kernel, rfl, by decide +kernel, by decide +kernel⟩
theorem k__law_cell : chkS N__law_cell (defScope (topS 25)) b__law_cell (defBody (topS 25)) = true := by decide +kernel
theorem s__law_cell : FnScope N__law_cell ["script", "k"] (defScope (topS 25)) := ⟨rfl, rfl, rfl, by decide +kernel, rfl, by decide +kernel, by decide +kernel⟩
theorem k__law_pick : chkS N__law_pick (defScope (topS 26)) b__law_pick (defBody (topS 26)) = true := by decide +kernel
theorem s__law_pick : FnScope N__law_pick ["script", "k", "many"] (defScope (topS 26)) := ⟨rfl, rfl, rfl, by decide +kernel, rfl, by decide +kernel, by decide +kernel⟩
theorem k__law_small : chkS N__law_small (defScope (topS 27)) b__law_small (defBody (topS 27)) = true := by decide +kernel
theorem s__law_small : FnScope N__law_small ["script", "at", "most"] (defScope (topS 27)) := ⟨rfl, rfl, rfl, by decide +kernel, rfl, by decide +kernel, by decide +kernel⟩
theorem k__law_det : chkS N__law_det (defScope (topS 28)) b__law_det (defBody (topS 28)) = true := by decide +kernel
theorem s__law_det : FnScope N__law_det ["one", "other"] (defScope (topS 28)) := ⟨rfl, rfl, rfl, by decide +kernel, rfl, by decide +kernel, by decide +kernel⟩
theorem k__law_way : chkS N__law_way (defScope (topS 29)) b__law_way (defBody (topS 29)) = true := by decide +kernel
theorem s__law_way : FnScope N__law_way ["one", "other"] (defScope (topS 29)) := ⟨rfl, rfl, rfl, by decide +kernel, rfl, by decide +kernel, by decide +kernel⟩
theorem k__law_track : chkS N__law_track (defScope (topS 30)) b__law_track (defBody (topS 30)) = true := by decide +kernel
theorem s__law_track : FnScope N__law_track ["script", "at", "most"] (defScope (topS 30)) := ⟨rfl, rfl, rfl, by decide +kernel, rfl, by decide +kernel, by decide +kernel⟩
theorem k_law : chkS N_law (defScope (topS 31)) b_law (defBody (topS 31)) = true := by decide +kernel
theorem s_law : FnScope N_law ["script"] (defScope (topS 31)) := ⟨rfl, rfl, rfl, by decide +kernel, rfl, by decide +kernel, by decide +kernel⟩
def d_is_whole : He.DefD := ⟨("is_whole", none), "is_whole", "is_whole", defArgs (topS 8), defBody (topS 8), defScope (topS 8), [], []⟩
def d_is_point : He.DefD := ⟨("is_point", none), "is_point", "is_point", defArgs (topS 9), defBody (topS 9), defScope (topS 9), [], []⟩
def d_is_track : He.DefD := ⟨("is_track", none), "is_track", "is_track", defArgs (topS 10), defBody (topS 10), defScope (topS 10), [], []⟩
def d_look_track : He.DefD := ⟨("look_track", none), "look_track", "look_track", defArgs (topS 11), defBody (topS 11), defScope (topS 11), [], []⟩
def d_places_of : He.DefD := ⟨("places_of", none), "places_of", "places_of", defArgs (topS 14), defBody (topS 14), defScope (topS 14), [], []⟩
def d_twice_area : He.DefD := ⟨("twice_area", none), "twice_area", "twice_area", defArgs (topS 15), defBody (topS 15), defScope (topS 15), [], []⟩
def d_crossed : He.DefD := ⟨("crossed", none), "crossed", "crossed", defArgs (topS 13), defBody (topS 13), defScope (topS 13), [], []⟩
def d_is_on : He.DefD := ⟨("is_on", none), "is_on", "is_on", defArgs (topS 16), defBody (topS 16), defScope (topS 16), [], []⟩
def d_have_common : He.DefD := ⟨("have_common", none), "have_common", "have_common", defArgs (topS 17), defBody (topS 17), defScope (topS 17), [], []⟩
def d_crossings : He.DefD := ⟨("crossings", none), "crossings", "crossings", defArgs (topS 18), defBody (topS 18), defScope (topS 18), [], []⟩
def d_half_hull : He.DefD := ⟨("half_hull", none), "half_hull", "half_hull", defArgs (topS 19), defBody (topS 19), defScope (topS 19), [], []⟩
def d_hull : He.DefD := ⟨("hull", none), "hull", "hull", defArgs (topS 20), defBody (topS 20), defScope (topS 20), [], []⟩
def d_are_kept : He.DefD := ⟨("are_kept", none), "are_kept", "are_kept", defArgs (topS 22), defBody (topS 22), defScope (topS 22), [], []⟩
def d_points_of : He.DefD := ⟨("points_of", none), "points_of", "points_of", defArgs (topS 23), defBody (topS 23), defScope (topS 23), [], []⟩
def d__law_cell : He.DefD := ⟨("_law_cell", none), "_law_cell", "_law_cell", defArgs (topS 25), defBody (topS 25), defScope (topS 25), [], []⟩
def d__law_pick : He.DefD := ⟨("_law_pick", none), "_law_pick", "_law_pick", defArgs (topS 26), defBody (topS 26), defScope (topS 26), [], []⟩
def d__law_small : He.DefD := ⟨("_law_small", none), "_law_small", "_law_small", defArgs (topS 27), defBody (topS 27), defScope (topS 27), [], []⟩
def d__law_det : He.DefD := ⟨("_law_det", none), "_law_det", "_law_det", defArgs (topS 28), defBody (topS 28), defScope (topS 28), [], []⟩
def d__law_way : He.DefD := ⟨("_law_way", none), "_law_way", "_law_way", defArgs (topS 29), defBody (topS 29), defScope (topS 29), [], []⟩
def d__law_track : He.DefD := ⟨("_law_track", none), "_law_track", "_law_track", defArgs (topS 30), defBody (topS 30), defScope (topS 30), [], []⟩
def d_law : He.DefD := ⟨("law", none), "law", "law", defArgs (topS 31), defBody (topS 31), defScope (topS 31), [], []⟩
def fn : List He.DefD := [d_is_whole, d_is_point, d_is_track, d_look_track, d_places_of, d_twice_area, d_crossed, d_is_on, d_have_common, d_crossings, d_half_hull, d_hull, d_are_kept, d_points_of, d__law_cell, d__law_pick, d__law_small, d__law_det, d__law_way, d__law_track, d_law]
def fa : List He.Fa := [.glo "is_whole", .glo "is_point", .glo "is_track", .glo "look_track", .glo "places_of", .glo "twice_area", .glo "crossed", .glo "is_on", .glo "have_common", .glo "crossings", .glo "half_hull", .glo "hull", .glo "are_kept", .glo "points_of", .glo "_law_cell", .glo "_law_pick", .glo "_law_small", .glo "_law_det", .glo "_law_way", .glo "_law_track", .glo "law", .free "zip", .free "range", .free "enumerate", .free "len", .free "abs", .free "min", .free "max", .free "list", .free "tuple", .free "all", .free "any", .free "sum", .free "sorted", .free "set", .free "int", .free "isinstance", .free "str", .free "bool", .free "dict", .int "LAST" 999, .int "FARTHEST" 99, .int "MOST" 12, .glo "NoTrack", .exc "NoTrack", .glo "NoPoint", .exc "NoPoint"]
theorem bf {K : PySem.W.Frag} {mg : Str → Option Value} {h : Heap} (X : K.In h) (G : h.Ns mainGlobals mg) (c : He.SaysD fa fn K) : ∀ y ∈ bnames, mg y = none := by
  intro y hy
  simp only [bnames, List.mem_cons, List.not_mem_nil, or_false] at hy
  rcases hy with rfl | rfl | rfl | rfl | rfl | rfl | rfl | rfl | rfl | rfl | rfl | rfl | rfl | rfl | rfl | rfl | rfl | rfl | rfl
  · exact He.free_ok X G (c.fact 21 (f := .free "zip") rfl)
  · exact He.free_ok X G (c.fact 22 (f := .free "range") rfl)
  · exact He.free_ok X G (c.fact 23 (f := .free "enumerate") rfl)
  · exact He.free_ok X G (c.fact 24 (f := .free "len") rfl)
  · exact He.free_ok X G (c.fact 25 (f := .free "abs") rfl)
  · exact He.free_ok X G (c.fact 26 (f := .free "min") rfl)
  · exact He.free_ok X G (c.fact 27 (f := .free "max") rfl)
  · exact He.free_ok X G (c.fact 28 (f := .free "list") rfl)
  · exact He.free_ok X G (c.fact 29 (f := .free "tuple") rfl)
  · exact He.free_ok X G (c.fact 30 (f := .free "all") rfl)
  · exact He.free_ok X G (c.fact 31 (f := .free "any") rfl)
  · exact He.free_ok X G (c.fact 32 (f := .free "sum") rfl)
  · exact He.free_ok X G (c.fact 33 (f := .free "sorted") rfl)
  · exact He.free_ok X G (c.fact 34 (f := .free "set") rfl)
  · exact He.free_ok X G (c.fact 35 (f := .free "int") rfl)
  · exact He.free_ok X G (c.fact 36 (f := .free "isinstance") rfl)
  · exact He.free_ok X G (c.fact 37 (f := .free "str") rfl)
  · exact He.free_ok X G (c.fact 38 (f := .free "bool") rfl)
  · exact He.free_ok X G (c.fact 39 (f := .free "dict") rfl)
theorem gc_LAST {K : PySem.W.Frag} {mg : Str → Option Value} {h : Heap} (X : K.In h) (G : h.Ns mainGlobals mg) (c : He.SaysD fa fn K) : ∃ u, mg "LAST" = some u ∧ L2.RelV (PL.Cn.v (.int 999)) u := by
  obtain ⟨t, e⟩ := He.int_ok X G (c.fact 40 (f := .int "LAST" 999) rfl)
  exact ⟨_, e, t, rfl⟩
theorem gc_FARTHEST {K : PySem.W.Frag} {mg : Str → Option Value} {h : Heap} (X : K.In h) (G : h.Ns mainGlobals mg) (c : He.SaysD fa fn K) : ∃ u, mg "FARTHEST" = some u ∧ L2.RelV (PL.Cn.v (.int 99)) u := by
  obtain ⟨t, e⟩ := He.int_ok X G (c.fact 41 (f := .int "FARTHEST" 99) rfl)
  exact ⟨_, e, t, rfl⟩
theorem gc_MOST {K : PySem.W.Frag} {mg : Str → Option Value} {h : Heap} (X : K.In h) (G : h.Ns mainGlobals mg) (c : He.SaysD fa fn K) : ∃ u, mg "MOST" = some u ∧ L2.RelV (PL.Cn.v (.int 12)) u := by
  obtain ⟨t, e⟩ := He.int_ok X G (c.fact 42 (f := .int "MOST" 12) rfl)
  exact ⟨_, e, t, rfl⟩
theorem rc_NoTrack {K : PySem.W.Frag} {mg : Str → Option Value} {h : Heap} (X : K.In h) (G : h.Ns mainGlobals mg) (c : He.SaysD fa fn K) : RaiseC K mg "NoTrack" := by
  obtain ⟨e1, e2, e3, e4⟩ := He.exc_ok (c.fact 44 (f := .exc "NoTrack") rfl)
  exact ⟨⟨_, He.glo_ok X G (c.fact 43 (f := .glo "NoTrack") rfl), e1, e2, e3, e4⟩⟩
theorem rc_NoPoint {K : PySem.W.Frag} {mg : Str → Option Value} {h : Heap} (X : K.In h) (G : h.Ns mainGlobals mg) (c : He.SaysD fa fn K) : RaiseC K mg "NoPoint" := by
  obtain ⟨e1, e2, e3, e4⟩ := He.exc_ok (c.fact 46 (f := .exc "NoPoint") rfl)
  exact ⟨⟨_, He.glo_ok X G (c.fact 45 (f := .glo "NoPoint") rfl), e1, e2, e3, e4⟩⟩
theorem g_is_whole {P : Program} {w : World} {K : PySem.W.Frag} {mg : Str → Option Value} {h base : Heap} (X : K.In h) (G : h.Ns mainGlobals mg) (c : He.SaysD fa fn K) (tb : PL.TabBs K mg base) : GoodF P w K mg base 1 "is_whole" f_is_whole := by
  obtain ⟨fd, F⟩ := (c).def_ 0 (d := d_is_whole) rfl
  exact goodF_of F s_is_whole (He.glo_ok X G ((c).fact 0 (f := .glo "is_whole") rfl)) (F.bindsN (fun _ _ _ _ _ _ us hl => match us, hl with | [_, _, _], _ => rfl)) (bf X G c) tb (fun _ => rfl) (And.intro (And.intro (And.intro isIntG (And.intro trivial trivial)) (And.intro (And.intro isBoolG (And.intro trivial trivial)) (And.intro leO (And.intro leO (And.intro trivial (And.intro trivial trivial)))))) trivial) k_is_whole
theorem g_is_point {P : Program} {w : World} {K : PySem.W.Frag} {mg : Str → Option Value} {h base : Heap} (X : K.In h) (G : h.Ns mainGlobals mg) (c : He.SaysD fa fn K) (tb : PL.TabBs K mg base) : GoodF P w K mg base 2 "is_point" f_is_point := by
  obtain ⟨fd, F⟩ := (c).def_ 1 (d := d_is_point) rfl
  exact goodF_of F s_is_point (He.glo_ok X G ((c).fact 1 (f := .glo "is_point") rfl)) (F.bindsN (fun _ _ _ _ _ _ us hl => match us, hl with | [_], _ => rfl)) (bf X G c) tb (fun _ => rfl) (And.intro (And.intro (And.intro (And.intro isTupleG (And.intro trivial trivial)) (And.intro (And.intro neG (And.intro (And.intro lenG (And.intro trivial trivial)) (And.intro trivial trivial))) (And.intro ((g_is_whole X G c tb).mono (by first | decide | omega)) (And.intro (And.intro ixG (And.intro trivial (And.intro trivial trivial))) (And.intro trivial (And.intro (gc_LAST X G c) trivial)))))) (And.intro (And.intro trivial trivial) trivial)) (And.intro (And.intro allG (And.intro (And.intro (And.intro slLG (And.intro trivial (And.intro trivial trivial))) (And.intro trivial (And.intro ((g_is_whole X G c tb).mono (by first | decide | omega)) (And.intro trivial (And.intro (And.intro subG (And.intro trivial (And.intro (gc_FARTHEST X G c) trivial))) (And.intro (gc_FARTHEST X G c) trivial)))))) trivial)) trivial)) k_is_point
theorem g_is_track {P : Program} {w : World} {K : PySem.W.Frag} {mg : Str → Option Value} {h base : Heap} (X : K.In h) (G : h.Ns mainGlobals mg) (c : He.SaysD fa fn K) (tb : PL.TabBs K mg base) : GoodF P w K mg base 3 "is_track" f_is_track := by
  obtain ⟨fd, F⟩ := (c).def_ 2 (d := d_is_track) rfl
  exact goodF_of F s_is_track (He.glo_ok X G ((c).fact 2 (f := .glo "is_track") rfl)) (F.bindsN (fun _ _ _ _ _ _ us hl => match us, hl with | [_], _ => rfl)) (bf X G c) tb (fun _ => rfl) (And.intro (And.intro (And.intro (And.intro isTupleG (And.intro trivial trivial)) (And.intro (And.intro leO (And.intro leO (And.intro trivial (And.intro (And.intro lenG (And.intro trivial trivial)) (gc_MOST X G c))))) (And.intro allG (And.intro (And.intro trivial (And.intro trivial (And.intro ((g_is_point X G c tb).mono (by first | decide | omega)) (And.intro trivial trivial)))) trivial)))) (And.intro (And.intro trivial trivial) trivial)) (And.intro (And.intro allG (And.intro (And.intro (And.intro trivial (And.intro slLG (And.intro trivial (And.intro trivial trivial)))) (And.intro trivial (And.intro ltG (And.intro (And.intro ixG (And.intro trivial (And.intro trivial trivial))) (And.intro (And.intro ixG (And.intro trivial (And.intro trivial trivial))) trivial))))) trivial)) trivial)) k_is_track
theorem g_look_track {P : Program} {w : World} {K : PySem.W.Frag} {mg : Str → Option Value} {h base : Heap} (X : K.In h) (G : h.Ns mainGlobals mg) (c : He.SaysD fa fn K) (tb : PL.TabBs K mg base) : GoodF P w K mg base 4 "look_track" f_look_track := by
  obtain ⟨fd, F⟩ := (c).def_ 3 (d := d_look_track) rfl
  exact goodF_of F s_look_track (He.glo_ok X G ((c).fact 3 (f := .glo "look_track") rfl)) (F.bindsN (fun _ _ _ _ _ _ us hl => match us, hl with | [_], _ => rfl)) (bf X G c) tb (fun _ => rfl) (And.intro (And.intro (And.intro ((g_is_track X G c tb).mono (by first | decide | omega)) (And.intro trivial trivial)) (And.intro (And.intro (rc_NoTrack X G c) trivial) trivial)) trivial) k_look_track
theorem g_places_of {P : Program} {w : World} {K : PySem.W.Frag} {mg : Str → Option Value} {h base : Heap} (X : K.In h) (G : h.Ns mainGlobals mg) (c : He.SaysD fa fn K) (tb : PL.TabBs K mg base) : GoodF P w K mg base 1 "places_of" f_places_of := by
  obtain ⟨fd, F⟩ := (c).def_ 4 (d := d_places_of) rfl
  exact goodF_of F s_places_of (He.glo_ok X G ((c).fact 4 (f := .glo "places_of") rfl)) (F.bindsN (fun _ _ _ _ _ _ us hl => match us, hl with | [_], _ => rfl)) (bf X G c) tb (fun _ => rfl) (And.intro (And.intro trivial (And.intro trivial (And.intro tupG (And.intro trivial (And.intro trivial trivial))))) trivial) k_places_of
theorem g_twice_area {P : Program} {w : World} {K : PySem.W.Frag} {mg : Str → Option Value} {h base : Heap} (X : K.In h) (G : h.Ns mainGlobals mg) (c : He.SaysD fa fn K) (tb : PL.TabBs K mg base) : GoodF P w K mg base 5 "twice_area" f_twice_area := by
  obtain ⟨fd, F⟩ := (c).def_ 5 (d := d_twice_area) rfl
  exact goodF_of F s_twice_area (He.glo_ok X G ((c).fact 5 (f := .glo "twice_area") rfl)) (F.bindsN (fun _ _ _ _ _ _ us hl => match us, hl with | [_], _ => rfl)) (bf X G c) tb (fun _ => rfl) (And.intro (And.intro ((g_look_track X G c tb).mono (by first | decide | omega)) (And.intro trivial trivial)) (And.intro (And.intro ((g_places_of X G c tb).mono (by first | decide | omega)) (And.intro trivial trivial)) (And.intro (And.intro sumG (And.intro (And.intro (And.intro trivial (And.intro addG (And.intro (And.intro slLG (And.intro trivial (And.intro trivial trivial))) (And.intro (And.intro slUG (And.intro trivial (And.intro trivial trivial))) trivial)))) (And.intro trivial (And.intro subG (And.intro (And.intro mulG (And.intro (And.intro ixG (And.intro trivial (And.intro trivial trivial))) (And.intro (And.intro ixG (And.intro trivial (And.intro trivial trivial))) trivial))) (And.intro (And.intro mulG (And.intro (And.intro ixG (And.intro trivial (And.intro trivial trivial))) (And.intro (And.intro ixG (And.intro trivial (And.intro trivial trivial))) trivial))) trivial))))) trivial)) trivial))) k_twice_area
theorem g_crossed {P : Program} {w : World} {K : PySem.W.Frag} {mg : Str → Option Value} {h base : Heap} (X : K.In h) (G : h.Ns mainGlobals mg) (c : He.SaysD fa fn K) (tb : PL.TabBs K mg base) : GoodF P w K mg base 1 "crossed" f_crossed := by
  obtain ⟨fd, F⟩ := (c).def_ 6 (d := d_crossed) rfl
  exact goodF_of F s_crossed (He.glo_ok X G ((c).fact 6 (f := .glo "crossed") rfl)) (F.bindsN (fun _ _ _ _ _ _ us hl => match us, hl with | [_, _, _], _ => rfl)) (bf X G c) tb (fun _ => rfl) (And.intro (And.intro subG (And.intro (And.intro mulG (And.intro (And.intro subG (And.intro (And.intro ixG (And.intro trivial (And.intro trivial trivial))) (And.intro (And.intro ixG (And.intro trivial (And.intro trivial trivial))) trivial))) (And.intro (And.intro subG (And.intro (And.intro ixG (And.intro trivial (And.intro trivial trivial))) (And.intro (And.intro ixG (And.intro trivial (And.intro trivial trivial))) trivial))) trivial))) (And.intro (And.intro mulG (And.intro (And.intro subG (And.intro (And.intro ixG (And.intro trivial (And.intro trivial trivial))) (And.intro (And.intro ixG (And.intro trivial (And.intro trivial trivial))) trivial))) (And.intro (And.intro subG (And.intro (And.intro ixG (And.intro trivial (And.intro trivial trivial))) (And.intro (And.intro ixG (And.intro trivial (And.intro trivial trivial))) trivial))) trivial))) trivial))) trivial) k_crossed
theorem g_is_on {P : Program} {w : World} {K : PySem.W.Frag} {mg : Str → Option Value} {h base : Heap} (X : K.In h) (G : h.Ns mainGlobals mg) (c : He.SaysD fa fn K) (tb : PL.TabBs K mg base) : GoodF P w K mg base 1 "is_on" f_is_on := by
  obtain ⟨fd, F⟩ := (c).def_ 7 (d := d_is_on) rfl
  exact goodF_of F s_is_on (He.glo_ok X G ((c).fact 7 (f := .glo "is_on") rfl)) (F.bindsN (fun _ _ _ _ _ _ us hl => match us, hl with | [_, _, _], _ => rfl)) (bf X G c) tb (fun _ => rfl) (And.intro (And.intro leO (And.intro leO (And.intro (And.intro min2G (And.intro (And.intro ixG (And.intro trivial (And.intro trivial trivial))) (And.intro (And.intro ixG (And.intro trivial (And.intro trivial trivial))) trivial))) (And.intro (And.intro ixG (And.intro trivial (And.intro trivial trivial))) (And.intro max2G (And.intro (And.intro ixG (And.intro trivial (And.intro trivial trivial))) (And.intro (And.intro ixG (And.intro trivial (And.intro trivial trivial))) trivial))))))) (And.intro (And.intro trivial (And.intro leO (And.intro leO (And.intro (And.intro min2G (And.intro (And.intro ixG (And.intro trivial (And.intro trivial trivial))) (And.intro (And.intro ixG (And.intro trivial (And.intro trivial trivial))) trivial))) (And.intro (And.intro ixG (And.intro trivial (And.intro trivial trivial))) (And.intro max2G (And.intro (And.intro ixG (And.intro trivial (And.intro trivial trivial))) (And.intro (And.intro ixG (And.intro trivial (And.intro trivial trivial))) trivial)))))))) trivial)) k_is_on
theorem g_have_common {P : Program} {w : World} {K : PySem.W.Frag} {mg : Str → Option Value} {h base : Heap} (X : K.In h) (G : h.Ns mainGlobals mg) (c : He.SaysD fa fn K) (tb : PL.TabBs K mg base) : GoodF P w K mg base 2 "have_common" f_have_common := by
  obtain ⟨fd, F⟩ := (c).def_ 8 (d := d_have_common) rfl
  exact goodF_of F s_have_common (He.glo_ok X G ((c).fact 8 (f := .glo "have_common") rfl)) (F.bindsN (fun _ _ _ _ _ _ us hl => match us, hl with | [_, _, _, _], _ => rfl)) (bf X G c) tb (fun _ => rfl) (And.intro (And.intro lstG (And.intro (And.intro ((g_crossed X G c tb).mono (by first | decide | omega)) (And.intro trivial (And.intro trivial (And.intro trivial trivial)))) (And.intro (And.intro ((g_crossed X G c tb).mono (by first | decide | omega)) (And.intro trivial (And.intro trivial (And.intro trivial trivial)))) trivial))) (And.intro (And.intro lstG (And.intro (And.intro ((g_crossed X G c tb).mono (by first | decide | omega)) (And.intro trivial (And.intro trivial (And.intro trivial trivial)))) (And.intro (And.intro ((g_crossed X G c tb).mono (by first | decide | omega)) (And.intro trivial (And.intro trivial (And.intro trivial trivial)))) trivial))) (And.intro (And.intro trivial (And.intro trivial (And.intro subG (And.intro (And.intro intG (And.intro (And.intro gtG (And.intro trivial (And.intro trivial trivial))) trivial)) (And.intro (And.intro intG (And.intro (And.intro ltG (And.intro trivial (And.intro trivial trivial))) trivial)) trivial))))) (And.intro (And.intro (And.intro (And.intro ltG (And.intro (And.intro mulG (And.intro (And.intro ixG (And.intro trivial (And.intro trivial trivial))) (And.intro (And.intro ixG (And.intro trivial (And.intro trivial trivial))) trivial))) (And.intro trivial trivial))) (And.intro ltG (And.intro (And.intro mulG (And.intro (And.intro ixG (And.intro trivial (And.intro trivial trivial))) (And.intro (And.intro ixG (And.intro trivial (And.intro trivial trivial))) trivial))) (And.intro trivial trivial)))) (And.intro (And.intro trivial trivial) trivial)) (And.intro (And.intro lstG (And.intro (And.intro (And.intro eqG (And.intro (And.intro ixG (And.intro trivial (And.intro trivial trivial))) (And.intro trivial trivial))) (And.intro ((g_is_on X G c tb).mono (by first | decide | omega)) (And.intro trivial (And.intro trivial (And.intro trivial trivial))))) (And.intro (And.intro (And.intro eqG (And.intro (And.intro ixG (And.intro trivial (And.intro trivial trivial))) (And.intro trivial trivial))) (And.intro ((g_is_on X G c tb).mono (by first | decide | omega)) (And.intro trivial (And.intro trivial (And.intro trivial trivial))))) trivial))) (And.intro (And.intro lstG (And.intro (And.intro (And.intro eqG (And.intro (And.intro ixG (And.intro trivial (And.intro trivial trivial))) (And.intro trivial trivial))) (And.intro ((g_is_on X G c tb).mono (by first | decide | omega)) (And.intro trivial (And.intro trivial (And.intro trivial trivial))))) (And.intro (And.intro (And.intro eqG (And.intro (And.intro ixG (And.intro trivial (And.intro trivial trivial))) (And.intro trivial trivial))) (And.intro ((g_is_on X G c tb).mono (by first | decide | omega)) (And.intro trivial (And.intro trivial (And.intro trivial trivial))))) trivial))) (And.intro (And.intro anyG (And.intro trivial trivial)) trivial))))))) k_have_common
theorem g_crossings {P : Program} {w : World} {K : PySem.W.Frag} {mg : Str → Option Value} {h base : Heap} (X : K.In h) (G : h.Ns mainGlobals mg) (c : He.SaysD fa fn K) (tb : PL.TabBs K mg base) : GoodF P w K mg base 5 "crossings" f_crossings := by
  obtain ⟨fd, F⟩ := (c).def_ 9 (d := d_crossings) rfl
  exact goodF_of F s_crossings (He.glo_ok X G ((c).fact 9 (f := .glo "crossings") rfl)) (F.bindsN (fun _ _ _ _ _ _ us hl => match us, hl with | [_], _ => rfl)) (bf X G c) tb (fun _ => rfl) (And.intro (And.intro ((g_look_track X G c tb).mono (by first | decide | omega)) (And.intro trivial trivial)) (And.intro (And.intro ((g_places_of X G c tb).mono (by first | decide | omega)) (And.intro trivial trivial)) (And.intro (And.intro lstG trivial) (And.intro (And.intro (And.intro (And.intro subG (And.intro (And.intro lenG (And.intro trivial trivial)) (And.intro trivial trivial))) trivial) (And.intro (And.intro (And.intro (And.intro addG (And.intro trivial (And.intro trivial trivial))) (And.intro (And.intro subG (And.intro (And.intro lenG (And.intro trivial trivial)) (And.intro trivial trivial))) trivial)) (And.intro (And.intro (And.intro ((g_have_common X G c tb).mono (by first | decide | omega)) (And.intro (And.intro ixG (And.intro trivial (And.intro trivial trivial))) (And.intro (And.intro ixG (And.intro trivial (And.intro (And.intro addG (And.intro trivial (And.intro trivial trivial))) trivial))) (And.intro (And.intro ixG (And.intro trivial (And.intro trivial trivial))) (And.intro (And.intro ixG (And.intro trivial (And.intro (And.intro addG (And.intro trivial (And.intro trivial trivial))) trivial))) trivial))))) (And.intro (And.intro (And.intro tupG (And.intro trivial (And.intro trivial trivial))) trivial) trivial)) trivial)) trivial)) (And.intro trivial trivial))))) k_crossings
theorem g_half_hull {P : Program} {w : World} {K : PySem.W.Frag} {mg : Str → Option Value} {h base : Heap} (X : K.In h) (G : h.Ns mainGlobals mg) (c : He.SaysD fa fn K) (tb : PL.TabBs K mg base) : GoodF P w K mg base 2 "half_hull" f_half_hull := by
  obtain ⟨fd, F⟩ := (c).def_ 10 (d := d_half_hull) rfl
  exact goodF_of F s_half_hull (He.glo_ok X G ((c).fact 10 (f := .glo "half_hull") rfl)) (F.bindsN (fun _ _ _ _ _ _ us hl => match us, hl with | [_], _ => rfl)) (bf X G c) tb (fun _ => rfl) (And.intro (And.intro lstG trivial) (And.intro (And.intro trivial (And.intro (And.intro (And.intro (And.intro gtG (And.intro (And.intro lenG (And.intro trivial trivial)) (And.intro trivial trivial))) (And.intro leG (And.intro (And.intro ((g_crossed X G c tb).mono (by first | decide | omega)) (And.intro (And.intro ixG (And.intro trivial (And.intro (And.intro negG (And.intro trivial trivial)) trivial))) (And.intro (And.intro ixG (And.intro trivial (And.intro (And.intro negG (And.intro trivial trivial)) trivial))) (And.intro trivial trivial)))) (And.intro trivial trivial)))) (And.intro trivial trivial)) (And.intro trivial trivial))) (And.intro trivial trivial))) k_half_hull
theorem g_hull {P : Program} {w : World} {K : PySem.W.Frag} {mg : Str → Option Value} {h base : Heap} (X : K.In h) (G : h.Ns mainGlobals mg) (c : He.SaysD fa fn K) (tb : PL.TabBs K mg base) : GoodF P w K mg base 5 "hull" f_hull := by
  obtain ⟨fd, F⟩ := (c).def_ 11 (d := d_hull) rfl
  exact goodF_of F s_hull (He.glo_ok X G ((c).fact 11 (f := .glo "hull") rfl)) (F.bindsN (fun _ _ _ _ _ _ us hl => match us, hl with | [_], _ => rfl)) (bf X G c) tb (fun _ => rfl) (And.intro (And.intro ((g_look_track X G c tb).mono (by first | decide | omega)) (And.intro trivial trivial)) (And.intro (And.intro sortedSetG (And.intro (And.intro ((g_places_of X G c tb).mono (by first | decide | omega)) (And.intro trivial trivial)) trivial)) (And.intro (And.intro (And.intro eqG (And.intro (And.intro lenG (And.intro trivial trivial)) (And.intro trivial trivial))) (And.intro (And.intro trivial trivial) trivial)) (And.intro (And.intro addG (And.intro (And.intro slUG (And.intro (And.intro ((g_half_hull X G c tb).mono (by first | decide | omega)) (And.intro trivial trivial)) (And.intro (And.intro negG (And.intro trivial trivial)) trivial))) (And.intro (And.intro slUG (And.intro (And.intro ((g_half_hull X G c tb).mono (by first | decide | omega)) (And.intro (And.intro revG (And.intro trivial trivial)) trivial)) (And.intro (And.intro negG (And.intro trivial trivial)) trivial))) trivial))) trivial)))) k_hull
theorem g_are_kept {P : Program} {w : World} {K : PySem.W.Frag} {mg : Str → Option Value} {h base : Heap} (X : K.In h) (G : h.Ns mainGlobals mg) (c : He.SaysD fa fn K) (tb : PL.TabBs K mg base) : GoodF P w K mg base 2 "are_kept" f_are_kept := by
  obtain ⟨fd, F⟩ := (c).def_ 12 (d := d_are_kept) rfl
  exact goodF_of F s_are_kept (He.glo_ok X G ((c).fact 12 (f := .glo "are_kept") rfl)) (F.bindsN (fun _ _ _ _ _ _ us hl => match us, hl with | [_, _], _ => rfl)) (bf X G c) tb (fun _ => rfl) (And.intro (And.intro (And.intro (And.intro isTupleG (And.intro trivial trivial)) (And.intro (And.intro eqG (And.intro trivial (And.intro (And.intro tupG trivial) trivial))) (And.intro allG (And.intro (And.intro trivial (And.intro trivial (And.intro ((g_is_whole X G c tb).mono (by first | decide | omega)) (And.intro trivial (And.intro trivial (And.intro (And.intro subG (And.intro (And.intro lenG (And.intro trivial trivial)) (And.intro trivial trivial))) trivial)))))) trivial)))) (And.intro (And.intro trivial trivial) trivial)) (And.intro (And.intro eqG (And.intro (And.intro listOfG (And.intro trivial trivial)) (And.intro (And.intro sortedSetUG (And.intro trivial trivial)) trivial))) trivial)) k_are_kept
theorem g_points_of {P : Program} {w : World} {K : PySem.W.Frag} {mg : Str → Option Value} {h base : Heap} (X : K.In h) (G : h.Ns mainGlobals mg) (c : He.SaysD fa fn K) (tb : PL.TabBs K mg base) : GoodF P w K mg base 5 "points_of" f_points_of := by
  obtain ⟨fd, F⟩ := (c).def_ 13 (d := d_points_of) rfl
  exact goodF_of F s_points_of (He.glo_ok X G ((c).fact 13 (f := .glo "points_of") rfl)) (F.bindsN (fun _ _ _ _ _ _ us hl => match us, hl with | [_, _], _ => rfl)) (bf X G c) tb (fun _ => rfl) (And.intro (And.intro ((g_look_track X G c tb).mono (by first | decide | omega)) (And.intro trivial trivial)) (And.intro (And.intro (And.intro ((g_are_kept X G c tb).mono (by first | decide | omega)) (And.intro trivial (And.intro trivial trivial))) (And.intro (And.intro (rc_NoPoint X G c) trivial) trivial)) (And.intro (And.intro tupleOfG (And.intro (And.intro trivial (And.intro trivial (And.intro ixG (And.intro trivial (And.intro trivial trivial))))) trivial)) trivial))) k_points_of
theorem g__law_cell {P : Program} {w : World} {K : PySem.W.Frag} {mg : Str → Option Value} {h base : Heap} (X : K.In h) (G : h.Ns mainGlobals mg) (c : He.SaysD fa fn K) (tb : PL.TabBs K mg base) : GoodF P w K mg base 1 "_law_cell" f__law_cell := by
  obtain ⟨fd, F⟩ := (c).def_ 14 (d := d__law_cell) rfl
  have z : GoodF P w K mg base 1 "_law_cell" (callD 2 2 b__law_cell) := goodF_of F s__law_cell (He.glo_ok X G ((c).fact 14 (f := .glo "_law_cell") rfl)) (F.bindsN (fun _ _ _ _ _ _ us hl => match us, hl with | [_, _], _ => rfl)) (bf X G c) tb (fun _ => rfl) (And.intro (And.intro (And.intro ltG (And.intro trivial (And.intro (And.intro lenG (And.intro trivial trivial)) trivial))) (And.intro (And.intro (And.intro ixG (And.intro trivial (And.intro trivial trivial))) trivial) trivial)) (And.intro (And.intro (And.intro eqG (And.intro trivial (And.intro (And.intro lstG trivial) trivial))) (And.intro (And.intro trivial trivial) trivial)) (And.intro (And.intro addG (And.intro (And.intro mulG (And.intro (And.intro ixG (And.intro trivial (And.intro (And.intro modG (And.intro trivial (And.intro (And.intro lenG (And.intro trivial trivial)) trivial))) trivial))) (And.intro trivial trivial))) (And.intro trivial trivial))) trivial))) k__law_cell
  exact z.ref r__law_cell
theorem g__law_pick {P : Program} {w : World} {K : PySem.W.Frag} {mg : Str → Option Value} {h base : Heap} (X : K.In h) (G : h.Ns mainGlobals mg) (c : He.SaysD fa fn K) (tb : PL.TabBs K mg base) : GoodF P w K mg base 2 "_law_pick" f__law_pick := by
  obtain ⟨fd, F⟩ := (c).def_ 15 (d := d__law_pick) rfl
  have z : GoodF P w K mg base 2 "_law_pick" (callD 4 3 b__law_pick) := goodF_of F s__law_pick (He.glo_ok X G ((c).fact 15 (f := .glo "_law_pick") rfl)) (F.bindsN (fun _ _ _ _ _ _ us hl => match us, hl with | [_, _, _], _ => rfl)) (bf X G c) tb (fun _ => rfl) (And.intro (And.intro modG (And.intro (And.intro mulG (And.intro (And.intro addG (And.intro (And.intro ((g__law_cell X G c tb).mono (by first | decide | omega)) (And.intro trivial (And.intro trivial trivial))) (And.intro (And.intro mulG (And.intro trivial (And.intro (And.intro addG (And.intro trivial (And.intro trivial trivial))) trivial))) trivial))) (And.intro trivial trivial))) (And.intro trivial trivial))) (And.intro (And.intro modG (And.intro (And.intro modG (And.intro (And.intro addG (And.intro (And.intro mulG (And.intro trivial (And.intro trivial trivial))) (And.intro (And.intro fdvG (And.intro trivial (And.intro trivial trivial))) trivial))) (And.intro trivial trivial))) (And.intro trivial trivial))) trivial)) k__law_pick
  exact z.ref r__law_pick
theorem g__law_small {P : Program} {w : World} {K : PySem.W.Frag} {mg : Str → Option Value} {h base : Heap} (X : K.In h) (G : h.Ns mainGlobals mg) (c : He.SaysD fa fn K) (tb : PL.TabBs K mg base) : GoodF P w K mg base 3 "_law_small" f__law_small := by
  obtain ⟨fd, F⟩ := (c).def_ 16 (d := d__law_small) rfl
  exact goodF_of F s__law_small (He.glo_ok X G ((c).fact 16 (f := .glo "_law_small") rfl)) (F.bindsN (fun _ _ _ _ _ _ us hl => match us, hl with | [_, _, _], _ => rfl)) (bf X G c) tb (fun _ => rfl) (And.intro (And.intro (And.intro lstG trivial) (And.intro trivial (And.intro trivial trivial))) (And.intro (And.intro (And.intro (And.intro addG (And.intro trivial (And.intro (And.intro ((g__law_pick X G c tb).mono (by first | decide | omega)) (And.intro trivial (And.intro trivial (And.intro trivial trivial)))) trivial))) trivial) (And.intro (And.intro tupG (And.intro (And.intro addG (And.intro (And.intro mulG (And.intro trivial (And.intro trivial trivial))) (And.intro trivial trivial))) (And.intro trivial (And.intro trivial trivial)))) (And.intro (And.intro ixG (And.intro (And.intro lstG (And.intro trivial (And.intro trivial (And.intro trivial trivial)))) (And.intro (And.intro ((g__law_pick X G c tb).mono (by first | decide | omega)) (And.intro trivial (And.intro (And.intro addG (And.intro trivial (And.intro trivial trivial))) (And.intro trivial trivial)))) trivial))) (And.intro (And.intro subG (And.intro (And.intro addG (And.intro trivial (And.intro (And.intro ((g__law_pick X G c tb).mono (by first | decide | omega)) (And.intro trivial (And.intro (And.intro addG (And.intro (And.intro addG (And.intro trivial (And.intro (And.intro mulG (And.intro trivial (And.intro trivial trivial))) trivial))) (And.intro trivial trivial))) (And.intro trivial trivial)))) trivial))) (And.intro (And.intro fdvG (And.intro trivial (And.intro trivial trivial))) trivial))) (And.intro (And.intro subG (And.intro (And.intro addG (And.intro trivial (And.intro (And.intro ((g__law_pick X G c tb).mono (by first | decide | omega)) (And.intro trivial (And.intro (And.intro addG (And.intro (And.intro addG (And.intro trivial (And.intro (And.intro mulG (And.intro trivial (And.intro trivial trivial))) trivial))) (And.intro trivial trivial))) (And.intro trivial trivial)))) trivial))) (And.intro (And.intro fdvG (And.intro trivial (And.intro trivial trivial))) trivial))) trivial))))) (And.intro (And.intro tupleOfG (And.intro trivial trivial)) trivial))) k__law_small
theorem g__law_det {P : Program} {w : World} {K : PySem.W.Frag} {mg : Str → Option Value} {h base : Heap} (X : K.In h) (G : h.Ns mainGlobals mg) (c : He.SaysD fa fn K) (tb : PL.TabBs K mg base) : GoodF P w K mg base 1 "_law_det" f__law_det := by
  obtain ⟨fd, F⟩ := (c).def_ 17 (d := d__law_det) rfl
  exact goodF_of F s__law_det (He.glo_ok X G ((c).fact 17 (f := .glo "_law_det") rfl)) (F.bindsN (fun _ _ _ _ _ _ us hl => match us, hl with | [_, _], _ => rfl)) (bf X G c) tb (fun _ => rfl) (And.intro (And.intro subG (And.intro (And.intro mulG (And.intro (And.intro ixG (And.intro trivial (And.intro trivial trivial))) (And.intro (And.intro ixG (And.intro trivial (And.intro trivial trivial))) trivial))) (And.intro (And.intro mulG (And.intro (And.intro ixG (And.intro trivial (And.intro trivial trivial))) (And.intro (And.intro ixG (And.intro trivial (And.intro trivial trivial))) trivial))) trivial))) trivial) k__law_det
theorem g__law_way {P : Program} {w : World} {K : PySem.W.Frag} {mg : Str → Option Value} {h base : Heap} (X : K.In h) (G : h.Ns mainGlobals mg) (c : He.SaysD fa fn K) (tb : PL.TabBs K mg base) : GoodF P w K mg base 1 "_law_way" f__law_way := by
  obtain ⟨fd, F⟩ := (c).def_ 18 (d := d__law_way) rfl
  exact goodF_of F s__law_way (He.glo_ok X G ((c).fact 18 (f := .glo "_law_way") rfl)) (F.bindsN (fun _ _ _ _ _ _ us hl => match us, hl with | [_, _], _ => rfl)) (bf X G c) tb (fun _ => rfl) (And.intro (And.intro tupG (And.intro (And.intro subG (And.intro (And.intro ixG (And.intro trivial (And.intro trivial trivial))) (And.intro (And.intro ixG (And.intro trivial (And.intro trivial trivial))) trivial))) (And.intro (And.intro subG (And.intro (And.intro ixG (And.intro trivial (And.intro trivial trivial))) (And.intro (And.intro ixG (And.intro trivial (And.intro trivial trivial))) trivial))) trivial))) trivial) k__law_way
theorem g__law_track {P : Program} {w : World} {K : PySem.W.Frag} {mg : Str → Option Value} {h base : Heap} (X : K.In h) (G : h.Ns mainGlobals mg) (c : He.SaysD fa fn K) (tb : PL.TabBs K mg base) : GoodF P w K mg base 3 "_law_track" f__law_track := by
  obtain ⟨fd, F⟩ := (c).def_ 19 (d := d__law_track) rfl
  exact goodF_of F s__law_track (He.glo_ok X G ((c).fact 19 (f := .glo "_law_track") rfl)) (F.bindsN (fun _ _ _ _ _ _ us hl => match us, hl with | [_, _, _], _ => rfl)) (bf X G c) tb (fun _ => rfl) (And.intro (And.intro addG (And.intro trivial (And.intro (And.intro ((g__law_pick X G c tb).mono (by first | decide | omega)) (And.intro trivial (And.intro trivial (And.intro trivial trivial)))) trivial))) (And.intro (And.intro ixG (And.intro (And.intro lstG (And.intro trivial (And.intro trivial (And.intro trivial trivial)))) (And.intro (And.intro ((g__law_pick X G c tb).mono (by first | decide | omega)) (And.intro trivial (And.intro (And.intro addG (And.intro trivial (And.intro trivial trivial))) (And.intro trivial trivial)))) trivial))) (And.intro (And.intro ((g__law_pick X G c tb).mono (by first | decide | omega)) (And.intro trivial (And.intro (And.intro addG (And.intro trivial (And.intro trivial trivial))) (And.intro trivial trivial)))) (And.intro (And.intro (And.intro subG (And.intro (And.intro ((g__law_pick X G c tb).mono (by first | decide | omega)) (And.intro trivial (And.intro (And.intro addG (And.intro trivial (And.intro trivial trivial))) (And.intro trivial trivial)))) (And.intro trivial trivial))) (And.intro (And.intro subG (And.intro (And.intro ((g__law_pick X G c tb).mono (by first | decide | omega)) (And.intro trivial (And.intro (And.intro addG (And.intro trivial (And.intro trivial trivial))) (And.intro trivial trivial)))) (And.intro trivial trivial))) trivial)) (And.intro (And.intro lstG (And.intro (And.intro tupG (And.intro trivial (And.intro trivial (And.intro trivial trivial)))) trivial)) (And.intro (And.intro (And.intro trivial (And.intro trivial trivial)) (And.intro (And.intro addG (And.intro (And.intro addG (And.intro trivial (And.intro trivial trivial))) (And.intro (And.intro ((g__law_pick X G c tb).mono (by first | decide | omega)) (And.intro trivial (And.intro (And.intro addG (And.intro trivial (And.intro (And.intro mulG (And.intro trivial (And.intro trivial trivial))) trivial))) (And.intro (And.intro ixG (And.intro (And.intro lstG (And.intro trivial (And.intro trivial (And.intro trivial trivial)))) (And.intro (And.intro ((g__law_pick X G c tb).mono (by first | decide | omega)) (And.intro trivial (And.intro (And.intro addG (And.intro (And.intro addG (And.intro trivial (And.intro trivial trivial))) (And.intro trivial trivial))) (And.intro trivial trivial)))) trivial))) trivial)))) trivial))) (And.intro (And.intro max2G (And.intro (And.intro negG (And.intro trivial trivial)) (And.intro (And.intro min2G (And.intro trivial (And.intro (And.intro subG (And.intro (And.intro addG (And.intro trivial (And.intro (And.intro ((g__law_pick X G c tb).mono (by first | decide | omega)) (And.intro trivial (And.intro (And.intro addG (And.intro (And.intro addG (And.intro trivial (And.intro (And.intro mulG (And.intro trivial (And.intro trivial trivial))) trivial))) (And.intro trivial trivial))) (And.intro (And.intro addG (And.intro (And.intro mulG (And.intro trivial (And.intro trivial trivial))) (And.intro trivial trivial))) trivial)))) trivial))) (And.intro trivial trivial))) trivial))) trivial))) (And.intro (And.intro max2G (And.intro (And.intro negG (And.intro trivial trivial)) (And.intro (And.intro min2G (And.intro trivial (And.intro (And.intro subG (And.intro (And.intro addG (And.intro trivial (And.intro (And.intro ((g__law_pick X G c tb).mono (by first | decide | omega)) (And.intro trivial (And.intro (And.intro addG (And.intro (And.intro addG (And.intro trivial (And.intro (And.intro mulG (And.intro trivial (And.intro trivial trivial))) trivial))) (And.intro trivial trivial))) (And.intro (And.intro addG (And.intro (And.intro mulG (And.intro trivial (And.intro trivial trivial))) (And.intro trivial trivial))) trivial)))) trivial))) (And.intro trivial trivial))) trivial))) trivial))) (And.intro (And.intro (And.intro eqG (And.intro (And.intro ((g__law_pick X G c tb).mono (by first | decide | omega)) (And.intro trivial (And.intro (And.intro addG (And.intro (And.intro addG (And.intro trivial (And.intro (And.intro mulG (And.intro trivial (And.intro trivial trivial))) trivial))) (And.intro trivial trivial))) (And.intro trivial trivial)))) (And.intro trivial trivial))) (And.intro (And.intro (And.intro slLG (And.intro (And.intro ixG (And.intro trivial (And.intro (And.intro negG (And.intro trivial trivial)) trivial))) (And.intro trivial trivial))) trivial) trivial)) (And.intro (And.intro tupG (And.intro trivial (And.intro trivial (And.intro trivial trivial)))) trivial)))))) (And.intro (And.intro tupleOfG (And.intro trivial trivial)) trivial))))))) k__law_track
theorem fin {P : Program} {w : World} {K : PySem.W.Frag} {mg : Str → Option Value} {h : Heap} {at_ : Addr} (X : K.In h) (G : h.Ns mainGlobals mg) (hm : mg "law" = some (.ref at_)) (c : He.SaysD fa fn K) :
    ∃ (fd : FuncData) (sp : Sp), (∀ (s : Shared) (u : Value), BindsTo s fd ⟨[u], []⟩ [("script", u)]) ∧
      (∀ (H : Hp) (a : Addr) (ns : List Int), ns.length ≤ 63 → Only H → SqL K H a (ns.map V.int) → sp [.ref a] H (fun v _ => v = .bl true) fun _ _ _ => False) ∧
        ∀ base : Heap, K.In base → base.Ns mainGlobals mg → FnOk P w K mg base CX0 6 at_ fd ["script"] sp := by
  obtain ⟨fd, F⟩ := (c).def_ 20 (d := d_law) rfl
  have e := He.glo_ok X G ((c).fact 20 (f := .glo "law") rfl)
  rw [hm] at e
  obtain rfl := Value.ref.inj (Option.some.inj e)
  have gd : ∀ base : Heap, PL.TabBs K mg base → goodS (GoodF P w K mg base 5) (GC ⟨P, w, K, mg, base, 5, "law" ++ ".<locals>."⟩) (RaiseC K mg) b_law := fun base tb => (And.intro (And.intro (And.intro eqG (And.intro (And.intro ((g__law_pick X G c tb).mono (by first | decide | omega)) (And.intro trivial (And.intro trivial (And.intro trivial trivial)))) (And.intro trivial trivial))) (And.intro (And.intro ((g__law_small X G c tb).mono (by first | decide | omega)) (And.intro trivial (And.intro trivial (And.intro trivial trivial)))) (And.intro ((g__law_track X G c tb).mono (by first | decide | omega)) (And.intro trivial (And.intro trivial (And.intro trivial trivial)))))) (And.intro (And.intro ((g_hull X G c tb).mono (by first | decide | omega)) (And.intro trivial trivial)) (And.intro (And.intro tupleOfG (And.intro (And.intro trivial (And.intro trivial (And.intro tupG (And.intro trivial (And.intro trivial (And.intro trivial trivial)))))) trivial)) (And.intro (And.intro (And.intro (And.intro neG (And.intro (And.intro ((g_hull X G c tb).mono (by first | decide | omega)) (And.intro trivial trivial)) (And.intro trivial trivial))) (And.intro neG (And.intro (And.intro ((g_crossings X G c tb).mono (by first | decide | omega)) (And.intro trivial trivial)) (And.intro (And.intro lstG trivial) trivial)))) (And.intro (And.intro trivial trivial) trivial)) (And.intro (And.intro (And.intro neG (And.intro (And.intro gtG (And.intro (And.intro ((g_twice_area X G c tb).mono (by first | decide | omega)) (And.intro trivial trivial)) (And.intro trivial trivial))) (And.intro (And.intro gtG (And.intro (And.intro lenG (And.intro trivial trivial)) (And.intro trivial trivial))) trivial))) (And.intro (And.intro trivial trivial) trivial)) (And.intro (And.intro tupleOfG (And.intro (And.intro (And.intro (And.intro lenG (And.intro trivial trivial)) trivial) (And.intro (And.intro gtG (And.intro (And.intro ((g__law_pick X G c tb).mono (by first | decide | omega)) (And.intro trivial (And.intro (And.intro addG (And.intro trivial (And.intro trivial trivial))) (And.intro trivial trivial)))) (And.intro trivial trivial))) trivial)) trivial)) (And.intro (And.intro (And.intro eqG (And.intro trivial (And.intro (And.intro tupG trivial) trivial))) (And.intro (And.intro trivial trivial) trivial)) (And.intro (And.intro ((g_hull X G c tb).mono (by first | decide | omega)) (And.intro (And.intro ((g_points_of X G c tb).mono (by first | decide | omega)) (And.intro trivial (And.intro trivial trivial))) trivial)) (And.intro (And.intro (And.intro gtG (And.intro (And.intro ((g_twice_area X G c tb).mono (by first | decide | omega)) (And.intro (And.intro tupleOfG (And.intro (And.intro trivial (And.intro trivial (And.intro tupG (And.intro trivial (And.intro trivial (And.intro trivial trivial)))))) trivial)) trivial)) (And.intro (And.intro ((g_twice_area X G c tb).mono (by first | decide | omega)) (And.intro trivial trivial)) trivial))) (And.intro (And.intro trivial trivial) trivial)) (And.intro (And.intro (And.intro ltG (And.intro (And.intro lenG (And.intro trivial trivial)) (And.intro trivial trivial))) (And.intro (And.intro (And.intro eqG (And.intro (And.intro trivial (And.intro (And.intro lePO (And.intro lePO (And.intro (And.intro ixG (And.intro trivial (And.intro trivial trivial))) (And.intro trivial (And.intro ixG (And.intro trivial (And.intro (And.intro negG (And.intro trivial trivial)) trivial))))))) trivial)) (And.intro (And.intro lstG trivial) trivial))) trivial) trivial)) (And.intro (And.intro (And.intro (And.intro lenG (And.intro trivial trivial)) trivial) (And.intro (And.intro (And.intro ixG (And.intro trivial (And.intro (And.intro subG (And.intro trivial (And.intro trivial trivial))) trivial))) (And.intro (And.intro ixG (And.intro trivial (And.intro trivial trivial))) trivial)) (And.intro (And.intro (And.intro neG (And.intro (And.intro trivial (And.intro (And.intro ltG (And.intro (And.intro ((g__law_det X G c tb).mono (by first | decide | omega)) (And.intro (And.intro ((g__law_way X G c tb).mono (by first | decide | omega)) (And.intro trivial (And.intro trivial trivial))) (And.intro (And.intro ((g__law_way X G c tb).mono (by first | decide | omega)) (And.intro trivial (And.intro trivial trivial))) trivial))) (And.intro trivial trivial))) trivial)) (And.intro (And.intro lstG trivial) trivial))) (And.intro (And.intro trivial trivial) trivial)) trivial))) (And.intro (And.intro eqG (And.intro (And.intro trivial (And.intro (And.intro (And.intro inG (And.intro trivial (And.intro (And.intro trivial (And.intro trivial (And.intro slLG (And.intro (And.intro ixG (And.intro trivial (And.intro trivial trivial))) (And.intro trivial trivial))))) trivial))) (And.intro niG (And.intro trivial (And.intro trivial trivial)))) trivial)) (And.intro (And.intro lstG trivial) trivial))) trivial))))))))))))
  exact law_end F (fun _ _ _ _ _ _ us hl => match us, hl with | [_], _ => rfl) rfl (fun base tb => fnOk_of F s_law (bf X G c) tb (fun _ => rfl) (gd base tb) k_law) law_true
def loose : List PySem.Str := (["TrackError", "NoTrack", "NoPoint", "LAST", "FARTHEST", "MOST", "is_whole", "is_point", "is_track", "look_track", "crossed", "places_of", "twice_area", "is_on", "have_common", "crossings", "half_hull", "hull", "are_kept", "points_of", "_law_cell", "_law_pick", "_law_small", "_law_det", "_law_way", "_law_track"] : List PySem.Str)
abbrev R : PySem.W.OpenRow := PySem.W.OpenLaw.row PySem.Challenge.rw_tracklines_k32_whole_hulls_within_hulls
abbrev hk : PySem.W.Hook := He.hookD 4 fa fn
def ob (s : PySem.W.SharedT) : He.AlD := He.obsDG 4 fa fn (HandSHeadRun.getT s)
theorem ob_eq (s : PySem.W.SharedT) : ob s = hk.obs s.abs := He.obsDG_eq (HandSHeadRun.getT_eq s)
theorem run_top (w : World) : HandSHeadRun.RunEq R (PySem.W.view R.prog [31]) hk ob 2320 loose w := by
  intro os
  kernel_rfl
end Pk32
open PySem PySem.W PySem.Calls PyProof.Rows
theorem PySem.Challenge.cw_tracklines_k32_whole_hulls_within_hulls_holds : PySem.Challenge.rw_tracklines_k32_whole_hulls_within_hulls.Holds := by
  w_on; o_law
  refine HandSHeadRun.head_any (r := OpenLaw.row PySem.Challenge.rw_tracklines_k32_whole_hulls_within_hulls) (q := view (OpenLaw.row PySem.Challenge.rw_tracklines_k32_whole_hulls_within_hulls).prog [31]) (H := Pk32.hk) (ob := Pk32.ob) (M := 2320) (loose := Pk32.loose) (d := HandSHeadRun.topDef (OpenLaw.row PySem.Challenge.rw_tracklines_k32_whole_hulls_within_hulls).prog 31) (kwd := []) Pk32.ob_eq (by kernel_rfl) (fun s => by kernel_rfl) Pk32.run_top (by kernel_rfl) (by kernel_rfl) (by kernel_rfl) (by rfl) (by first | assumption | decide +kernel) (by decide +kernel) ⟨rfl, rfl, rfl, rfl, rfl, by decide +kernel⟩ ?hw ?hc
  case hw => w_witness2
  case hc =>
    refine L2.walk_ofE (l := PySem.Challenge.rw_tracklines_k32_whole_hulls_within_hulls) (n := 63) (k := 6) (x := "script") (CX := L2.CX0) rfl (by decide) (by kernel_rfl) ⟨rfl, by decide, by decide⟩ ?F (fun _ _ _ _ z => z)
    intro w mg lawAt h Y G named
    obtain ⟨K, KX, c⟩ := Y
    have lawIs : mg ("law" : PySem.Str) = some (.ref lawAt) := by
      have nm : (HandSHeadRun.topDef (OpenLaw.row PySem.Challenge.rw_tracklines_k32_whole_hulls_within_hulls).prog 31).name = ("law" : PySem.Str) := by kernel_rfl
      rw [← nm]; exact named
    obtain ⟨fd, sp, p1, p2, p3⟩ := Pk32.fin (P := (PySem.Challenge.rw_tracklines_k32_whole_hulls_within_hulls).prog) (w := w) KX G lawIs c
    exact ⟨K, fd, sp, KX, p1, p2, p3⟩
