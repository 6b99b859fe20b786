import PyProof.Rows.All
import Wide.All
import OpenK.AllK
import Wide.FinOn
import HandS.ForMost
import HandS.Exc
import HandS.ExcOwn
import HandS.TryOnly
import HandS.ExcIs
import HandS.HeadHook4
import HandS.WordsExc
import HandS.Zip
import HandS.TupAny
import HandS.Style
import HandS.Wide
import HandS.Deep
import HandS.IsInst
import HandS.TupSets
import HandS.Conv
import HandS.ExcValue
import HandS.Lambda
import HandS.Iter
import KE.GoesMore
import HandS.Defaults
import HandS.Ends
import HandS.HeadEnd
import HandS.HeadWalk
import KE.KRevSl
import HandS.Dict
import HandS.Strs
import HandS.SortRule
import HandS.SortInts
import HandS.HeadHook1
import HandS.HeadHook2
import PyProof.Rows.Range3
import PyProof.Rows.ChunkLeaf
import HandS.SetFor
import HandS.NamedTupSort
import HandS.DictTup
import KE.SortData
import KE.DataMinMax
import HandS.HotCalls
import HandS.Words
import HandS.Head0
import HandS.Head1
import HandS.Head2
import PySem.Challenge.RW_tracklines_k21_whole_cells
set_option Elab.async false
set_option linter.all false
set_option maxRecDepth 100000
set_option maxHeartbeats 0
namespace PL
open PySem PySem.Spec PyProof.Rows L2
/-! ## a caught error is known from then on -/
def ExC (cls : Value) (a : Addr) : HO := .ext fun h => ∃ oe, h.get? a = some oe ∧ Zc cls none oe ∧ ∃ vs, oe.data = .fields vs
theorem exC_ok {P : Program} {w : World} {H : Hp} {h : Heap} {a : Addr} {cls : Value} {oe : Obj} (e : h.get? a = some oe) (z : Zc cls none oe) (d : ∃ vs, oe.data = .fields vs) : ObjOk P w H h a (ExC cls a) := by
  refine ⟨⟨oe, e, z, d⟩, ⟨oe, e⟩, fun h1 h2 ⟨o, e1, z1, d1⟩ k => ⟨o, k o e1, z1, d1⟩⟩
/-- an object that lies there, and was not there when the frame began, is tracked from now on -/
theorem adopt {X : Cx} {pins : List (Addr × Obj)} {σ : L2.St} {H : Hp} {s : Shared} {a : Addr} {o : HO} (I : Inv X pins σ H s) (na : H a = none) (n0 : X.s_0.heap.get? a = none) (nL : a ≠ X.env.locals) (nc : ∀ x c, X.env.cells.lookup x = some c → c ≠ a) (np : ∀ p ∈ X.pn ++ pins, p.1 ≠ a)
    (ok : ObjOk X.prog X.w (upd H a o) s.heap a o) : Inv X pins σ (upd H a o) s := by
  have ne : ∀ {b u}, H b = some u → b ≠ a := fun e z => by rw [z, na] at e; cases e
  refine ⟨I.ok, I.os, I.bare, ⟨I.base.keep, I.base.slot, fun b ob e n hx => ?_, I.base.there, fun b xs e => ?_, fun b ob u e => ?_, fun b ps e => ?_⟩, I.loc, I.cell, ?_, fun x c e => ?_, fun p hp => ?_, fun b ob e => ?_, I.len⟩
  · have : b ≠ a := fun z => by rw [z, n0] at e; cases e
    rw [upd_ne this]; exact I.base.free b ob e n hx
  · have q := I.base.tups b xs e
    rw [upd_ne (ne q)]; exact q
  · have q := I.base.frzs b ob u e
    rw [upd_ne (ne q)]; exact q
  · obtain ⟨more, q⟩ := I.base.tbls b ps e
    exact ⟨more, by rw [upd_ne (ne q)]; exact q⟩
  · rw [upd_ne (Ne.symm nL)]; exact I.free
  · rw [upd_ne (nc x c e)]; exact I.freeC x c e
  · obtain ⟨p1, p2, p3⟩ := I.pin p hp
    exact ⟨p1, by rw [upd_ne (np p hp)]; exact p2, p3⟩
  · by_cases z : b = a
    · subst z
      rw [upd_same] at e
      cases e
      exact ok
    · rw [upd_ne z] at e
      exact (I.hok b ob e).stay (fun _ _ _ q => q) (fun c q => by rw [upd_ne (ne q)]; exact q) fun c xs q => by rw [upd_ne (ne q)]; exact q
/-- what the clause 'except x as n' wishes of an exception of the body: slot i is n's; the error is tracked -/
def wExc (K : PySem.W.Frag) (n : Nat) (c : Value) (i : Nat) (ts : Addr → Value → TS) (Wout : WX) (D : Ends) : WX := fun cls d σ H =>
  ∃ b, PySem.W.exmOne K cls c = some b ∧ (b = true → d = none ∧ ∀ a, H a = none → σ.length = n → ts a cls { nx := fun σ' H' => D.nx (σ'.set i none) H', rt := D.rt, bk := fun σ' H' => D.bk (σ'.set i none) H', ct := fun σ' H' => D.ct (σ'.set i none) H' } (σ.set i (some (.ref a))) (upd H a (ExC cls a))) ∧
    (b = false → Wout cls d σ H)
theorem Inv.suite0 {X : Cx} {pins : List (Addr × Obj)} {σ : L2.St} {H : Hp} {s : Shared} (I : Inv X pins σ H s) (a : Addr) : Inv (X.suite a (X.pn ++ pins)) [] σ H s :=
  ⟨I.ok.suite _ _, I.os, I.bare, I.base, I.loc, I.cell, I.free, I.freeC, fun p hp => I.pin p (by rw [List.append_nil] at hp; exact hp), I.hok, I.len⟩
theorem Inv.unsuite0 {X : Cx} {pins pn' : List (Addr × Obj)} {σ : L2.St} {H : Hp} {s : Shared} {a : Addr} (I : Inv (X.suite a (X.pn ++ pins)) pn' σ H s) (ok : X.Ok) : Inv X pins σ H s :=
  ⟨ok, I.os, I.bare, I.base, I.loc, I.cell, I.free, I.freeC, fun p hp => I.pin p (List.mem_append_left _ hp), I.hok, I.len⟩
section
variable {X : Cx} {x n : Str} {c : Value} {i : Nat} {body suite : List Stmt} {b₀ : Stmt} {np pos pos' : Pos} {tb : WX → TS} {ts : Addr → Value → TS} {Wout : WX}
theorem ps_try_exc (hs : X.stack = X.env :: X.outer) (hf : X.env.frame = some X.env.locals) (hx0 : X.ex = []) (hN : X.N.Nodup) (hi : X.N[i]? = some n) (hln : X.env.kindOf n = some .local) (hc : Names X x c) (tk : Takes X Wout)
    (hb : ∀ (W : WX) (pn : List (Addr × Obj)) (xe : Value → Shared → Prop), Takes (X.tr pn xe) W → PassesOwn (model X.prog X.w) X.A X.env xe → PSs (X.tr pn xe) body (tb W))
    (hsu : ∀ (a : Addr) (cls : Value) (pn : List (Addr × Obj)), PSs (X.suite a pn) (b₀ :: suite) (ts a cls)) :
    PS X (.Try body [.ExceptHandler (some (.Name x np)) (some n) (b₀ :: suite) pos'] [] [] pos) (fun D σ H => tb (wExc X.K X.N.length c i ts Wout D) D σ H) := by
  refine ⟨fun pins s σ H D I h => ?_⟩
  have ok := I.ok
  have hfr : X.A.frames = some (X.env :: X.outer) := by rw [ok.frames, hs]
  have hloc : Loc X.env.scope n := .inl hln
  refine wpAny_Try_except ?_
  refine wpAny_mono ((hb (wExc X.K X.N.length c i ts Wout D) (X.pn ++ pins) (fun e s₁ => wpAny (model X.prog X.w) X.A (noteFrame e X.env) (fun _ s₂ => wpAny (model X.prog X.w) X.A (setFlight e none) (fun _ s₃ =>
    wpAny (model X.prog X.w) X.A (handleBy e X.env [.ExceptHandler (some (.Name x np)) (some n) (b₀ :: suite) pos']) (SP X pins D) X.xe s₃) X.xe s₂) X.xe s₁) (fun u s' xx => ?_) PassesOwn.looking).run [] s σ H D (I.toTry _) h) (fun f s1 hsp => ?_) (fun e s1 he => he)
  · -- the catch
    obtain ⟨a, B, sI, pins', σ', H', cls, d, rfl, J', nb, up, sky, na, os, ag, b, hb1, hyes, hno⟩ := xx
    have J : Inv X pins σ' H' sI := J'.ofTry ok
    have sky' : Sky B (X.env :: X.outer) a (Zc cls d) X.env.locals s'.heap := by rw [← hs]; exact sky
    show wpAny (model X.prog X.w) X.A (noteFrame (.ref a) X.env) _ _ _
    refine Sky.land Zc.steady hfr hf sky' fun h3 fl3 up3 => ?_
    have J3 : Inv X pins σ' H' { s' with heap := h3 } := J.landed nb fl3.1 (up.trans up3) os ag
    obtain ⟨oe3, vs3, he3, hz3, hd3⟩ := fl3.there
    have notFr : ∀ {h : Heap} {o : Obj} {vs : Array Value}, h.FunFrames B (X.env :: X.outer) → h.get? a = some o → o.data = .fields vs → a ∉ frs (X.env :: X.outer) := fun {h o vs} ff e dd hm => by
      obtain ⟨_, o', e', hnf⟩ := ff.mem hm
      rw [e] at e'; cases e'
      exact hnf _ dd
    have nfr := notFr fl3.2.2.1 he3 hd3
    have nL : a ≠ X.env.locals := fun z => nfr (List.mem_filterMap.mpr ⟨X.env, List.mem_cons_self, by rw [hf, z]⟩)
    have nF : a ∉ X.fs := fun hm => by
      obtain ⟨e, he, q⟩ := List.mem_filterMap.mp hm
      exact nfr (List.mem_filterMap.mpr ⟨e, List.mem_cons_of_mem _ he, q⟩)
    have nB : B.get? a = none := fl3.2.1
    have nI : sI.heap.get? a = none := by
      cases e : sI.heap.get? a with
      | none => rfl
      | some o =>
        have := nb a o e (by rw [hs]; exact nfr)
        rw [nB] at this
        cases this
    have n0 : X.s_0.heap.get? a = none := by
      cases e : X.s_0.heap.get? a with
      | none => rfl
      | some o =>
        obtain ⟨o', q⟩ := J.base.there a o e (by rw [hx0]; exact List.not_mem_nil)
        rw [nI] at q
        cases q
    have S3 := J3.suite he3 hd3 na nL nF
    refine wpAny_handleBy_cons (codeAny_handlers_test ?_) (by intro q; cases q)
    have LT : PySem.W.Looks (model X.prog X.w) h3 (typeOf (.ref a)) cls := fun A Q E s k q => wpAny_typeOf_ref (k _ _ he3) (by rw [hz3.1]; exact q)
    have LM := PySem.W.exm_one (M := model X.prog X.w) (J3.kIn) LT hb1
    have test : ∀ {Q : Value → Shared → Prop} {E : Value → Shared → Prop}, Q c { s' with heap := h3 } → wpAny (model X.prog X.w) (X.A.mark (some (.ref a))) (eval (.Name x np) X.env) Q E { s' with heap := h3 } := fun {Q E} q => by
      obtain ⟨hg, hdbg, hm | ⟨hm, hv, hnn⟩⟩ := hc
      · exact ld_glob (X := X.suite a ((a, oe3) :: (X.pn ++ pins))) S3 hg hm q hdbg
      · exact ld_blt (X := X.suite a ((a, oe3) :: (X.pn ++ pins))) S3 hg hm hv q hnn hdbg
    refine test (LM.here ?_)
    cases b with
    | true =>
      refine codeAny_handlers_suite_as ?_
      refine HandSPX.lands_againZ fl3 fun h4 fl4 up4 => ?_
      have J4 : Inv X pins σ' H' { s' with heap := h4 } := J.landed nb fl4.1 ((up.trans up3).trans up4) os ag
      obtain ⟨oe4, vs4, he4, hz4, hd4⟩ := fl4.there
      obtain ⟨dn, hyes2⟩ := hyes rfl
      rw [dn] at hz4
      have J5 : Inv X pins σ' (upd H' a (ExC cls a)) { s' with heap := h4 } := adopt J4 na n0 nL (fun y c' e z => by
          obtain ⟨v, w⟩ := J.cell y c' e
          rw [z] at w
          obtain ⟨o, ho, _⟩ := w
          rw [nI] at ho
          cases ho) (fun p hp z => by
          have := (J.pin p hp).1
          rw [z, nI] at this
          cases this) (exC_ok he4 hz4 ⟨_, hd4⟩)
      have S4 := Inv.suite0 J5 a
      refine store_ok (X := X.suite a (X.pn ++ pins)) (v := .ref a) S4 hN hi hloc rfl (fun s5 S5 => ?_) (.inr hln)
      refine wpAny_mono ((hsu a cls (X.pn ++ pins)).run [] s5 _ _ _ S5 (hyes2 a na J.len)) (fun f s6 hsp => ?_) (fun _ _ z => False.elim z)
      have end_ : ∀ {σ6 : L2.St} {H6 : Hp} {Q : Shared → Prop}, Inv (X.suite a (X.pn ++ pins)) [] σ6 H6 s6 → (∀ s7, Inv X pins (σ6.set i none) H6 s7 → Q s7) →
          wpAny (model X.prog X.w) X.A (do bindName X.env n .none; unbindBehindTheSuite X.env n pos') (fun _ s7 => Q s7) X.xe s6 := fun {σ6 H6 Q} S6 hq => gone_ok (Inv.unsuite0 S6 ok) hN hi hln hq
      cases f with
      | next =>
        obtain ⟨σ6, H6, S6, q6⟩ := hsp
        exact end_ S6 fun s7 J7 => ⟨_, _, J7, q6⟩
      | brk =>
        obtain ⟨σ6, H6, S6, q6⟩ := hsp
        exact end_ S6 fun s7 J7 => ⟨_, _, J7, q6⟩
      | cont =>
        obtain ⟨σ6, H6, S6, q6⟩ := hsp
        exact end_ S6 fun s7 J7 => ⟨_, _, J7, q6⟩
      | ret u =>
        obtain ⟨v6, σ6, H6, S6, r6, q6⟩ := hsp
        exact end_ S6 fun s7 J7 => ⟨_, _, _, J7, r6, q6⟩
    | false =>
      show wpAny _ X.A (handleBy (.ref a) X.env []) _ _ _
      refine wpAny_handleBy_nil ?_
      obtain ⟨k1, k2, k3, oe, vs, T, oT, ts', he, hz, hd, h1, hr⟩ := id fl3
      unfold PySem.passOn
      refine wpAny_bind (wpAny_field he hd h1 ?_)
      rw [if_neg (show ¬ ((Value.ref T == Value.none) = true) from by simp)]
      have fin : wpAny (model X.prog X.w) X.A (setFlight (.ref a) X.env.frame) (fun _ s4 => wpAny (model X.prog X.w) X.A (throw (.ref a) : Sem Flow) (SP X pins D) X.xe s4) X.xe { s' with heap := h3 } := by
        rw [hf]
        refine HandSPX.setFlight_upZ fl3 fun h4 hh4 up4 => wpAny_throw (tk _ _ ?_)
        exact ⟨a, B, sI, pins, σ', H', cls, d, rfl, J, nb, (up.trans up3).trans up4, .inr (.inr (by rw [hs]; exact hh4)), na, os, ag, hno rfl⟩
      first
        | exact wpAny_bind (wpAny_pure (wpAny_bind fin))
        | exact wpAny_bind fin
  · cases f with
    | next =>
      obtain ⟨σ', H', J', q⟩ := hsp
      exact wpAny_execs_nil ⟨σ', H', J'.ofTry ok, q⟩
    | brk =>
      obtain ⟨σ', H', J', q⟩ := hsp
      exact ⟨σ', H', J'.ofTry ok, q⟩
    | cont =>
      obtain ⟨σ', H', J', q⟩ := hsp
      exact ⟨σ', H', J'.ofTry ok, q⟩
    | ret u =>
      obtain ⟨v, σ', H', J', r, q⟩ := hsp
      exact ⟨v, σ', H', J'.ofTry ok, r, q⟩
end
end PL

namespace PL
/-- the defs that make lambdas, in this law -/
def lamNames : List PySem.Str := ["law"]
end PL

namespace PL
open PySem PySem.Spec PyProof.Rows L2

/-! ## data, outcomes -/
inductive D where
  | non | bl (b : Bool) | int (i : Int) | str (s : Str) | tup (l : List D) | lst (l : List D) | scr (l : List Int)
  | dct (ks : List Key) (vs : List D) | dcT (ks : List (List Key)) (vs : List D) | exc (c : Str)

inductive Res (α : Type) where
  | ok (a : α) | exc (c : Str) | stuck
namespace Res
def bind {α β : Type} : Res α → (α → Res β) → Res β
  | .ok a, f => f a
  | .exc c, _ => .exc c
  | .stuck, _ => .stuck
@[simp] theorem bind_ok {α β : Type} (a : α) (f : α → Res β) : bind (.ok a) f = f a := rfl
@[simp] theorem bind_exc {α β : Type} (c : Str) (f : α → Res β) : bind (.exc c) f = .exc c := rfl
@[simp] theorem bind_stuck {α β : Type} (f : α → Res β) : bind .stuck f = .stuck := rfl
end Res

/-! ## what a value stands for -/
abbrev Mk := Addr → Prop
/-- the script: a list of ints that nobody writes -/
def ScrOk (K : PySem.W.Frag) (M : Mk) (H : Hp) (a : Addr) (ns : List Int) : Prop :=
  (Rd H a (.lst (ns.map V.int)) ∧ ¬ M a) ∨
    ∃ (o : Obj) (its : Array Value) (n : Nat), K.lookup a = some o ∧ o.cls = .type "list" ∧ o.dict = none ∧ o.data = .seq its n ∧ its.size ≤ sizeLine ∧ Vals (ns.map V.int) its.toList
/-- what may be changed -/
def MutO : HO → Prop
  | .lst _ => True
  | .dK _ => True
  | .dT _ => True
  | .ins _ _ _ => True
  | _ => False
mutual
inductive Rep (K : PySem.W.Frag) (M : Mk) (H : Hp) : V → D → Prop
  | non : Rep K M H .non .non
  | bl (b : Bool) : Rep K M H (.bl b) (.bl b)
  | int (i : Int) : Rep K M H (.int i) (.int i)
  | str (x : Str) : Rep K M H (.str x) (.str x)
  | lst {a : Addr} {xs : List V} {ds : List D} : H a = some (.lst xs) → ¬ M a → RepAll K M H xs ds → Rep K M H (.ref a) (.lst ds)
  | tup {a : Addr} {xs : List V} {ds : List D} : H a = some (.tup xs) → ¬ M a → RepAll K M H xs ds → Rep K M H (.ref a) (.tup ds)
  | scr {a : Addr} {ns : List Int} : ScrOk K M H a ns → Rep K M H (.ref a) (.scr ns)
  | dct {a : Addr} {ks : List Key} {xs : List V} {ds : List D} : H a = some (.dK (ks.zip xs)) → ks.length = xs.length → ¬ M a → RepAll K M H xs ds → Rep K M H (.ref a) (.dct ks ds)
  | dcT {a : Addr} {ks : List (List Key)} {xs : List V} {ds : List D} : H a = some (.dT (ks.zip xs)) → ks.length = xs.length → ¬ M a → RepAll K M H xs ds → Rep K M H (.ref a) (.dcT ks ds)
  | exc {a C : Addr} {c : Str} : PySem.W.nsIn K mainGlobals c = some (some (.ref C)) → H a = some (ExC (.ref C) a) → ¬ M a → Rep K M H (.ref a) (.exc c)
inductive RepAll (K : PySem.W.Frag) (M : Mk) (H : Hp) : List V → List D → Prop
  | nil : RepAll K M H [] []
  | cons {v : V} {vs : List V} {d : D} {ds : List D} : Rep K M H v d → RepAll K M H vs ds → RepAll K M H (v :: vs) (d :: ds)
end
/-! ### what stays: all but the tables of code objects, which grow -/
def NT (o : HO) : Prop := ∀ ps, o ≠ .tbl ps
theorem NT.of_mut {o : HO} (h : MutO o) : NT o := fun ps z => by rw [z] at h; exact h
/-- nothing there but a table -/
def Fr (H : Hp) (p : Addr) : Prop := ∀ o, H p = some o → ¬ NT o
theorem Fr.of {H : Hp} {p : Addr} (n : H p = none) : Fr H p := fun o e _ => by rw [n] at e; cases e
instance {H : Hp} {p : Addr} : Coe (H p = none) (Fr H p) := ⟨Fr.of⟩
theorem Fr.ne {H : Hp} {p b : Addr} {o : HO} (n : Fr H p) (e : H b = some o) (t : NT o) : b ≠ p := fun z => n o (by rw [← z]; exact e) t
def TK (K : PySem.W.Frag) : List (Addr × Str) := lamNames.map fun n => ((He.cT K (n, none)).2, n ++ ".<locals>." ++ "<lambda>")
def TabsK (K : PySem.W.Frag) (H : Hp) : Prop := LamX.Tabs (TK K) H
structure Same (K : PySem.W.Frag) (H H' : Hp) : Prop where
  app : ∀ b o, H b = some o → NT o → H' b = some o
  tab : TabsK K H → TabsK K H'
structure Keep (K : PySem.W.Frag) (M : Mk) (H H' : Hp) : Prop where
  app : ∀ a o, H a = some o → ¬ M a → NT o → H' a = some o
  tab : TabsK K H → TabsK K H'
theorem Same.refl {K : PySem.W.Frag} (H : Hp) : Same K H H := ⟨fun _ _ h _ => h, fun h => h⟩
theorem Same.trans {K : PySem.W.Frag} {H H1 H2 : Hp} (a : Same K H H1) (b : Same K H1 H2) : Same K H H2 := ⟨fun c o h n => b.app c o (a.app c o h n) n, fun h => b.tab (a.tab h)⟩
theorem Same.free {K : PySem.W.Frag} {H H' : Hp} (e : Same K H H') {l : Addr} (h : Fr H' l) : Fr H l := fun o ho t => h o (e.app l o ho t) t
theorem Same.of {K : PySem.W.Frag} {H H' : Hp} (s : L2.Same H H') : Same K H H' := ⟨fun b o h _ => s b o h, fun h => h.ext s⟩
theorem nt_lst {xs : List V} : NT (.lst xs) := fun _ z => nomatch z
theorem nt_tup {xs : List V} : NT (.tup xs) := fun _ z => nomatch z
theorem nt_dK {xs : List (Key × V)} : NT (.dK xs) := fun _ z => nomatch z
theorem nt_dT {xs : List (List Key × V)} : NT (.dT xs) := fun _ z => nomatch z
theorem nt_ext {φ : Heap → Prop} : NT (.ext φ) := fun _ z => nomatch z
theorem nt_frz {o : Obj} {u : HO} : NT (.frz o u) := fun _ z => nomatch z
theorem Same.get {K : PySem.W.Frag} {H H' : Hp} (s : Same K H H') (b : Addr) (o : HO) (h : H b = some o) (nt : NT o := by first | exact nt_lst | exact nt_tup | exact nt_dK | exact nt_dT | exact nt_ext | exact nt_frz | assumption) : H' b = some o := s.app b o h nt
theorem Keep.get {K : PySem.W.Frag} {M : Mk} {H H' : Hp} (s : Keep K M H H') (b : Addr) (o : HO) (h : H b = some o) (n : ¬ M b) (nt : NT o := by first | exact nt_lst | exact nt_tup | exact nt_dK | exact nt_dT | exact nt_ext | exact nt_frz | assumption) : H' b = some o := s.app b o h n nt
theorem Same.lst {K : PySem.W.Frag} {H H' : Hp} {a : Addr} {xs : List V} (s : Same K H H') (h : H a = some (.lst xs)) : H' a = some (.lst xs) := s.app _ _ h nt_lst
theorem Same.tup {K : PySem.W.Frag} {H H' : Hp} {a : Addr} {xs : List V} (s : Same K H H') (h : H a = some (.tup xs)) : H' a = some (.tup xs) := s.app _ _ h nt_tup
def DomM (M : Mk) (H : Hp) : Prop := ∀ a, M a → ∃ o, H a = some o ∧ MutO o
section
variable {K : PySem.W.Frag} {M M' : Mk} {H H' H'' : Hp}
theorem Keep.of_same (s : Same K H H') : Keep K M H H' := ⟨fun a o e _ n => s.app a o e n, s.tab⟩
theorem Keep.refl (M : Mk) (H : Hp) : Keep K M H H := ⟨fun _ _ e _ _ => e, fun h => h⟩
theorem Keep.trans (a : Keep K M H H') (b : Keep K M H' H'') : Keep K M H H'' := ⟨fun x o e n t => b.app x o (a.app x o e n t) n t, fun h => b.tab (a.tab h)⟩
theorem DomM.mono (d : DomM M H) (s : Same K H H') : DomM M H' := fun a m => by
  obtain ⟨o, e, h⟩ := d a m
  exact ⟨o, s.app a o e (NT.of_mut h), h⟩
theorem DomM.fresh (d : DomM M H) {p : Addr} (n : Fr H p) : ¬ M p := fun m => by
  obtain ⟨o, e, mu⟩ := d p m
  exact n o e (NT.of_mut mu)
theorem DomM.notTup (d : DomM M H) {p : Addr} {xs : List V} (e : H p = some (.tup xs)) : ¬ M p := fun m => by
  obtain ⟨o, e', h⟩ := d p m
  rw [e] at e'; cases e'; exact h
theorem DomM.notExt (d : DomM M H) {p : Addr} {φ : Heap → Prop} (e : H p = some (.ext φ)) : ¬ M p := fun m => by
  obtain ⟨o, e', h⟩ := d p m
  rw [e] at e'; cases e'; exact h
theorem ScrOk.keep {a : Addr} {ns : List Int} (k : Keep K M H H') (h : ScrOk K M H a ns) : ScrOk K M H' a ns := by
  rcases h with ⟨h | ⟨o, h⟩, n⟩ | h
  · exact .inl ⟨.inl (k.app a _ h n nt_lst), n⟩
  · exact .inl ⟨.inr ⟨o, k.app a _ h n nt_frz⟩, n⟩
  · exact .inr h
theorem ScrOk.sq {a : Addr} {ns : List Int} (h : ScrOk K M H a ns) : SqL K H a (ns.map V.int) := by
  rcases h with ⟨h, n⟩ | h
  · exact .inl h
  · exact .inr h
theorem ScrOk.of {a : Addr} {ns : List Int} (h : SqL K H a (ns.map V.int)) : ScrOk K (fun _ => False) H a ns := by
  rcases h with h | h
  · exact .inl ⟨h, fun z => z⟩
  · exact .inr h
mutual
theorem Rep.keep (k : Keep K M H H') : ∀ (d : D) (v : V), Rep K M H v d → Rep K M H' v d
  | .non, _, h => by cases h; exact .non
  | .bl _, _, h => by cases h; exact .bl _
  | .int _, _, h => by cases h; exact .int _
  | .str _, _, h => by cases h; exact .str _
  | .lst ds, _, h => by
    cases h with
    | lst s n r => exact .lst (k.app _ _ s n nt_lst) n (RepAll.keep k ds _ r)
  | .tup ds, _, h => by
    cases h with
    | tup s n r => exact .tup (k.app _ _ s n nt_tup) n (RepAll.keep k ds _ r)
  | .scr ns, _, h => by
    cases h with
    | scr s => exact .scr (s.keep k)
  | .dct ks ds, _, h => by
    cases h with
    | dct s l n r => exact .dct (k.app _ _ s n nt_dK) l n (RepAll.keep k ds _ r)
  | .dcT ks ds, _, h => by
    cases h with
    | dcT s l n r => exact .dcT (k.app _ _ s n nt_dT) l n (RepAll.keep k ds _ r)
  | .exc c, _, h => by
    cases h with
    | exc e s n => exact .exc e (k.app _ _ s n nt_ext) n
theorem RepAll.keep (k : Keep K M H H') : ∀ (ds : List D) (vs : List V), RepAll K M H vs ds → RepAll K M H' vs ds
  | [], _, h => by cases h; exact .nil
  | d :: ds, _, h => by
    cases h with
    | cons a b => exact .cons (Rep.keep k d _ a) (RepAll.keep k ds _ b)
end
theorem Rep.same {d : D} {v : V} (s : Same K H H') (h : Rep K M H v d) : Rep K M H' v d := Rep.keep (Keep.of_same s) d v h
theorem RepAll.same {ds : List D} {vs : List V} (s : Same K H H') (h : RepAll K M H vs ds) : RepAll K M H' vs ds := RepAll.keep (Keep.of_same s) ds vs h
mutual
theorem Rep.weak (w : ∀ a, M' a → M a) : ∀ (d : D) (v : V), Rep K M H v d → Rep K M' H v d
  | .non, _, h => by cases h; exact .non
  | .bl _, _, h => by cases h; exact .bl _
  | .int _, _, h => by cases h; exact .int _
  | .str _, _, h => by cases h; exact .str _
  | .lst ds, _, h => by
    cases h with
    | lst s n r => exact .lst s (fun m => n (w _ m)) (RepAll.weak w ds _ r)
  | .tup ds, _, h => by
    cases h with
    | tup s n r => exact .tup s (fun m => n (w _ m)) (RepAll.weak w ds _ r)
  | .scr ns, _, h => by
    cases h with
    | scr s =>
      refine .scr ?_
      rcases s with ⟨s, n⟩ | s
      · exact .inl ⟨s, fun m => n (w _ m)⟩
      · exact .inr s
  | .dct ks ds, _, h => by
    cases h with
    | dct s l n r => exact .dct s l (fun m => n (w _ m)) (RepAll.weak w ds _ r)
  | .dcT ks ds, _, h => by
    cases h with
    | dcT s l n r => exact .dcT s l (fun m => n (w _ m)) (RepAll.weak w ds _ r)
  | .exc c, _, h => by
    cases h with
    | exc e s n => exact .exc e s (fun m => n (w _ m))
theorem RepAll.weak (w : ∀ a, M' a → M a) : ∀ (ds : List D) (vs : List V), RepAll K M H vs ds → RepAll K M' H vs ds
  | [], _, h => by cases h; exact .nil
  | d :: ds, _, h => by
    cases h with
    | cons a b => exact .cons (Rep.weak w d _ a) (RepAll.weak w ds _ b)
end
theorem RepAll.length : ∀ {ds : List D} {vs : List V}, RepAll K M H vs ds → vs.length = ds.length
  | [], _, h => by cases h; rfl
  | _ :: ds, _, h => by
    cases h with
    | cons _ b => rw [List.length_cons, List.length_cons, RepAll.length b]
theorem RepAll.get : ∀ {ds : List D} {vs : List V} {i : Nat} {d : D}, RepAll K M H vs ds → ds[i]? = some d → ∃ v, vs[i]? = some v ∧ Rep K M H v d
  | [], _, _, _, _, e => by simp at e
  | _ :: _, _, 0, _, .cons a _, e => by simp at e; subst e; exact ⟨_, rfl, a⟩
  | _ :: ds, _, i + 1, d, .cons _ b, e => by
    obtain ⟨v, h1, h2⟩ := RepAll.get (i := i) (d := d) b (by simpa using e)
    exact ⟨v, by simpa using h1, h2⟩
theorem RepAll.get' : ∀ {ds : List D} {vs : List V} {i : Nat} {v : V}, RepAll K M H vs ds → vs[i]? = some v → ∃ d, ds[i]? = some d ∧ Rep K M H v d
  | _, [], _, _, _, e => by simp at e
  | _, _ :: _, 0, _, .cons a _, e => by simp at e; subst e; exact ⟨_, rfl, a⟩
  | _, _ :: _, i + 1, d, .cons _ b, e => by
    obtain ⟨v, h1, h2⟩ := RepAll.get' (i := i) (v := d) b (by simpa using e)
    exact ⟨v, by simpa using h1, h2⟩
theorem RepAll.append : ∀ {ds es : List D} {vs us : List V}, RepAll K M H vs ds → RepAll K M H us es → RepAll K M H (vs ++ us) (ds ++ es)
  | _, _, _, _, .nil, s => s
  | _, _, _, _, .cons r t, s => .cons r (RepAll.append t s)
theorem RepAll.take : ∀ {ds : List D} {vs : List V} (n : Nat), RepAll K M H vs ds → RepAll K M H (vs.take n) (ds.take n)
  | _, _, 0, _ => .nil
  | _, _, _ + 1, .nil => .nil
  | _, _, n + 1, .cons r t => .cons r (RepAll.take n t)
theorem RepAll.drop : ∀ {ds : List D} {vs : List V} (n : Nat), RepAll K M H vs ds → RepAll K M H (vs.drop n) (ds.drop n)
  | _, _, 0, r => r
  | _, _, _ + 1, .nil => .nil
  | _, _, n + 1, .cons _ t => RepAll.drop n t
theorem RepAll.set {d : D} {v : V} (r : Rep K M H v d) : ∀ {ds : List D} {vs : List V} (n : Nat), RepAll K M H vs ds → RepAll K M H (vs.set n v) (ds.set n d)
  | _, _, _, .nil => .nil
  | _, _, 0, .cons _ t => .cons r t
  | _, _, n + 1, .cons q t => .cons q (RepAll.set r n t)
theorem RepAll.reverse {ds : List D} {vs : List V} (r : RepAll K M H vs ds) : RepAll K M H vs.reverse ds.reverse := by
  induction ds generalizing vs with
  | nil => cases r; exact .nil
  | cons d ds ih =>
    cases r with
    | cons a b =>
      rw [List.reverse_cons, List.reverse_cons]
      exact (ih b).append (.cons a .nil)
theorem RepAll.eraseIdx : ∀ {ds : List D} {vs : List V} (n : Nat), RepAll K M H vs ds → RepAll K M H (vs.eraseIdx n) (ds.eraseIdx n)
  | _, _, _, .nil => .nil
  | _, _, 0, .cons _ t => t
  | _, _, n + 1, .cons q t => .cons q (RepAll.eraseIdx n t)
theorem RepAll.dropLast {ds : List D} {vs : List V} (r : RepAll K M H vs ds) : RepAll K M H vs.dropLast ds.dropLast := by
  rw [List.dropLast_eq_take, List.dropLast_eq_take, r.length]
  exact r.take _
/-- ints -/
theorem RepAll.ints : ∀ {ns : List Int} {vs : List V}, RepAll K M H vs (ns.map D.int) → vs = ns.map V.int
  | [], _, h => by cases h; rfl
  | _ :: ns, _, h => by
    cases h with
    | cons a b => cases a; rw [RepAll.ints b]; rfl
theorem RepAll.bls : ∀ {ns : List Bool} {vs : List V}, RepAll K M H vs (ns.map D.bl) → vs = ns.map V.bl
  | [], _, h => by cases h; rfl
  | _ :: ns, _, h => by
    cases h with
    | cons a b => cases a; rw [RepAll.bls b]; rfl
theorem RepAll.of_ints : ∀ (ns : List Int), RepAll K M H (ns.map V.int) (ns.map D.int)
  | [] => .nil
  | _ :: ns => .cons (.int _) (RepAll.of_ints ns)
theorem RepAll.replicate {d : D} {v : V} (r : Rep K M H v d) : ∀ n, RepAll K M H (List.replicate n v) (List.replicate n d)
  | 0 => .nil
  | n + 1 => .cons r (RepAll.replicate r n)
end

/-! ## the tables of the defs that make lambdas -/
theorem TabsK.same {K : PySem.W.Frag} {H H' : Hp} (t : TabsK K H) (s : Same K H H') : TabsK K H' := s.tab t
theorem TabsK.keep {K : PySem.W.Frag} {M : Mk} {H H' : Hp} (t : TabsK K H) (s : Keep K M H H') : TabsK K H' := s.tab t
def TabBs (K : PySem.W.Frag) (mg : Str → Option Value) (base : Heap) : Prop := ∀ n ∈ lamNames, LamX.TabB base mg (He.cT K (n, none)).1 (He.cT K (n, none)).2

/-! ## data without lists: marks do not matter -/
mutual
def D.flat : D → Bool
  | .lst _ => false
  | .scr _ => false
  | .dct _ _ => false
  | .dcT _ _ => false
  | .tup l => flatAll l
  | _ => true
def flatAll : List D → Bool
  | [] => true
  | d :: r => d.flat && flatAll r
end

/-! ## data as the library's data -/
mutual
def D.py : D → PyData
  | .non => .none
  | .bl b => .bool b
  | .int i => .int i
  | .str s => .str s
  | .tup l => .tuple (pyAll l)
  | .lst l => .list (pyAll l)
  | .scr l => .list (l.map PyData.int)
  | .dct _ _ => .none
  | .dcT _ _ => .none
  | .exc _ => .none
def pyAll : List D → List PyData
  | [] => []
  | d :: r => d.py :: pyAll r
end
/-! plain data: what is compared -/
mutual
def D.pl : D → Bool
  | .dct _ _ => false
  | .dcT _ _ => false
  | .exc _ => false
  | .tup l => plAll l
  | .lst l => plAll l
  | _ => true
def plAll : List D → Bool
  | [] => true
  | d :: r => d.pl && plAll r
end
section
variable {K : PySem.W.Frag} {M M' : Mk} {H H' H'' : Hp}
theorem dp_ints : ∀ ns : List Int, DpAll K H (ns.map V.int) (ns.map PyData.int)
  | [] => .nil
  | _ :: ns => .cons (.int _) (dp_ints ns)
mutual
theorem Rep.flat (dm : DomM M' H) : ∀ (d : D) (v : V), d.flat = true → Rep K M H v d → Rep K M' H v d
  | .non, _, _, h => by cases h; exact .non
  | .bl _, _, _, h => by cases h; exact .bl _
  | .int _, _, _, h => by cases h; exact .int _
  | .str _, _, _, h => by cases h; exact .str _
  | .lst ds, _, f, h => by cases f
  | .scr ds, _, f, h => by cases f
  | .dct _ _, _, f, h => by cases f
  | .dcT _ _, _, f, h => by cases f
  | .exc _, _, f, h => by
    cases h with
    | exc e s n => exact .exc e s (dm.notExt s)
  | .tup ds, _, f, h => by
    cases h with
    | tup s n r => exact .tup s (dm.notTup s) (RepAll.flat dm ds _ f r)
theorem RepAll.flat (dm : DomM M' H) : ∀ (ds : List D) (vs : List V), flatAll ds = true → RepAll K M H vs ds → RepAll K M' H vs ds
  | [], _, _, h => by cases h; exact .nil
  | d :: ds, _, f, h => by
    have f' : d.flat = true ∧ flatAll ds = true := by simpa [flatAll] using f
    cases h with
    | cons a b => exact .cons (Rep.flat dm d _ f'.1 a) (RepAll.flat dm ds _ f'.2 b)
end
mutual
theorem Rep.dp : ∀ (d : D) (v : V), d.pl = true → Rep K M H v d → Dp K H v d.py
  | .non, _, _, h => by cases h; exact .non
  | .bl _, _, _, h => by cases h; exact .bl _
  | .int _, _, _, h => by cases h; exact .int _
  | .str _, _, _, h => by cases h; exact .str _
  | .lst ds, _, p, h => by
    cases h with
    | lst s n r => exact .lst (SqL.of s) (RepAll.dp ds _ p r)
  | .tup ds, _, p, h => by
    cases h with
    | tup s n r => exact .tup (SqT.of s) (RepAll.dp ds _ p r)
  | .scr ns, _, _, h => by
    cases h with
    | scr s => exact .lst s.sq (dp_ints ns)
  | .dct _ _, _, p, _ => by cases p
  | .dcT _ _, _, p, _ => by cases p
  | .exc _, _, p, _ => by cases p
theorem RepAll.dp : ∀ (ds : List D) (vs : List V), plAll ds = true → RepAll K M H vs ds → DpAll K H vs (pyAll ds)
  | [], _, _, h => by cases h; exact .nil
  | d :: ds, _, p, h => by
    have p' : d.pl = true ∧ plAll ds = true := by simpa [plAll] using p
    cases h with
    | cons a b => exact .cons (Rep.dp d _ p'.1 a) (RepAll.dp ds _ p'.2 b)
end
end
end PL

namespace PL
open PySem PySem.Spec PyProof.Rows L2

/-! ## readings by meaning -/
abbrev En := List (Option D)
structure Rel (K : PySem.W.Frag) (M : Mk) (σ : L2.St) (H : Hp) (ρ : En) : Prop where
  len : σ.length = ρ.length
  get : ∀ (i : Nat) (d : D), ρ[i]? = some (some d) → ∃ v, σ[i]? = some (some v) ∧ Rep K M H v d
  tab : TabsK K H
theorem Rel.keep {K : PySem.W.Frag} {M : Mk} {σ : L2.St} {H H' : Hp} {ρ : En} (r : Rel K M σ H ρ) (s : Keep K M H H') : Rel K M σ H' ρ := ⟨r.len, fun i d e => by
  obtain ⟨v, h1, h2⟩ := r.get i d e
  exact ⟨v, h1, Rep.keep s _ _ h2⟩, r.tab.keep s⟩
theorem Rel.same {K : PySem.W.Frag} {M : Mk} {σ : L2.St} {H H' : Hp} {ρ : En} (r : Rel K M σ H ρ) (s : Same K H H') : Rel K M σ H' ρ := r.keep (Keep.of_same s)
theorem Rel.set {K : PySem.W.Frag} {M : Mk} {σ : L2.St} {H : Hp} {ρ : En} {i : Nat} {v : V} {d : D} (r : Rel K M σ H ρ) (q : Rep K M H v d) : Rel K M (σ.set i (some v)) H (ρ.set i (some d)) := ⟨by rw [List.length_set, List.length_set]; exact r.len, fun j e h => by
  by_cases hj : i = j
  · subst hj
    by_cases hi : i < ρ.length
    · rw [List.getElem?_set_self hi] at h
      cases h
      exact ⟨v, List.getElem?_set_self (by rw [r.len]; exact hi), q⟩
    · rw [List.getElem?_eq_none (by rw [List.length_set]; omega)] at h; cases h
  · rw [List.getElem?_set_ne hj] at h ⊢
    exact r.get j e h, r.tab⟩
def excV (mg : Str → Option Value) (c : Str) : Value := (mg c).getD .none
/-- what is asked behind an expression of this outcome -/
def OutE (X : Cx) (W : WX) (M : Mk) (σ : L2.St) (H : Hp) (Q : VK) : Res D → Prop
  | .ok d => ∀ v H', Same X.K H H' → Rep X.K M H' v d → Q v H'
  | .exc c => ∀ H', Same X.K H H' → W (excV X.mg c) none σ H'
  | .stuck => False
def OutA (X : Cx) (W : WX) (M : Mk) (σ : L2.St) (H : Hp) (Q : List V → Hp → Prop) : Res (List D) → Prop
  | .ok ds => ∀ vs H', Same X.K H H' → RepAll X.K M H' vs ds → Q vs H'
  | .exc c => ∀ H', Same X.K H H' → W (excV X.mg c) none σ H'
  | .stuck => False
def OutT (X : Cx) (W : WX) (σ : L2.St) (H : Hp) (Q : Bool → Hp → Prop) : Res Bool → Prop
  | .ok b => ∀ H', Same X.K H H' → Q b H'
  | .exc c => ∀ H', Same X.K H H' → W (excV X.mg c) none σ H'
  | .stuck => False
/-- one more mark -/
def mark (M : Mk) (p : Addr) : Mk := fun a => M a ∨ a = p
/-- a new list -/
def OutF (X : Cx) (W : WX) (M : Mk) (σ : L2.St) (H : Hp) (Q : VK) : Res D → Prop
  | .ok d => ∃ ds, d = .lst ds ∧ ∀ p vs H', Same X.K H H' → Fr H p → H' p = some (.lst vs) → RepAll X.K (mark M p) H' vs ds → Q (.ref p) H'
  | .exc c => ∀ H', Same X.K H H' → W (excV X.mg c) none σ H'
  | .stuck => False
def tS (X : Cx) (W : WX) (m : En → Res D) : TE := fun σ H Q => ∃ M ρ, DomM M H ∧ Rel X.K M σ H ρ ∧ OutE X W M σ H Q (m ρ)
def tF (X : Cx) (W : WX) (m : En → Res D) : TE := fun σ H Q => ∃ M ρ, DomM M H ∧ Rel X.K M σ H ρ ∧ OutF X W M σ H Q (m ρ)
def tSA (X : Cx) (W : WX) (m : En → Res (List D)) : TA := fun σ H Q => ∃ M ρ, DomM M H ∧ Rel X.K M σ H ρ ∧ OutA X W M σ H Q (m ρ)
def tST (X : Cx) (W : WX) (m : En → Res Bool) : TT := fun σ H Q => ∃ M ρ, DomM M H ∧ Rel X.K M σ H ρ ∧ OutT X W σ H Q (m ρ)
section
variable {X : Cx} {W : WX}
theorem pe_weak {e : Expr} {t t' : TE} (h : PE X e t) (w : ∀ σ H Q, t' σ H Q → t σ H Q) : PE X e t' := ⟨fun pins s σ H Q I q => h.run pins s σ H Q I (w σ H Q q)⟩
theorem pa_weak {e : List Expr} {t t' : TA} (h : PA X e t) (w : ∀ σ H Q, t' σ H Q → t σ H Q) : PA X e t' := ⟨fun p pins s σ H Q I q => h.run p pins s σ H Q I (w σ H Q q)⟩
theorem pt_weak {e : Expr} {t t' : TT} (h : PT X e t) (w : ∀ σ H Q, t' σ H Q → t σ H Q) : PT X e t' := ⟨fun pins s σ H Q I q => h.run pins s σ H Q I (w σ H Q q)⟩
theorem OutE.of_F {M : Mk} {σ : L2.St} {H : Hp} {Q : VK} {r : Res D} (dm : DomM M H) (h : OutE X W M σ H Q r) (hl : ∀ d, r = .ok d → ∃ ds, d = .lst ds) : OutF X W M σ H Q r := by
  cases r with
  | ok d =>
    obtain ⟨ds, e⟩ := hl d rfl
    subst e
    exact ⟨ds, rfl, fun p vs H' s n e r => h _ H' s (.lst e (dm.fresh n) (RepAll.weak (fun _ z => .inl z) _ _ r))⟩
  | exc c => exact h
  | stuck => exact h
theorem Res.bind_eq_ok {α β : Type} {r : Res α} {f : α → Res β} {b : β} (h : r.bind f = .ok b) : ∃ a, r = .ok a ∧ f a = .ok b := by
  cases r with
  | ok a => exact ⟨a, rfl, h⟩
  | exc c => cases h
  | stuck => cases h
/-- the arguments, from the left -/
def consM (m : En → Res D) (ms : En → Res (List D)) : En → Res (List D) := fun ρ => (m ρ).bind fun d => (ms ρ).bind fun ds => .ok (d :: ds)
def notStar : Expr → Bool
  | .Starred _ _ => false
  | _ => true
theorem star_of {e : Expr} (h : notStar e = true) (es : List Expr) (env : PySem.Env) : starEach (e :: es) env = (false, eval e env) :: starEach es env := by
  cases e <;> first | rfl | cases h
theorem sa_nil : PA X [] (tSA X W fun _ => .ok []) := pa_weak pa_nil fun σ H Q h => by
  obtain ⟨M, ρ, dm, r, o⟩ := h
  exact o [] H (Same.refl H) .nil
theorem sa_cons {e : Expr} {es : List Expr} {m : En → Res D} {ms : En → Res (List D)} (h : PE X e (tS X W m)) (hs : PA X es (tSA X W ms)) (n : notStar e = true) : PA X (e :: es) (tSA X W (consM m ms)) :=
  pa_weak (pa_cons h hs (star_of n es X.env)) fun σ H Q h => by
    obtain ⟨M, ρ, dm, r, o⟩ := h
    refine ⟨M, ρ, dm, r, ?_⟩
    unfold consM at o
    cases e1 : m ρ with
    | ok d =>
      rw [e1] at o
      intro v H1 s1 r1
      refine ⟨M, ρ, dm.mono s1, r.same s1, ?_⟩
      cases e2 : ms ρ with
      | ok ds =>
        rw [e2] at o
        exact fun vs H2 s2 r2 => o (v :: vs) H2 (s1.trans s2) (.cons (r1.same s2) r2)
      | exc c =>
        rw [e2] at o
        exact fun H' s' => o H' (s1.trans s')
      | stuck => rw [e2] at o; exact o
    | exc c => rw [e1] at o; exact o
    | stuck => rw [e1] at o; exact o
end

/-! ## a primitive: strict in its parts -/
inductive PEs (X : Cx) (W : WX) : List Expr → List (En → Res D) → Prop
  | nil : PEs X W [] []
  | cons {e : Expr} {es : List Expr} {m : En → Res D} {ms : List (En → Res D)} : PE X e (tS X W m) → notStar e = true → PEs X W es ms → PEs X W (e :: es) (m :: ms)
def seqM : List (En → Res D) → En → Res (List D)
  | [] => fun _ => .ok []
  | m :: ms => consM m (seqM ms)
theorem PEs.pa {X : Cx} {W : WX} : ∀ {es : List Expr} {ms : List (En → Res D)}, PEs X W es ms → PA X es (tSA X W (seqM ms))
  | _, _, .nil => sa_nil
  | _, _, .cons h n t => sa_cons h t.pa n
def ofO : Option D → Res D
  | some d => .ok d
  | none => .stuck
structure Prim where
  syn : Scope → Expr → Option (List Expr)
  sem : List D → Option D
  fresh : Bool := false
def truth : D → Res Bool
  | .bl b => .ok b
  | _ => .stuck
/-- the parts' readings are given; so is the whole's -/
structure PrimOk (X : Cx) (W : WX) (p : Prim) : Prop where
  pe : ∀ {e : Expr} {es : List Expr} {ms : List (En → Res D)}, p.syn X.env.scope e = some es → PEs X W es ms → PE X e (tS X W fun ρ => (seqM ms ρ).bind fun ds => ofO (p.sem ds))
  fr : p.fresh = true → ∀ {e : Expr} {es : List Expr} {ms : List (En → Res D)}, p.syn X.env.scope e = some es → PEs X W es ms → PE X e (tF X W fun ρ => (seqM ms ρ).bind fun ds => ofO (p.sem ds))
  pt : ∀ {e : Expr} {es : List Expr} {ms : List (En → Res D)}, p.syn X.env.scope e = some es → PEs X W es ms → PT X e (tST X W fun ρ => ((seqM ms ρ).bind fun ds => ofO (p.sem ds)).bind truth)

section
variable {X : Cx} {W : WX}
/-- from a value to a test -/
theorem pt_of_pe {e : Expr} {m : En → Res D} (h : PE X e (tS X W m)) (he : ∀ whole, isTrue e X.env whole = (do let v ← whole; standAt e.pos; holding [v] (truthy v))) : PT X e (tST X W fun ρ => (m ρ).bind truth) :=
  pt_weak (pt_val h he) fun σ H Q q => by
    obtain ⟨M, ρ, dm, r, o⟩ := q
    refine ⟨M, ρ, dm, r, ?_⟩
    dsimp only at o
    cases e1 : m ρ with
    | ok d =>
      rw [e1] at o
      intro v H' s' r'
      cases d with
      | bl b => cases r'; exact ⟨b, rfl, o H' s'⟩
      | _ => exact o.elim
    | exc c => rw [e1] at o; exact o
    | stuck => rw [e1] at o; exact o
/-- a value that is a bool, whose test is a reading of the value -/
theorem w_test {m : En → Res D} {σ : L2.St} {H : Hp} {Q : Bool → Hp → Prop} (q : tST X W (fun ρ => (m ρ).bind truth) σ H Q) : tS X W m σ H fun x H' => ∃ k, x = .bl k ∧ Q k H' := by
  obtain ⟨M, ρ, dm, r, o⟩ := q
  refine ⟨M, ρ, dm, r, ?_⟩
  dsimp only at o
  cases e1 : m ρ with
  | ok d =>
    rw [e1] at o
    intro v H' s' r'
    cases d with
    | bl b => cases r'; exact ⟨b, rfl, o H' s'⟩
    | _ => exact o.elim
  | exc c => rw [e1] at o; exact o
  | stuck => rw [e1] at o; exact o
/-- one part -/
theorem w_1 {ma : En → Res D} {sem : List D → Option D} {r : V → Hp → VK → Prop} {σ : L2.St} {H : Hp} {Q : VK}
    (hr : ∀ (M : Mk) (H : Hp) (x : V) (d1 d : D), DomM M H → Rep X.K M H x d1 → sem [d1] = some d → (∀ v H', Same X.K H H' → Rep X.K M H' v d → Q v H') → r x H Q)
    (q : tS X W (fun ρ => (seqM [ma] ρ).bind fun ds => ofO (sem ds)) σ H Q) : tS X W ma σ H fun x H1 => r x H1 Q := by
  obtain ⟨M, ρ, dm, re, o⟩ := q
  refine ⟨M, ρ, dm, re, ?_⟩
  simp only [seqM, consM] at o
  cases e1 : ma ρ with
  | ok d1 =>
    rw [e1] at o
    intro x H1 s1 r1
    simp only [Res.bind_ok] at o
    cases e3 : sem [d1] with
    | none => rw [e3] at o; exact o.elim
    | some d => rw [e3] at o; exact hr M H1 x d1 d (dm.mono s1) r1 e3 fun v H' s' rv => o v H' (s1.trans s') rv
  | exc c => rw [e1] at o; exact o
  | stuck => rw [e1] at o; exact o
/-- two parts -/
theorem w_2 {ma mb : En → Res D} {sem : List D → Option D} {r : R2} {σ : L2.St} {H : Hp} {Q : VK}
    (hr : ∀ (M : Mk) (H : Hp) (x y : V) (d1 d2 d : D), DomM M H → Rep X.K M H x d1 → Rep X.K M H y d2 → sem [d1, d2] = some d → (∀ v H', Same X.K H H' → Rep X.K M H' v d → Q v H') → r x y H Q)
    (q : tS X W (fun ρ => (seqM [ma, mb] ρ).bind fun ds => ofO (sem ds)) σ H Q) : tOp r (tS X W ma) (tS X W mb) σ H Q := by
  obtain ⟨M, ρ, dm, re, o⟩ := q
  refine ⟨M, ρ, dm, re, ?_⟩
  simp only [seqM, consM] at o
  cases e1 : ma ρ with
  | ok d1 =>
    rw [e1] at o
    intro x H1 s1 r1
    refine ⟨M, ρ, dm.mono s1, re.same s1, ?_⟩
    cases e2 : mb ρ with
    | ok d2 =>
      rw [e2] at o
      intro y H2 s2 r2
      simp only [Res.bind_ok] at o
      cases e3 : sem [d1, d2] with
      | none => rw [e3] at o; exact o.elim
      | some d => rw [e3] at o; exact hr M H2 x y d1 d2 d ((dm.mono s1).mono s2) (r1.same s2) r2 e3 fun v H' s' rv => o v H' ((s1.trans s2).trans s') rv
    | exc c => rw [e2] at o; exact fun H' s' => o H' (s1.trans s')
    | stuck => rw [e2] at o; exact o
  | exc c => rw [e1] at o; exact o
  | stuck => rw [e1] at o; exact o
/-- any number of parts, as arguments -/
theorem w_n {ms : En → Res (List D)} {sem : List D → Option D} {r : List V → Hp → VK → Prop} {σ : L2.St} {H : Hp} {Q : VK}
    (hr : ∀ (M : Mk) (H : Hp) (xs : List V) (ds : List D) (d : D), DomM M H → RepAll X.K M H xs ds → sem ds = some d → (∀ v H', Same X.K H H' → Rep X.K M H' v d → Q v H') → r xs H Q)
    (q : tS X W (fun ρ => (ms ρ).bind fun ds => ofO (sem ds)) σ H Q) : tCB r (tSA X W ms) σ H Q := by
  obtain ⟨M, ρ, dm, re, o⟩ := q
  refine ⟨M, ρ, dm, re, ?_⟩
  dsimp only at o
  cases e1 : ms ρ with
  | ok ds =>
    rw [e1] at o
    intro xs H1 s1 r1
    simp only [Res.bind_ok] at o
    cases e3 : sem ds with
    | none => rw [e3] at o; exact o.elim
    | some d => rw [e3] at o; exact hr M H1 xs ds d (dm.mono s1) r1 e3 fun v H' s' rv => o v H' (s1.trans s') rv
  | exc c => rw [e1] at o; exact o
  | stuck => rw [e1] at o; exact o
/-- a new list from arguments -/
theorem w_nF {ms : En → Res (List D)} {sem : List D → Option D} {r : List V → Hp → VK → Prop} {σ : L2.St} {H : Hp} {Q : VK}
    (hr : ∀ (M : Mk) (H : Hp) (xs : List V) (ds : List D) (d : D), DomM M H → RepAll X.K M H xs ds → sem ds = some d → (∃ es, d = .lst es ∧ ∀ p vs H', Same X.K H H' → Fr H p → H' p = some (.lst vs) → RepAll X.K (mark M p) H' vs es → Q (.ref p) H') → r xs H Q)
    (q : tF X W (fun ρ => (ms ρ).bind fun ds => ofO (sem ds)) σ H Q) : tCB r (tSA X W ms) σ H Q := by
  obtain ⟨M, ρ, dm, re, o⟩ := q
  refine ⟨M, ρ, dm, re, ?_⟩
  dsimp only at o
  cases e1 : ms ρ with
  | ok ds =>
    rw [e1] at o
    intro xs H1 s1 r1
    simp only [Res.bind_ok] at o
    cases e3 : sem ds with
    | none => rw [e3] at o; exact o.elim
    | some d =>
      rw [e3] at o
      obtain ⟨es, ed, o⟩ := o
      exact hr M H1 xs ds d (dm.mono s1) r1 e3 ⟨es, ed, fun p vs H' s' n e rv => o p vs H' (s1.trans s') (s1.free n) e rv⟩
  | exc c => rw [e1] at o; exact o
  | stuck => rw [e1] at o; exact o
end
end PL

namespace PL
open PySem PySem.Spec PyProof.Rows L2

/-! ## the little language -/
inductive Tg where
  | name (i : Nat) | tup (l : List Nat) | pr (i : Nat) (l : List Nat)
/-- what is known of the frame: the program, the world, what the head left, the level, the frame's name -/
structure Gm where
  prog : Program
  w : World
  K : PySem.W.Frag
  mg : Str → Option Value
  base : Heap
  k : Nat
  Q : Str
inductive Cn where
  | non | bl (b : Bool) | int (i : Int) | str (s : Str) | cls (d : Str) (b : Bool) | fact (φ : Gm → Prop)
def Cn.d : Cn → D
  | .non => .non | .bl b => .bl b | .int i => .int i | .str s => .str s | .cls _ _ => .non | .fact _ => .non
/-- what is a constant of the module -/
def Cn.isC : Cn → Bool
  | .cls _ _ => false
  | .fact _ => false
  | _ => true
/-- an expression read by a rule of its own -/
structure Atom where
  chk : List Str → Scope → Expr → Bool
  sem : En → Res D
mutual
inductive E where
  | v (i : Nat)
  | atom (q : Atom)
  | c (k : Cn)
  | g (x : Str) (k : Cn)
  | prim (p : Prim) (as : EL)
  | and (a b : E) | or (a b : E) | not (a : E) | ite (t a b : E)
  | chain (o1 o2 : CmpOp) (f1 f2 : D → D → Option D) (a b c : E)
  | call (f : Str) (sem : List D → Res D) (as : EL)
  | comp (own : List (Str × Nat)) (tg : Tg) (it : IT) (cond : EO) (elt : E)
inductive EL where
  | nil | cons (a : E) (r : EL)
inductive EO where
  | none | some (e : E)
inductive IT where
  | seq (e : E) | rng (as : EL) | zip (a b : E) | enum (e : E)
end

/-! ## its meaning -/
def getE (ρ : En) (i : Nat) : Res D := match ρ[i]? with | some (some d) => .ok d | _ => .stuck
def wipeD (ρ : En) : List Nat → En
  | [] => ρ
  | v :: vs => (wipeD ρ vs).set v none
def setAll : List Nat → List D → En → Res En
  | [], [], ρ => .ok ρ
  | i :: is, d :: ds, ρ => setAll is ds (ρ.set i (some d))
  | _, _, _ => .stuck
def setTg : Tg → D → En → Res En
  | .name i, d, ρ => .ok (ρ.set i (some d))
  | .tup is, .tup ds, ρ => setAll is ds ρ
  | .pr i is, .tup [d, .tup ds], ρ => setAll is ds (ρ.set i (some d))
  | _, _, _ => .stuck
def noExc {α : Type} : Res α → Res α
  | .ok a => .ok a
  | _ => .stuck
def compM (f : D → Res (Option D)) : List D → Res (List D)
  | [] => .ok []
  | d :: r => (f d).bind fun o => (compM f r).bind fun out => .ok (match o with | some x => x :: out | none => out)
def sizeD : Nat := 100000
def rangeD (a b : Int) : List D := (List.range (b - a).toNat).map fun i => D.int (a + (i : Nat))
def strD (s : Str) : List D := s.cps.toList.map fun c => D.str ⟨#[c]⟩
def itemsD : D → Res (List D)
  | .lst l => .ok l
  | .tup l => .ok l
  | .str s => .ok (strD s)
  | _ => .stuck
def zipD : List D → List D → List D
  | a :: as, b :: bs => .tup [a, b] :: zipD as bs
  | _, _ => []
def enumD : Nat → List D → List D
  | i, a :: as => .tup [.int (i : Nat), a] :: enumD (i + 1) as
  | _, [] => []
def okZ (a : Int) : Bool := decide (-(2 ^ 62) ≤ a) && decide (a < 2 ^ 62)
def rngD : List D → Res (List D)
  | [.int b] => if okZ b then .ok (rangeD 0 b) else .stuck
  | [.int a, .int b] => if okZ a && okZ b then .ok (rangeD a b) else .stuck
  | [.int a, .int b, .int (-1)] => if okZ a && okZ b then .ok ((List.range (a - b).toNat).map fun i => D.int (a - (i : Nat))) else .stuck
  | _ => .stuck
def zipItems : D → D → Res (List D)
  | .lst a, .lst b => .ok (zipD a b)
  | .tup a, .tup b => .ok (zipD a b)
  | _, _ => .stuck
def enumItems : D → Res (List D)
  | .lst a => .ok (enumD 0 a)
  | .tup a => .ok (enumD 0 a)
  | _ => .stuck
mutual
def ev : E → En → Res D
  | .v i, ρ => getE ρ i
  | .atom q, ρ => q.sem ρ
  | .c k, _ => .ok k.d
  | .g _ k, _ => .ok k.d
  | .prim p as, ρ => (evL as ρ).bind fun ds => ofO (p.sem ds)
  | .and a b, ρ => (ev a ρ).bind fun x => (truth x).bind fun t => if t then ev b ρ else .ok x
  | .or a b, ρ => (ev a ρ).bind fun x => (truth x).bind fun t => if t then .ok x else ev b ρ
  | .not a, ρ => (ev a ρ).bind fun x => (truth x).bind fun t => .ok (.bl (!t))
  | .ite t a b, ρ => ((ev t ρ).bind truth).bind fun k => if k then ev a ρ else ev b ρ
  | .chain _ _ f1 f2 a b c, ρ => (ev a ρ).bind fun x => (ev b ρ).bind fun y => (ofO (f1 x y)).bind fun z => (truth z).bind fun t => if t then (ev c ρ).bind fun u => ofO (f2 y u) else .ok (.bl false)
  | .call _ sem as, ρ => (evL as ρ).bind sem
  | .comp own tg it cond elt, ρ => (evI it ρ).bind fun ds => if ds.length ≤ sizeD then (compM (fun d => noExc ((setTg tg d (wipeD ρ (own.map (·.2)))).bind fun ρ2 => (evO cond ρ2).bind fun t => if t then (ev elt ρ2).bind fun x => .ok (some x) else .ok none)) ds).bind fun out => .ok (.lst out) else .stuck
def evL : EL → En → Res (List D)
  | .nil, _ => .ok []
  | .cons a r, ρ => (ev a ρ).bind fun d => (evL r ρ).bind fun ds => .ok (d :: ds)
def evO : EO → En → Res Bool
  | .none, _ => .ok true
  | .some e, ρ => (ev e ρ).bind truth
def evI : IT → En → Res (List D)
  | .seq e, ρ => (ev e ρ).bind itemsD
  | .rng as, ρ => (evL as ρ).bind rngD
  | .zip a b, ρ => (ev a ρ).bind fun x => (ev b ρ).bind fun y => zipItems x y
  | .enum e, ρ => (ev e ρ).bind enumItems
end

/-! ## the text it stands for -/
def visB (sc : Scope) (x : Str) : Bool := match sc.names.lookup x with | some .local => true | some .cell => true | some .free => true | _ => false
def locB (sc : Scope) (x : Str) : Bool := match sc.names.lookup x with | some .local => true | some .cell => true | _ => false
def glB (sc : Scope) (x : Str) : Bool := match sc.names.lookup x with | some .globalImplicit => true | _ => false
def okName (x : Str) : Bool := !(x == ("__debug__" : Str)) && !(x == ("__classdict__" : Str))
def chkC : Cn → Const → Bool
  | .non, .none => true
  | .bl a, .bool b => a == b
  | .int a, .int b => decide (a = b)
  | .str a, .str b => decide (a = b)
  | _, _ => false
def chkNm (N : List Str) (sc : Scope) (i : Nat) : Expr → Bool
  | .Name x _ => decide (N[i]? = some x) && locB sc x
  | _ => false
def chkNms (N : List Str) (sc : Scope) : List Nat → List Expr → Bool
  | [], [] => true
  | i :: is, e :: es => chkNm N sc i e && chkNms N sc is es
  | _, _ => false
def chkTg (N : List Str) (sc : Scope) : Tg → Expr → Bool
  | .name i, e => chkNm N sc i e
  | .tup is, .Tuple es _ _ => chkNms N sc is es
  | .pr i is, .Tuple [e, .Tuple es _ _] _ _ => chkNm N sc i e && chkNms N sc is es
  | _, _ => false
def isTupE : Expr → Bool
  | .Tuple _ _ _ => true
  | _ => false
def tgIn (vs : List Nat) : Tg → Bool
  | .name i => vs.contains i
  | .tup is => is.all fun i => vs.contains i
  | .pr i is => vs.contains i && is.all fun i => vs.contains i
def opB : CmpOp → CmpOp → Bool
  | .Eq, .Eq => true | .NotEq, .NotEq => true | .Lt, .Lt => true | .LtE, .LtE => true | .Gt, .Gt => true | .GtE, .GtE => true
  | _, _ => false
mutual
def chk (N : List Str) : Scope → E → Expr → Bool
  | sc, .v i, .Name x _ => decide (N[i]? = some x) && visB sc x && okName x
  | _, .c k, .Constant kk _ _ => chkC k kk
  | sc, .atom q, e => q.chk N sc e
  | sc, .g x k, .Name y _ => decide (x = y) && glB sc x && okName x && k.isC
  | sc, .prim p as, e => match p.syn sc e with | some es => chkL N sc as es | none => false
  | sc, .and a b, .BoolOp .And (x :: y :: r) pos => chk N sc a x && (match r with | [] => chk N sc b y | z :: r' => chk N sc b (.BoolOp .And (y :: z :: r') pos))
  | sc, .or a b, .BoolOp .Or (x :: y :: r) pos => chk N sc a x && (match r with | [] => chk N sc b y | z :: r' => chk N sc b (.BoolOp .Or (y :: z :: r') pos))
  | sc, .not a, .UnaryOp .Not x _ => chk N sc a x
  | sc, .ite t a b, .IfExp x y z _ => chk N sc t x && chk N sc a y && chk N sc b z
  | sc, .chain o1 o2 _ _ a b c, .Compare x [p1, p2] [y, z] _ => opB o1 p1 && opB o2 p2 && chk N sc a x && chk N sc b y && chk N sc c z
  | sc, .call f _ as, .Call (.Name x _) es [] _ => decide (f = x) && glB sc x && okName x && !es.isEmpty && chkL N sc as es
  | sc, .comp own tg it cond elt, .ListComp x [⟨t, i, ifs, 0⟩] scope _ => blkC N sc scope own && chkTg N scope tg t && tgIn (own.map (·.2)) tg && chkI N sc it t i && chkO N (relS scope sc) cond ifs && chk N (relS scope sc) elt x
  | _, _, _ => false
def chkL (N : List Str) : Scope → EL → List Expr → Bool
  | _, .nil, [] => true
  | sc, .cons a r, e :: es => chk N sc a e && notStar e && chkL N sc r es
  | _, _, _ => false
def chkO (N : List Str) : Scope → EO → List Expr → Bool
  | _, .none, [] => true
  | sc, .some a, [e] => chk N sc a e
  | _, _, _ => false
def chkI (N : List Str) : Scope → IT → Expr → Expr → Bool
  | sc, .seq a, _, e => chk N sc a e && (match e with | .Set _ _ _ => false | _ => true)
  | sc, .rng as, _, .Call (.Name x _) es [] _ => decide (x = "range") && glB sc x && decide (1 ≤ es.length) && decide (es.length ≤ 3) && chkL N sc as es
  | sc, .zip a b, t, .Call (.Name x _) [e1, e2] [] _ => decide (x = "zip") && glB sc x && isTupE t && chk N sc a e1 && notStar e1 && chk N sc b e2 && notStar e2
  | sc, .enum a, t, .Call (.Name x _) [e] [] _ => decide (x = "enumerate") && glB sc x && isTupE t && chk N sc a e && notStar e
  | _, _, _, _ => false
end
end PL

namespace PL
open PySem PySem.Spec PyProof.Rows L2

/-! ## more marks -/
/-- the new marks are of what was not there -/
structure Ext (M M' : Mk) (H : Hp) : Prop where
  sub : ∀ a, M a → M' a
  new : ∀ a, M' a → M a ∨ Fr H a
section
variable {K : PySem.W.Frag} {M M' M'' : Mk} {H H' : Hp} {p : Addr}
theorem Ext.refl (M : Mk) (H : Hp) : Ext M M H := ⟨fun _ h => h, fun _ h => .inl h⟩
theorem Ext.mark (n : Fr H p) : Ext M (mark M p) H := ⟨fun _ h => .inl h, fun a h => h.elim .inl fun e => .inr (by rw [e]; exact n)⟩
theorem Ext.trans (a : Ext M M' H) (b : Ext M' M'' H') (s : Same K H H') : Ext M M'' H := ⟨fun x h => b.sub x (a.sub x h), fun x h => (b.new x h).elim (a.new x) fun e => .inr (s.free e)⟩
theorem Ext.not {a : Addr} {o : HO} (x : Ext M M' H) (e : H a = some o) (n : ¬ M a) (t : NT o := by first | exact nt_lst | exact nt_tup | exact nt_dK | exact nt_dT | exact nt_ext | exact nt_frz | assumption) : ¬ M' a := fun m => (x.new a m).elim n fun z => z o e t
mutual
theorem Rep.ext (x : Ext M M' H) : ∀ (d : D) (v : V), Rep K M H v d → Rep K M' H v d
  | .non, _, h => by cases h; exact .non
  | .bl _, _, h => by cases h; exact .bl _
  | .int _, _, h => by cases h; exact .int _
  | .str _, _, h => by cases h; exact .str _
  | .lst ds, _, h => by
    cases h with
    | lst s m r => exact .lst s (x.not s m) (RepAll.ext x ds _ r)
  | .tup ds, _, h => by
    cases h with
    | tup s m r => exact .tup s (x.not s m) (RepAll.ext x ds _ r)
  | .scr ns, _, h => by
    cases h with
    | scr s =>
      refine .scr ?_
      rcases s with ⟨s, m⟩ | s
      · refine .inl ⟨s, ?_⟩
        rcases s with s | ⟨o, s⟩
        · exact x.not s m
        · exact x.not s m
      · exact .inr s
  | .dct ks ds, _, h => by
    cases h with
    | dct s l m r => exact .dct s l (x.not s m) (RepAll.ext x ds _ r)
  | .dcT ks ds, _, h => by
    cases h with
    | dcT s l m r => exact .dcT s l (x.not s m) (RepAll.ext x ds _ r)
  | .exc c, _, h => by
    cases h with
    | exc e s m => exact .exc e s (x.not s m)
theorem RepAll.ext (x : Ext M M' H) : ∀ (ds : List D) (vs : List V), RepAll K M H vs ds → RepAll K M' H vs ds
  | [], _, h => by cases h; exact .nil
  | d :: ds, _, h => by
    cases h with
    | cons a b => exact .cons (Rep.ext x d _ a) (RepAll.ext x ds _ b)
end
theorem Rel.ext {σ : L2.St} {ρ : En} (x : Ext M M' H) (r : Rel K M σ H ρ) : Rel K M' σ H ρ := ⟨r.len, fun i d e => by
  obtain ⟨v, h1, h2⟩ := r.get i d e
  exact ⟨v, h1, Rep.ext x _ _ h2⟩, r.tab⟩
theorem DomM.mark {o : HO} (d : DomM M H) (e : H p = some o) (m : MutO o) : DomM (mark M p) H := fun a h => by
  rcases h with h | h
  · exact d a h
  · exact ⟨o, by rw [h]; exact e, m⟩
theorem same_new {o : HO} (n : H p = none) : Same K H (upd H p o) := Same.of fun b x e => by
  rw [upd_ne (ne_of_none e n)]; exact e
theorem tab_upd {o o' : HO} (e : H p = some o') (m : MutO o') {P : Addr} {q : Str} (t : LamX.TabS H P q) : LamX.TabS (upd H p o) P q := by
  obtain ⟨ps, h1, h2, h3⟩ := t
  have np : P ≠ p := fun z => by
    rw [z, e] at h1
    cases h1
    exact m
  refine ⟨ps, by rw [upd_ne np]; exact h1, h2, fun pos cv hc => ?_⟩
  obtain ⟨c, e1, e2⟩ := h3 pos cv hc
  have nc : c ≠ p := fun z => by
    rw [z, e] at e2
    unfold LamX.CodeO at e2
    cases e2
    exact m
  exact ⟨c, e1, by rw [upd_ne nc]; exact e2⟩
theorem keep_upd {o o' : HO} (m : M p) (e : H p = some o') (mu : MutO o') : Keep K M H (upd H p o) := ⟨fun b x e n _ => by
  rw [upd_ne (show b ≠ p from fun z => n (by rw [z]; exact m))]; exact e, fun h p hp => tab_upd e mu (h p hp)⟩
theorem same_upd {H1 : Hp} {o o' : HO} (s : Same K H1 H) (n : Fr H1 p) (e : H p = some o') (m : MutO o') : Same K H1 (upd H p o) := ⟨fun b x h nt => by
  rw [upd_ne (n.ne h nt)]; exact s.app b x h nt, fun h p hp => tab_upd e m (s.tab h p hp)⟩
theorem DomM.upd {o : HO} (d : DomM M H) (m : MutO o) : DomM M (upd H p o) := fun a h => by
  by_cases e : a = p
  · exact ⟨o, by rw [e, upd_same], m⟩
  · obtain ⟨u, h1, h2⟩ := d a h
    exact ⟨u, by rw [upd_ne e]; exact h1, h2⟩
end

/-! ## what is known of the code around -/
def bnames : List Str := ["zip", "range", "enumerate", "len", "abs", "min", "max", "list", "tuple", "all", "any", "sum", "sorted", "set", "int", "isinstance", "str", "bool", "dict"]
structure XOk (X : Cx) (k : Nat) (W : WX) : Prop where
  calm : X.calm = true
  nd : X.N.Nodup
  room : Room k X.A
  tk : Takes X W
  bf : ∀ x ∈ bnames, X.mg x = none
  tb : TabBs X.K X.mg X.base
  cd : ∀ n ∈ lamNames, X.env.qual = n ++ ".<locals>." → X.env.code = .ref (He.cT X.K (n, none)).1
/-- a function's promise, by meaning -/
def spD (K : PySem.W.Frag) (mg : Str → Option Value) (n : Nat) (sem : List D → Res D) : Sp := fun vs H Q E => vs.length = n ∧ TabsK K H ∧ ∃ M ds, DomM M H ∧ RepAll K M H vs ds ∧
  match sem ds with
  | .ok d => ∀ v H', Same K H H' → Rep K M H' v d → Q v H'
  | .exc c => ∀ H', Same K H H' → E (excV mg c) none H'
  | .stuck => False
def GoodF (P : Program) (w : World) (K : PySem.W.Frag) (mg : Str → Option Value) (base : Heap) (k : Nat) (f : Str) (sem : List D → Res D) : Prop :=
  ∃ fa fd ps, FnOk P w K mg base (L2.CX P w) k fa fd ps (spD K mg ps.length sem) ∧ mg f = some (.ref fa) ∧ PySem.W.keepIn K (.ref fa) = true ∧ Binds K fd ps [] ∧ (∀ ds, sem ds ≠ .stuck → ds.length = ps.length)
abbrev GoodX (X : Cx) (k : Nat) : Str → (List D → Res D) → Prop := GoodF X.prog X.w X.K X.mg X.base k
def PrimG (p : Prim) : Prop := ∀ X k W, XOk X k W → PrimOk X W p
def OpG (op : CmpOp) (f : D → D → Option D) : Prop := ∀ X k W, XOk X k W → ∃ r : R2, OpR X (compareOp op) r ∧
  ∀ (M : Mk) (H : Hp) (x y : V) (d1 d2 d : D) (Q : VK), DomM M H → Rep X.K M H x d1 → Rep X.K M H y d2 → f d1 d2 = some d → (∀ v H', Same X.K H H' → Rep X.K M H' v d → Q v H') → r x y H Q
def Cn.v : Cn → V
  | .non => .non | .bl b => .bl b | .int i => .int i | .str s => .str s | .cls _ _ => .non | .fact _ => .non
/-- what is said of an error's class c and the class d: whether the one is the other's -/
structure ClsC (K : PySem.W.Frag) (mg : Str → Option Value) (c d : Str) (b : Bool) : Prop where
  ex : ∃ (C : Addr) (cv : Value), PySem.W.nsIn K mainGlobals c = some (some (.ref C)) ∧ mg c = some (.ref C) ∧ ExcC K C ∧ ((∃ D, cv = .ref D ∧ mg d = some cv) ∨ (mg d = none ∧ cv = .type "ValueError" ∧ d = "ValueError")) ∧ PySem.W.kitOne K (.ref C) cv = some b ∧ PySem.W.exmOne K (.ref C) cv = some b
def GC (Γ : Gm) (x : Str) : Cn → Prop
  | .cls d b => ClsC Γ.K Γ.mg x d b
  | .fact φ => φ Γ
  | k => ∃ u, Γ.mg x = some u ∧ RelV k.v u
abbrev gm (X : Cx) (k : Nat) : Gm := ⟨X.prog, X.w, X.K, X.mg, X.base, k, X.env.qual⟩
theorem GC.get {Γ : Gm} {x : Str} {k : Cn} (h : GC Γ x k) (i : k.isC = true) : ∃ u, Γ.mg x = some u ∧ RelV k.v u := by
  cases k with
  | cls d b => cases i
  | fact φ => cases i
  | _ => exact h
def AtomG (P : Str → (List D → Res D) → Prop) (C : Str → Cn → Prop) (q : Atom) : Prop := ∀ X k W, XOk X k W → P = GoodX X k → C = GC (gm X k) → ∀ x, q.chk X.N X.env.scope x = true → PE X x (tS X W q.sem) ∧ PT X x (tST X W fun ρ => (q.sem ρ).bind truth)
mutual
def good (P : Str → (List D → Res D) → Prop) (C : Str → Cn → Prop) : E → Prop
  | .v _ => True
  | .atom q => AtomG P C q
  | .c _ => True
  | .g x k => C x k
  | .prim p as => PrimG p ∧ goodL P C as
  | .and a b => good P C a ∧ good P C b
  | .or a b => good P C a ∧ good P C b
  | .not a => good P C a
  | .ite t a b => good P C t ∧ good P C a ∧ good P C b
  | .chain o1 o2 f1 f2 a b c => OpG o1 f1 ∧ OpG o2 f2 ∧ good P C a ∧ good P C b ∧ good P C c
  | .call f sem as => P f sem ∧ goodL P C as
  | .comp _ _ it cond elt => goodI P C it ∧ goodO P C cond ∧ good P C elt
def goodL (P : Str → (List D → Res D) → Prop) (C : Str → Cn → Prop) : EL → Prop
  | .nil => True
  | .cons a r => good P C a ∧ goodL P C r
def goodO (P : Str → (List D → Res D) → Prop) (C : Str → Cn → Prop) : EO → Prop
  | .none => True
  | .some a => good P C a
def goodI (P : Str → (List D → Res D) → Prop) (C : Str → Cn → Prop) : IT → Prop
  | .seq a => good P C a
  | .rng as => goodL P C as
  | .zip a b => good P C a ∧ good P C b
  | .enum a => good P C a
end

/-! ## targets -/
def gNames : List Nat → TGs
  | [] => gNil
  | i :: is => gCons (gName i) (gNames is)
def gTg (K : PySem.W.Frag) : Tg → TG
  | .name i => gName i
  | .tup is => gTup K is.length (gNames is)
  | .pr i is => gTup K 2 (gCons (gName i) (gCons (gTup K is.length (gNames is)) gNil))
theorem wipe_set {σ : L2.St} {i : Nat} {x : Option V} : ∀ {vs : List Nat}, i ∈ vs → wipe (σ.set i x) vs = wipe σ vs
  | v :: vs, h => by
    unfold wipe
    by_cases hv : i ∈ vs
    · rw [wipe_set hv]
    · have e : i = v := by
        rcases List.mem_cons.mp h with h | h
        · exact h
        · exact absurd h hv
      subst e
      have comm : ∀ {vs : List Nat}, i ∉ vs → wipe (σ.set i x) vs = (wipe σ vs).set i x := by
        intro vs
        induction vs with
        | nil => intro _; rfl
        | cons u us ih =>
          intro hn
          have h1 : i ≠ u := fun e => hn (by rw [e]; exact List.mem_cons_self)
          have h2 : i ∉ us := fun e => hn (List.mem_cons_of_mem _ e)
          show (wipe (σ.set i x) us).set u none = ((wipe σ us).set u none).set i x
          rw [ih h2, List.set_comm _ _ h1]
      rw [comm hv, List.set_set]
theorem gNames_of {K : PySem.W.Frag} {M : Mk} {H : Hp} : ∀ {is : List Nat} {ds : List D} {vs : List V} {σ : L2.St} {ρ ρ2 : En} {Q : L2.St → Hp → Prop}, setAll is ds ρ = .ok ρ2 → Rel K M σ H ρ → RepAll K M H vs ds →
    (∀ σ2, Rel K M σ2 H ρ2 → (∀ ws : List Nat, (∀ i ∈ is, i ∈ ws) → wipe σ2 ws = wipe σ ws) → Q σ2 H) → gNames is vs σ H Q
  | [], [], _, σ, ρ, ρ2, Q, e, r, q, h => by
    cases q
    cases e
    exact ⟨rfl, h σ r fun _ _ => rfl⟩
  | i :: is, d :: ds, _, σ, ρ, ρ2, Q, e, r, q, h => by
    cases q with
    | cons q1 q2 =>
      refine ⟨_, _, rfl, ?_⟩
      exact gNames_of (is := is) e (r.set q1) q2 fun σ2 r2 w => h σ2 r2 fun ws hw => by
        rw [w ws fun i hi => hw i (List.mem_cons_of_mem _ hi), wipe_set (hw i List.mem_cons_self)]
  | [], _ :: _, _, _, _, _, _, e, _, _, _ => by cases e
  | _ :: _, [], _, _, _, _, _, e, _, _, _ => by cases e
theorem setAll_len : ∀ {is : List Nat} {ds : List D} {ρ ρ2 : En}, setAll is ds ρ = .ok ρ2 → ds.length = is.length
  | [], [], _, _, _ => rfl
  | _ :: is, _ :: ds, _, _, e => by rw [List.length_cons, List.length_cons, setAll_len (is := is) e]
  | [], _ :: _, _, _, e => by cases e
  | _ :: _, [], _, _, e => by cases e
theorem gTg_of {K : PySem.W.Frag} {M : Mk} {H : Hp} {tg : Tg} {d : D} {v : V} {σ : L2.St} {ρ ρ2 : En} {Q : L2.St → Hp → Prop} (e : setTg tg d ρ = .ok ρ2) (r : Rel K M σ H ρ) (q : Rep K M H v d)
    (h : ∀ σ2, Rel K M σ2 H ρ2 → (∀ ws : List Nat, tgIn ws tg = true → wipe σ2 ws = wipe σ ws) → Q σ2 H) : gTg K tg v σ H Q := by
  cases tg with
  | name i =>
    cases e
    exact h _ (r.set q) fun ws hw => wipe_set (by simpa [tgIn] using hw)
  | tup is =>
    cases d with
    | tup ds =>
      cases q with
      | tup s m ra =>
        refine ⟨_, _, rfl, SqT.of s, by rw [ra.length]; exact setAll_len e, ?_⟩
        exact gNames_of e r ra fun σ2 r2 w => h σ2 r2 fun ws hw => w ws fun i hi => by
          have := List.all_eq_true.mp (show (is.all fun i => ws.contains i) = true from hw) i hi
          simpa using this
    | _ => cases e
  | pr i is =>
    match d, e with
    | .tup [d1, .tup ds], e =>
      cases q with
      | tup s m ra =>
        cases ra with
        | cons r1 ra =>
          cases ra with
          | cons r2 ra =>
            cases ra
            cases r2 with
            | tup s2 m2 ra2 =>
              refine ⟨_, _, rfl, SqT.of s, rfl, _, _, rfl, _, _, rfl, ⟨_, _, rfl, SqT.of s2, by rw [ra2.length]; exact setAll_len e, ?_⟩⟩
              exact gNames_of e (r.set r1) ra2 fun σ2 re2 w => ⟨rfl, h σ2 re2 fun ws hw => by
                have hw' : i ∈ ws ∧ ∀ x ∈ is, x ∈ ws := by simpa [tgIn] using hw
                rw [w ws hw'.2, wipe_set hw'.1]⟩
section
variable {X : Cx}
theorem assign_names : ∀ {N : List Str} {sc : Scope} {is : List Nat} {es : List Expr}, chkNms N sc is es = true → (assignEach es X.env).length = is.length ∧ (assignEach es X.env).findIdx? (·.1) = none
  | _, _, [], [], _ => ⟨rfl, rfl⟩
  | N, sc, i :: is, e :: es, h => by
    have h' : chkNm N sc i e = true ∧ chkNms N sc is es = true := by simpa [chkNms] using h
    obtain ⟨h1, h2⟩ := h'
    cases e with
    | Name x p =>
      obtain ⟨a, b⟩ := assign_names h2
      refine ⟨?_, ?_⟩
      · show (assignEach es X.env).length + 1 = is.length + 1
        rw [a]
      · show List.findIdx? (·.1) ((false, assign (.Name x p) X.env) :: assignEach es X.env) = none
        rw [List.findIdx?_cons, b]; rfl
    | _ => cases h1
  | _, _, [], _ :: _, h => by cases h
  | _, _, _ :: _, [], h => by cases h
theorem pg_nm {N : List Str} {sc : Scope} {i : Nat} {e : Expr} (hN : X.N = N) (nd : X.N.Nodup) (hf : ∀ x, locB sc x = true → Loc X.env.scope x ∧ (X.fn x = true ∨ X.env.scope.names.lookup x = some .local)) (h : chkNm N sc i e = true) : PG X e (gName i) := by
  cases e with
  | Name x p =>
    have h' : N[i]? = some x ∧ locB sc x = true := by simpa [chkNm] using h
    obtain ⟨l, f⟩ := hf x h'.2
    exact pg_name nd (by rw [hN]; exact h'.1) l f
  | _ => cases h
theorem pgs_nms {N : List Str} {sc : Scope} (hN : X.N = N) (nd : X.N.Nodup) (hf : ∀ x, locB sc x = true → Loc X.env.scope x ∧ (X.fn x = true ∨ X.env.scope.names.lookup x = some .local)) : ∀ {is : List Nat} {es : List Expr}, chkNms N sc is es = true → PGs X es (gNames is)
  | [], [], _ => pgs_nil
  | i :: is, e :: es, h => by
    have h' : chkNm N sc i e = true ∧ chkNms N sc is es = true := by simpa [chkNms] using h
    refine pgs_cons (pg_nm hN nd hf h'.1) (pgs_nms hN nd hf h'.2) ?_
    have h1 := h'.1
    cases e with
    | Name x p => rfl
    | _ => cases h1
  | [], _ :: _, h => by cases h
  | _ :: _, [], h => by cases h
theorem pg_tg {N : List Str} {sc : Scope} {tg : Tg} {e : Expr} (hc : X.calm = true) (hN : X.N = N) (nd : X.N.Nodup) (hf : ∀ x, locB sc x = true → Loc X.env.scope x ∧ (X.fn x = true ∨ X.env.scope.names.lookup x = some .local)) (h : chkTg N sc tg e = true) : PG X e (gTg X.K tg) := by
  cases tg with
  | name i => exact pg_nm hN nd hf h
  | tup is =>
    cases e with
    | Tuple es k p =>
      have h' : chkNms N sc is es = true := h
      obtain ⟨a, b⟩ := assign_names (X := X) h'
      exact pg_tup hc (pgs_nms hN nd hf h') a b
    | _ => cases h
  | pr i is =>
    match e, h with
    | .Tuple [e1, .Tuple es k2 p2] k p, h =>
      have h' : chkNm N sc i e1 = true ∧ chkNms N sc is es = true := by simpa [chkTg] using h
      obtain ⟨a, b⟩ := assign_names (X := X) h'.2
      have h1 := h'.1
      match e1, h1 with
      | .Name x p1, h1 => exact pg_tup hc (pgs_cons (pg_nm hN nd hf h1) (pgs_cons (pg_tup hc (pgs_nms hN nd hf h'.2) a b) pgs_nil rfl) rfl) rfl rfl
end
end PL

/-! ## enumerate(t), t a tuple -/
namespace PL
open PySem PySem.Spec PyProof.Rows L2
theorem meets_enumerate_newB1 {v : Value} {o : Obj} {H : Heap → Prop} (B : Begins v o H) :
    Meets (Builtin.«enumerate.__new__» ⟨[.type "enumerate", v], []⟩) (fun _ R s => H s.heap ∧
      R (.ok (.ret (.ref (s.heap.push o).objs.size))) { s with heap := (s.heap.push o).push { cls := .type "enumerate", data := .fields #[.none, .bool false, .ref s.heap.objs.size, rawInt 0, .none, .none] } }) :=
  .of_wp fun prog w A R s h => by
    obtain ⟨hp, g, d, tk, os⟩ := s; obtain ⟨h1, h⟩ := h
    have hsub := sub_enumerate
    have q1 : ∀ {A' : Around} {E : Value → Shared → Prop} {Q : Value → Shared → Prop}, Q (.ref hp.objs.size) ⟨hp.push o, g, d, tk, os⟩ → wpAny (model prog w) A' (pyIter v) Q E ⟨hp, g, d, tk, os⟩ :=
      fun q => B.iter prog w _ _ ⟨hp, g, d, tk, os⟩ _ h1 q
    wp_walk using q1
    refine wpAny_stack_any fun st => wpAny_pure ?_
    split
    · rename_i c _ _ _ _ _
      cases (c == Value.type "enumerate")
      · wp_walk using q1
        exact ⟨_, rfl, h⟩
      · wp_walk using q1
        exact ⟨_, rfl, h⟩
    · wp_walk using q1
      exact ⟨_, rfl, h⟩
section
variable {prog : Program} {w : World} {A : Around} {E : Value → Shared → Prop} {s : Shared}
theorem call_enumerate_tuple {l : Addr} {items : Array Value} {Q : Value → Shared → Prop} (hL : s.heap.IsTuple l items)
    (h : ∀ h', IsEnum h' (s.heap.objs.size + 1) s.heap.objs.size 0 .none → h'.IsTupleIter s.heap.objs.size l 0 → h'.objs.size = s.heap.objs.size + 2 →
      (∀ b o, s.heap.get? b = some o → h'.get? b = some o) → Q (.ref (s.heap.objs.size + 1)) { s with heap := h' }) :
    wpAny (model prog w) A (call (.type "enumerate") [.ref l]) Q E s := by
  refine callType_new F.called_enumerate (by decide) (F.typeCall_enumerate_1 _) (F.newCall_enumerate_1 _) (fun obj => F.args_object_init_2 obj _) F.entry_enumerate_new
    (meets_enumerate_newB1 (begins_tuple l items)) ⟨hL, ?_⟩
  have hz : (s.heap.push { cls := .type "tuple_iterator", data := .fields #[.ref l, .int 0 0] }).objs.size = s.heap.objs.size + 1 := Heap.size_push ..
  show _ ∧ _
  rw [hz]
  have he : IsEnum ((s.heap.push { cls := .type "tuple_iterator", data := .fields #[.ref l, .int 0 0] }).push
      { cls := .type "enumerate", data := .fields #[.none, .bool false, .ref s.heap.objs.size, rawInt 0, .none, .none] }) (s.heap.objs.size + 1) s.heap.objs.size 0 .none := by
    have := Heap.get?_push_size (s.heap.push { cls := .type "tuple_iterator", data := .fields #[.ref l, .int 0 0] })
      (o := { cls := .type "enumerate", data := .fields #[.none, .bool false, .ref s.heap.objs.size, rawInt 0, .none, .none] }) rfl
    rw [hz] at this; exact this
  refine ⟨⟨_, he, rfl⟩, h _ he ⟨_, Heap.get?_push_of_some _ (Heap.get?_push_size _ rfl), rfl, rfl⟩ (by rw [Heap.size_push, hz]) fun b o x => Heap.get?_push_of_some _ (Heap.get?_push_of_some _ x)⟩
end
theorem draws_end {prog : Program} {w : World} {A : Around} (hh : A.handled = none) (it t : Addr) (items : Array Value) (i : Nat) (hi : items.size ≤ i) :
    Draws prog w A it [it, t] i (fun _ _ => True) (fun j h => j = i ∧ h.IsTupleIter it t i ∧ h.IsTuple t items) where
  live := fun _ _ st => let ⟨o, ho, _⟩ := st.2.1; ⟨o, ho⟩
  frame := fun _ _ _ st hk => ⟨st.1, st.2.1.at fun o e => hk it (by simp) o e, st.2.2.at fun o e => hk t (by simp) o e⟩
  item := fun j s Q E hj st hQ => absurd st.1 (Nat.ne_of_lt hj)
  done := fun s Q E st hE => wpAny_nextOf_tuple_end hh st.2.1 st.2.2 (by simp; omega) hE
def IteT (K : PySem.W.Frag) (a : Addr) : It :=
  ⟨fun i H => ∃ (xs : List V) (x : V), SqT K H a xs ∧ xs[i]? = some x, fun i H v H' => ∃ T x, v = .ref T ∧ H T = none ∧ H' = upd H T (.tup [.int (i : Nat), x]) ∧ ∀ xs, SqT K H a xs → xs[i]? = some x, fun i H => ∃ xs : List V, SqT K H a xs ∧ xs.length ≤ i⟩
theorem turn_enumT {P : Program} {w : World} {K : PySem.W.Frag} {elts : List Expr} {kk : Nat} {tpos : Pos} (a e it : Addr) (hai : a ≠ it) (hae : e ≠ a) :
    Turn P w K (.Tuple elts kk tpos) (IteT K a) [e, it] e (fun i h => (∃ old, IsEnum h e it ((i : Nat) : Int) old) ∧ h.IsTupleIter it a i ∧ e ≠ it) where
  mem := by simp
  obj := fun i h st b hb => by
    obtain ⟨⟨old, he⟩, ⟨o, ho, hc, hd⟩, _⟩ := st
    have e' : b = e ∨ b = it := by simpa using hb
    rcases e' with z | z
    · rw [z]; exact ⟨_, he, fun v q => nomatch q⟩
    · rw [z]; exact ⟨o, ho, fun v q => by rw [hd] at q; cases q⟩
  keep := fun i h h' st k => let ⟨⟨old, he⟩, hi, hne⟩ := st; ⟨⟨old, k e (by simp) _ he⟩, hi.at fun o q => k it (by simp) o q, hne⟩
  item := by
    intro X hP hw hK hc i pins s σ H E I hf st hg
    subst hP hw hK
    obtain ⟨⟨old, he⟩, hit, hne⟩ := st
    obtain ⟨xs, x, hq, hx⟩ := hg
    obtain ⟨its, rv, p, hz⟩ := I.tuple hq
    obtain ⟨u, hu, ru⟩ := rv.get hx
    have hel : e < s.heap.objs.size := Heap.lt_size he
    have hil : it < s.heap.objs.size := by obtain ⟨_, q, _⟩ := hit; exact Heap.lt_size q
    have hlt : i < its.toArray.size := by
      rw [List.size_toArray]
      exact (List.getElem?_eq_some_iff.mp hu).1
    refine wpAny_pyNext_enum_itemD (Draws.tuple (A := X.A.in1) (I.ok.hd hc) it a hai its.toArray) he ⟨hit, show s.heap.IsTuple a its.toArray from p⟩ hlt hne (by simp [hne, hae]) fun y h' tk hP ho hst hT hsz hk => ?_
    have ey : y = u := by
      have : its[i]? = some y := by simpa using hP
      rw [hu] at this
      exact (Option.some.inj this).symm
    subst ey
    refine ⟨_, rfl, wpAny_letOwnedTupleGo_enum (s := { s with heap := h', toks := tk + 1 }) ho fun h'' he' sb => ?_⟩
    have hT2 : h''.get? s.heap.objs.size = some { cls := .type "tuple", data := .seq #[.int i tk, y] } := (sb.2 _ (Nat.ne_of_gt hel)).trans hT
    have new : ObjOk X.prog X.w (upd H s.heap.objs.size (.tup [.int (i : Nat), x])) h'' s.heap.objs.size (.tup [.int (i : Nat), x]) :=
      ⟨by show 2 ≤ sizeLine; decide, [.int i tk, y], .cons ⟨_, rfl⟩ (.cons ru .nil), ⟨_, hT2, rfl, _, rfl⟩⟩
    have I1 : Inv X pins σ (upd H s.heap.objs.size (.tup [.int (i : Nat), x])) { s with heap := h'', toks := tk + 1 } :=
      I.turnedNew (ch := [e, it]) (fun b ob hb q => (sb.2 b (fun z => hb (by simp [z]))).trans (hk b ob (fun z => hb (by simp [z])) (fun z => hb (by simp [z])) q)) hf (Nat.le_refl _) new
    refine ⟨.ref s.heap.objs.size, _, I1, rfl, ⟨_, x, rfl, I.hok.fresh (Nat.le_refl _), rfl, fun ys hy => by rw [I.tuple_inj hy hq]; exact hx⟩, ⟨⟨y, ?_⟩, hst.1.at fun o q => (sb.2 it (Ne.symm hne)).trans q, hne⟩, fun b hb => ?_⟩
    · have e1 : ((i + 1 : Nat) : Int) = (i : Int) + 1 := by omega
      rw [e1]; exact he'
    · have hb' : b < s.heap.objs.size := by
        have e' : b = e ∨ b = it := by simpa using hb
        rcases e' with z | z
        · rw [z]; exact hel
        · rw [z]; exact hil
      rw [upd_ne (Nat.ne_of_lt hb')]
      exact (hf b hb).1
  done := by
    intro X hP hw hK hc i pins s σ H E I hf st hg
    subst hP hw hK
    obtain ⟨⟨old, he⟩, hit, hne⟩ := st
    obtain ⟨xs, hq, hx⟩ := hg
    obtain ⟨its, rv, p, hz⟩ := I.tuple hq
    obtain ⟨f0, f1, f2, f3, f4, f5⟩ := hf it (by simp)
    have hl := rv.length
    exact wpAny_pyNext_enum_endD (draws_end (A := X.A.in1) (I.ok.hd hc) it a its.toArray i (by rw [List.size_toArray]; omega)) he ⟨rfl, hit, show s.heap.IsTuple a its.toArray from p⟩ fun h' eb => ⟨rfl, I.turned (t' := s.toks) (fun b o hb q => eb b o hb q) f0 f1 f3 f4 f5⟩
  self := fun A i s Q E st h => let ⟨⟨_, he⟩, _⟩ := st; wpAny_pyIter_enum he h
def iEnumA (K : PySem.W.Frag) (ta : TA) : TI := fun σ H R => ta σ H fun vs H1 => ∃ a xs, vs = [.ref a] ∧ ((SqL K H1 a xs ∧ R (Ite K a) H1) ∨ (SqT K H1 a xs ∧ R (IteT K a) H1))
theorem pi_enumA {X : Cx} {e : Expr} {ta : TA} {p pos tpos : Pos} {elts : List Expr} {kk : Nat} (hg : Gl X "enumerate") (hm : X.mg "enumerate" = none) (ha : PA X [e] ta) (hs : starEach [e] X.env = [(false, eval e X.env)]) :
    PI X (.Tuple elts kk tpos) (.Call (.Name "enumerate" p) [e] [] pos) (iEnumA X.K ta) := by
  refine ⟨fun pins s σ H R I h => ?_⟩
  refine Call_ (ld_blt I hg hm boot_enumerate (PyProof.Rows.callWith_type1 (thn (ha.run pos pins s σ H _ I h) fun us s1 ⟨vs, H1, I1, r1, q1⟩ => ?_) hs rfl))
  obtain ⟨a, xs, ex, q⟩ := q1
  subst ex
  cases r1 with
  | cons r rr =>
    cases rr
    cases r
    rcases q with ⟨hq, q⟩ | ⟨hq, q⟩
    · obtain ⟨its, rv, p', hz⟩ := I1.list hq
      refine call_enumerate_list p'.isList fun h' he hit hsz hk => wpAny_pyIter_enum he ?_
      have I2 : Inv X pins σ H1 { s1 with heap := h' } := I1.kept (t' := s1.toks) hk
      refine ⟨s1.heap.objs.size + 1, [s1.heap.objs.size + 1, s1.heap.objs.size], _, _, H1, rfl, I2, turn_enum a (s1.heap.objs.size + 1) s1.heap.objs.size, ⟨⟨.none, he⟩, hit, Nat.succ_ne_self _⟩, fun b hb => ?_, q⟩
      have e' : b = s1.heap.objs.size + 1 ∨ b = s1.heap.objs.size := by simpa using hb
      have hle : s1.heap.objs.size ≤ b := by
        rcases e' with z | z
        · rw [z]; exact Nat.le_add_right _ _
        · rw [z]; exact Nat.le_refl _
      exact I1.fpOk hle (I1.hok.fresh hle)
    · obtain ⟨its, rv, p', hz⟩ := I1.tuple hq
      have p2 : s1.heap.IsTuple a its.toArray := p'
      have hla : a < s1.heap.objs.size := by obtain ⟨o, ho, _⟩ := p2; exact Heap.lt_size ho
      refine call_enumerate_tuple p2 fun h' he hit hsz hk => wpAny_pyIter_enum he ?_
      have I2 : Inv X pins σ H1 { s1 with heap := h' } := I1.kept (t' := s1.toks) hk
      refine ⟨s1.heap.objs.size + 1, [s1.heap.objs.size + 1, s1.heap.objs.size], _, _, H1, rfl, I2, turn_enumT a (s1.heap.objs.size + 1) s1.heap.objs.size (Nat.ne_of_lt hla) (Nat.ne_of_gt (Nat.lt_succ_of_lt hla)), ⟨⟨.none, he⟩, hit, Nat.succ_ne_self _⟩, fun b hb => ?_, q⟩
      have e' : b = s1.heap.objs.size + 1 ∨ b = s1.heap.objs.size := by simpa using hb
      have hle : s1.heap.objs.size ≤ b := by
        rcases e' with z | z
        · rw [z]; exact Nat.le_add_right _ _
        · rw [z]; exact Nat.le_refl _
      exact I1.fpOk hle (I1.hok.fresh hle)
end PL

namespace PL
open PySem PySem.Spec PyProof.Rows L2

/-! ## what is walked -/
structure Walks (K : PySem.W.Frag) (M : Mk) (J : L2.It) (H0 : Hp) (ds : List D) : Prop where
  go : ∀ (M' : Mk) (i : Nat) (d : D) (H : Hp), Ext M M' H0 → DomM M' H → Keep K M' H0 H → ds[i]? = some d → J.go i H ∧ ∀ x H', J.yld i H x H' → Same K H H' ∧ Rep K M' H' x d
  stop : ∀ (M' : Mk) (i : Nat) (H : Hp), Ext M M' H0 → DomM M' H → Keep K M' H0 H → ds[i]? = none → J.stop i H
def OutI (X : Cx) (W : WX) (M : Mk) (σ : L2.St) (H : Hp) (R : L2.It → Hp → Prop) : Res (List D) → Prop
  | .ok ds => ∀ J H', Same X.K H H' → Walks X.K M J H' ds → R J H'
  | .exc c => ∀ H', Same X.K H H' → W (excV X.mg c) none σ H'
  | .stuck => False
def tIS (X : Cx) (W : WX) (m : En → Res (List D)) : TI := fun σ H R => ∃ M ρ, DomM M H ∧ Rel X.K M σ H ρ ∧ OutI X W M σ H R (m ρ)
section
variable {X : Cx} {W : WX} {tg : Expr}
theorem pi_weak {e : Expr} {t t' : TI} (h : PI X tg e t) (w : ∀ σ H Q, t' σ H Q → t σ H Q) : PI X tg e t' := ⟨fun pins s σ H Q I q => h.run pins s σ H Q I (w σ H Q q)⟩
theorem pi_or {e : Expr} {t t' : TI} (h : PI X tg e t) (h' : PI X tg e t') : PI X tg e (fun σ H R => t σ H R ∨ t' σ H R) := ⟨fun pins s σ H Q I q => q.elim (h.run pins s σ H Q I) (h'.run pins s σ H Q I)⟩
theorem walks_list {K : PySem.W.Frag} {M : Mk} {H : Hp} {a : Addr} {xs : List V} {ds : List D} (e : H a = some (.lst xs)) (n : ¬ M a) (r : RepAll K M H xs ds) : Walks K M (Itl K a) H ds := by
  refine ⟨fun M' i d H1 x dm k hd => ?_, fun M' i H1 x dm k hd => ?_⟩
  · have e1 := k.get a _ e (x.not e n)
    obtain ⟨v, hv, rv⟩ := (RepAll.keep k ds _ (RepAll.ext x ds _ r)).get hd
    refine ⟨⟨xs, v, SqL.of e1, hv⟩, fun x H' y => ?_⟩
    obtain ⟨rfl, y⟩ := y
    have := y xs (SqL.of e1)
    rw [hv] at this; cases this
    exact ⟨Same.refl _, rv⟩
  · refine ⟨xs, SqL.of (k.get a _ e (x.not e n)), ?_⟩
    rw [r.length]
    exact List.getElem?_eq_none_iff.mp hd
theorem walks_tup {K : PySem.W.Frag} {M : Mk} {H : Hp} {a : Addr} {xs : List V} {ds : List D} (e : H a = some (.tup xs)) (n : ¬ M a) (r : RepAll K M H xs ds) : Walks K M (Itt K a) H ds := by
  refine ⟨fun M' i d H1 x dm k hd => ?_, fun M' i H1 x dm k hd => ?_⟩
  · have e1 := k.get a _ e (x.not e n)
    obtain ⟨v, hv, rv⟩ := (RepAll.keep k ds _ (RepAll.ext x ds _ r)).get hd
    refine ⟨⟨xs, v, SqT.of e1, hv⟩, fun x H' y => ?_⟩
    obtain ⟨rfl, y⟩ := y
    have := y xs (SqT.of e1)
    rw [hv] at this; cases this
    exact ⟨Same.refl _, rv⟩
  · refine ⟨xs, SqT.of (k.get a _ e (x.not e n)), ?_⟩
    rw [r.length]
    exact List.getElem?_eq_none_iff.mp hd
theorem walks_str {K : PySem.W.Frag} {M : Mk} {H : Hp} (s : Str) : Walks K M (Its s) H (strD s) := by
  refine ⟨fun M' i d H1 x dm k hd => ?_, fun M' i H1 x dm k hd => ?_⟩
  · unfold strD at hd
    rw [List.getElem?_map] at hd
    cases e : s.cps.toList[i]? with
    | none => rw [e] at hd; cases hd
    | some c =>
      rw [e] at hd
      cases hd
      have hi : i < s.cps.size := by
        have := (List.getElem?_eq_some_iff.mp e).1
        simpa using this
      refine ⟨hi, fun x H' y => ?_⟩
      obtain ⟨rfl, c', e', rfl⟩ := y
      have e2 : s.cps.toList[i]? = some c' := by simpa using e'
      rw [e] at e2; cases e2
      exact ⟨Same.refl _, .str _⟩
  · unfold strD at hd
    have := List.getElem?_eq_none_iff.mp hd
    show s.cps.size ≤ i
    simpa using this
theorem rng_get {α : Type} {f : Nat → α} {n i : Nat} {d : α} (h : ((List.range n).map f)[i]? = some d) : i < n ∧ d = f i := by
  have hi : i < n := by
    have := (List.getElem?_eq_some_iff.mp h).1
    simpa using this
  refine ⟨hi, ?_⟩
  rw [List.getElem?_map, List.getElem?_eq_getElem (by simpa using hi)] at h
  simp at h
  exact h.symm
theorem walks_range {K : PySem.W.Frag} {M : Mk} {H : Hp} (lo : Int) (n : Nat) : Walks K M (Itr lo n) H ((List.range n).map fun i => D.int (lo + (i : Nat))) := by
  refine ⟨fun M' i d H1 x dm k hd => ?_, fun M' i H1 x dm k hd => ?_⟩
  · obtain ⟨hi, rfl⟩ := rng_get hd
    refine ⟨hi, fun x H' y => ?_⟩
    obtain ⟨rfl, rfl⟩ := y
    exact ⟨Same.refl _, .int _⟩
  · have := List.getElem?_eq_none_iff.mp hd
    show n ≤ i
    simpa using this
theorem walks_down {K : PySem.W.Frag} {M : Mk} {H : Hp} (lo : Int) (n : Nat) : Walks K M (Itc lo (-1) n) H ((List.range n).map fun i => D.int (lo - (i : Nat))) := by
  refine ⟨fun M' i d H1 x dm k hd => ?_, fun M' i H1 x dm k hd => ?_⟩
  · obtain ⟨hi, rfl⟩ := rng_get hd
    refine ⟨hi, fun x H' y => ?_⟩
    obtain ⟨rfl, rfl⟩ := y
    refine ⟨Same.refl _, ?_⟩
    rw [show lo + (i : Nat) * (-1 : Int) = lo - (i : Nat) by omega]
    exact .int _
  · have := List.getElem?_eq_none_iff.mp hd
    show n ≤ i
    simpa using this
theorem zipD_get : ∀ {as bs : List D} {i : Nat} {d : D}, (zipD as bs)[i]? = some d → ∃ a b, as[i]? = some a ∧ bs[i]? = some b ∧ d = .tup [a, b]
  | [], _, _, _, h => by simp [zipD] at h
  | _ :: _, [], _, _, h => by simp [zipD] at h
  | a :: as, b :: bs, 0, d, h => by
    simp [zipD] at h
    exact ⟨a, b, rfl, rfl, h.symm⟩
  | a :: as, b :: bs, i + 1, d, h => by
    obtain ⟨x, y, h1, h2, h3⟩ := zipD_get (as := as) (bs := bs) (i := i) (d := d) (by simpa [zipD] using h)
    exact ⟨x, y, by simpa using h1, by simpa using h2, h3⟩
theorem zipD_none : ∀ {as bs : List D} {i : Nat}, (zipD as bs)[i]? = none → as.length ≤ i ∨ bs.length ≤ i
  | [], _, _, h => .inl (Nat.zero_le _)
  | _ :: _, [], _, h => .inr (Nat.zero_le _)
  | a :: as, b :: bs, 0, h => by simp [zipD] at h
  | a :: as, b :: bs, i + 1, h => by
    have := zipD_none (as := as) (bs := bs) (i := i) (by simpa [zipD] using h)
    simpa using this
theorem enumD_get : ∀ {as : List D} {k i : Nat} {d : D}, (enumD k as)[i]? = some d → ∃ a, as[i]? = some a ∧ d = .tup [.int ((k + i : Nat) : Int), a]
  | [], _, _, _, h => by simp [enumD] at h
  | a :: as, k, 0, d, h => by
    simp [enumD] at h
    exact ⟨a, rfl, h.symm⟩
  | a :: as, k, i + 1, d, h => by
    obtain ⟨x, h1, h3⟩ := enumD_get (as := as) (k := k + 1) (i := i) (d := d) (by simpa [enumD] using h)
    refine ⟨x, by simpa using h1, ?_⟩
    rw [h3, show k + 1 + i = k + (i + 1) by omega]
theorem enumD_len : ∀ {as : List D} {k : Nat}, (enumD k as).length = as.length
  | [], _ => rfl
  | a :: as, k => by show (enumD (k + 1) as).length + 1 = as.length + 1; rw [enumD_len]
theorem pair_new {K : PySem.W.Frag} {M : Mk} {H : Hp} {T : Addr} {x y : V} {d e : D} (dm : DomM M H) (n : H T = none) (h1 : Rep K M H x d) (h2 : Rep K M H y e) : Rep K M (upd H T (.tup [x, y])) (.ref T) (.tup [d, e]) :=
  .tup upd_same (dm.fresh n) (.cons (h1.same (same_new n)) (.cons (h2.same (same_new n)) .nil))
theorem walks_zip {K : PySem.W.Frag} {M : Mk} {H : Hp} {a b : Addr} {xs ys : List V} {ds es : List D} (e : H a = some (.lst xs)) (n : ¬ M a) (r : RepAll K M H xs ds) (e' : H b = some (.lst ys)) (n' : ¬ M b) (r' : RepAll K M H ys es) :
    Walks K M (Itz K a b) H (zipD ds es) := by
  refine ⟨fun M' i d H1 x dm k hd => ?_, fun M' i H1 x dm k hd => ?_⟩
  · have e1 := k.get a _ e (x.not e n)
    have e2 := k.get b _ e' (x.not e' n')
    obtain ⟨d1, d2, g1, g2, rfl⟩ := zipD_get hd
    obtain ⟨v, hv, rv⟩ := (RepAll.keep k ds _ (RepAll.ext x ds _ r)).get g1
    obtain ⟨u, hu, ru⟩ := (RepAll.keep k es _ (RepAll.ext x es _ r')).get g2
    refine ⟨⟨xs, ys, v, u, SqL.of e1, SqL.of e2, hv, hu⟩, fun x H' y => ?_⟩
    obtain ⟨T, x1, y1, rfl, nT, rfl, q1, q2⟩ := y
    have z1 := q1 xs (SqL.of e1)
    have z2 := q2 ys (SqL.of e2)
    rw [hv] at z1; cases z1
    rw [hu] at z2; cases z2
    exact ⟨same_new nT, pair_new dm nT rv ru⟩
  · refine ⟨xs, ys, SqL.of (k.get a _ e (x.not e n)), SqL.of (k.get b _ e' (x.not e' n')), ?_⟩
    rw [r.length, r'.length]
    exact zipD_none hd
theorem walks_zipT {K : PySem.W.Frag} {M : Mk} {H : Hp} {a b : Addr} {xs ys : List V} {ds es : List D} (e : H a = some (.tup xs)) (n : ¬ M a) (r : RepAll K M H xs ds) (e' : H b = some (.tup ys)) (n' : ¬ M b) (r' : RepAll K M H ys es) :
    Walks K M (RZ.ItzT K a b) H (zipD ds es) := by
  refine ⟨fun M' i d H1 x dm k hd => ?_, fun M' i H1 x dm k hd => ?_⟩
  · have e1 := k.get a _ e (x.not e n)
    have e2 := k.get b _ e' (x.not e' n')
    obtain ⟨d1, d2, g1, g2, rfl⟩ := zipD_get hd
    obtain ⟨v, hv, rv⟩ := (RepAll.keep k ds _ (RepAll.ext x ds _ r)).get g1
    obtain ⟨u, hu, ru⟩ := (RepAll.keep k es _ (RepAll.ext x es _ r')).get g2
    refine ⟨⟨xs, ys, v, u, SqT.of e1, SqT.of e2, hv, hu⟩, fun x H' y => ?_⟩
    obtain ⟨T, x1, y1, rfl, nT, rfl, q1, q2⟩ := y
    have z1 := q1 xs (SqT.of e1)
    have z2 := q2 ys (SqT.of e2)
    rw [hv] at z1; cases z1
    rw [hu] at z2; cases z2
    exact ⟨same_new nT, pair_new dm nT rv ru⟩
  · refine ⟨xs, ys, SqT.of (k.get a _ e (x.not e n)), SqT.of (k.get b _ e' (x.not e' n')), ?_⟩
    rw [r.length, r'.length]
    exact zipD_none hd
theorem walks_enum {K : PySem.W.Frag} {M : Mk} {H : Hp} {a : Addr} {xs : List V} {ds : List D} (e : H a = some (.lst xs)) (n : ¬ M a) (r : RepAll K M H xs ds) : Walks K M (Ite K a) H (enumD 0 ds) := by
  refine ⟨fun M' i d H1 x dm k hd => ?_, fun M' i H1 x dm k hd => ?_⟩
  · have e1 := k.get a _ e (x.not e n)
    obtain ⟨d1, g1, rfl⟩ := enumD_get hd
    obtain ⟨v, hv, rv⟩ := (RepAll.keep k ds _ (RepAll.ext x ds _ r)).get g1
    refine ⟨⟨xs, v, SqL.of e1, hv⟩, fun x H' y => ?_⟩
    obtain ⟨T, x1, rfl, nT, rfl, q1⟩ := y
    have z1 := q1 xs (SqL.of e1)
    rw [hv] at z1; cases z1
    rw [Nat.zero_add]
    exact ⟨same_new nT, pair_new dm nT (.int _) rv⟩
  · refine ⟨xs, SqL.of (k.get a _ e (x.not e n)), ?_⟩
    rw [r.length, ← enumD_len (k := 0)]
    exact List.getElem?_eq_none_iff.mp hd
theorem walks_enumT {K : PySem.W.Frag} {M : Mk} {H : Hp} {a : Addr} {xs : List V} {ds : List D} (e : H a = some (.tup xs)) (n : ¬ M a) (r : RepAll K M H xs ds) : Walks K M (IteT K a) H (enumD 0 ds) := by
  refine ⟨fun M' i d H1 x dm k hd => ?_, fun M' i H1 x dm k hd => ?_⟩
  · have e1 := k.get a _ e (x.not e n)
    obtain ⟨d1, g1, rfl⟩ := enumD_get hd
    obtain ⟨v, hv, rv⟩ := (RepAll.keep k ds _ (RepAll.ext x ds _ r)).get g1
    refine ⟨⟨xs, v, SqT.of e1, hv⟩, fun x H' y => ?_⟩
    obtain ⟨T, x1, rfl, nT, rfl, q1⟩ := y
    have z1 := q1 xs (SqT.of e1)
    rw [hv] at z1; cases z1
    rw [Nat.zero_add]
    exact ⟨same_new nT, pair_new dm nT (.int _) rv⟩
  · refine ⟨xs, SqT.of (k.get a _ e (x.not e n)), ?_⟩
    rw [r.length, ← enumD_len (k := 0)]
    exact List.getElem?_eq_none_iff.mp hd
/-- over a list, a tuple, a text -/
theorem pi_seq {e : Expr} {m : En → Res D} (h : PE X e (tS X W m)) : PI X tg e (tIS X W fun ρ => (m ρ).bind itemsD) :=
  pi_weak (pi_or (pi_list h) (pi_or (pi_tup h) (pi_str h))) fun σ H R q => by
    obtain ⟨M, ρ, dm, r, o⟩ := q
    dsimp only at o
    cases e1 : m ρ with
    | ok d =>
      rw [e1] at o
      cases d with
      | lst ds =>
        refine .inl ⟨M, ρ, dm, r, ?_⟩
        rw [e1]
        intro v H' s' r'
        cases r' with
        | lst hs n ra => exact ⟨_, rfl, ⟨_, SqL.of hs⟩, o _ H' s' (walks_list hs n ra)⟩
      | tup ds =>
        refine .inr (.inl ⟨M, ρ, dm, r, ?_⟩)
        rw [e1]
        intro v H' s' r'
        cases r' with
        | tup hs n ra => exact ⟨_, rfl, ⟨_, SqT.of hs⟩, o _ H' s' (walks_tup hs n ra)⟩
      | str s =>
        refine .inr (.inr ⟨M, ρ, dm, r, ?_⟩)
        rw [e1]
        intro v H' s' r'
        cases r' with
        | str => exact ⟨_, rfl, o _ H' s' (walks_str s)⟩
      | _ => exact o.elim
    | exc c =>
      rw [e1] at o
      refine .inl ⟨M, ρ, dm, r, ?_⟩
      rw [e1]
      exact o
    | stuck => rw [e1] at o; exact o.elim
theorem stars_of {es : List Expr} {ms : List (En → Res D)} (h : PEs X W es ms) (pos : Pos) : (backTo pos (starEach es X.env)).any (·.1) = false := by
  induction h with
  | nil => rfl
  | cons h n t ih =>
    rw [star_of n]
    show ((false, _) :: backTo pos (starEach _ X.env)).any (·.1) = false
    rw [List.any_cons, ih]; rfl
theorem okZ_iff {a : Int} (h : okZ a = true) : -(2 ^ 62) ≤ a ∧ a < 2 ^ 62 := by
  unfold okZ at h
  rw [Bool.and_eq_true] at h
  exact ⟨of_decide_eq_true h.1, of_decide_eq_true h.2⟩
theorem seqM_len : ∀ {ms : List (En → Res D)} {ρ : En} {ds : List D}, seqM ms ρ = .ok ds → ds.length = ms.length
  | [], _, _, h => by cases h; rfl
  | m :: ms, ρ, ds, h => by
    have h' : ((m ρ).bind fun d => (seqM ms ρ).bind fun ds => .ok (d :: ds)) = .ok ds := h
    obtain ⟨d, _, h2⟩ := Res.bind_eq_ok h'
    obtain ⟨es, h3, h4⟩ := Res.bind_eq_ok h2
    cases h4
    rw [List.length_cons, List.length_cons, seqM_len h3]
theorem PEs.len {es : List Expr} {ms : List (En → Res D)} (h : PEs X W es ms) : es.length = ms.length := by
  induction h with
  | nil => rfl
  | cons _ _ _ ih => rw [List.length_cons, List.length_cons, ih]
theorem rngD_ne (ds : List D) (c : Str) : rngD ds ≠ .exc c := by
  intro e3
  unfold rngD at e3
  split at e3 <;> (try split at e3) <;> cases e3
theorem w_rng {ms : List (En → Res D)} {wi : TA → TI} (hwi : ∀ ta σ H R, wi ta σ H R ↔ ta σ H (fun vs H1 => wi (fun _ H Q => Q vs H) σ H1 R)) {σ : L2.St} {H : Hp} {R : L2.It → Hp → Prop}
    (hr : ∀ (M : Mk) (H : Hp) (xs : List V) (ds es : List D), ds.length = ms.length → RepAll X.K M H xs ds → rngD ds = .ok es → (∀ J H', Same X.K H H' → Walks X.K M J H' es → R J H') → wi (fun _ H Q => Q xs H) σ H R)
    (q : tIS X W (fun ρ => (seqM ms ρ).bind rngD) σ H R) : wi (tSA X W (seqM ms)) σ H R := by
  rw [hwi]
  obtain ⟨M, ρ, dm, re, o⟩ := q
  refine ⟨M, ρ, dm, re, ?_⟩
  dsimp only at o
  cases e1 : seqM ms ρ with
  | ok ds =>
    rw [e1] at o
    intro xs H1 s1 r1
    simp only [Res.bind_ok] at o
    cases e3 : rngD ds with
    | stuck => rw [e3] at o; exact o.elim
    | exc c => exact (rngD_ne ds c e3).elim
    | ok es => rw [e3] at o; exact hr M H1 xs ds es (seqM_len e1) r1 e3 fun J H' s' w => o J H' (s1.trans s') w
  | exc c => rw [e1] at o; exact o
  | stuck => rw [e1] at o; exact o
theorem rng1 {ds es : List D} (l : ds.length = 1) (e : rngD ds = .ok es) : ∃ b, ds = [.int b] ∧ okZ b = true ∧ es = rangeD 0 b := by
  unfold rngD at e
  split at e
  · split at e
    · rename_i h; cases e; exact ⟨_, rfl, h, rfl⟩
    · cases e
  · simp at l
  · simp at l
  · cases e
theorem rng2 {ds es : List D} (l : ds.length = 2) (e : rngD ds = .ok es) : ∃ a b, ds = [.int a, .int b] ∧ okZ a = true ∧ okZ b = true ∧ es = rangeD a b := by
  unfold rngD at e
  split at e
  · simp at l
  · split at e
    · rename_i h; cases e; rw [Bool.and_eq_true] at h; exact ⟨_, _, rfl, h.1, h.2, rfl⟩
    · cases e
  · simp at l
  · cases e
theorem rng3 {ds es : List D} (l : ds.length = 3) (e : rngD ds = .ok es) : ∃ a b, ds = [.int a, .int b, .int (-1)] ∧ okZ a = true ∧ okZ b = true ∧ es = ((List.range (a - b).toNat).map fun i => D.int (a - (i : Nat))) := by
  unfold rngD at e
  split at e
  · simp at l
  · simp at l
  · split at e
    · rename_i h; cases e; rw [Bool.and_eq_true] at h; exact ⟨_, _, rfl, h.1, h.2, rfl⟩
    · cases e
  · cases e
theorem pi_rng {x : Str} {es : List Expr} {ms : List (En → Res D)} {p pos : Pos} (hx : x = "range") (hg : Gl X x) (hm : X.mg "range" = none) (h : PEs X W es ms) (h1 : 1 ≤ es.length) (h3 : es.length ≤ 3) :
    PI X tg (.Call (.Name x p) es [] pos) (tIS X W fun ρ => (seqM ms ρ).bind rngD) := by
  subst hx
  have pa := h.pa
  match es, ms, h, pa, h1, h3 with
  | [a], [_], .cons _ n1 .nil, pa, _, _ =>
    refine pi_weak (pi_range1 hg hm pa (star_of n1 [] X.env)) fun σ H R q => ?_
    refine w_rng (wi := iRng1) (fun _ _ _ _ => Iff.rfl) (fun M H xs ds es l r e k => ?_) q
    obtain ⟨b, rfl, hb, rfl⟩ := rng1 l e
    obtain ⟨z1, z2⟩ := okZ_iff hb
    cases r with
    | cons r0 rr =>
      cases r0
      cases rr
      refine ⟨b, rfl, z1, z2, k _ _ (Same.refl _) ?_⟩
      unfold rangeD
      rw [show (b - 0).toNat = b.toNat by omega]
      exact walks_range 0 b.toNat
  | [a, b], [_, _], .cons _ n1 (.cons _ n2 .nil), pa, _, _ =>
    refine pi_weak (pi_range2 hg hm pa (by rw [star_of n1, star_of n2]; rfl) (by rw [star_of n2]; rfl)) fun σ H R q => ?_
    refine w_rng (wi := iRng2) (fun _ _ _ _ => Iff.rfl) (fun M H xs ds es l r e k => ?_) q
    obtain ⟨a, b, rfl, ha, hb, rfl⟩ := rng2 l e
    obtain ⟨z1, z2⟩ := okZ_iff ha
    obtain ⟨z3, z4⟩ := okZ_iff hb
    cases r with
    | cons r0 rr =>
      cases r0
      cases rr with
      | cons r1 rr =>
        cases r1
        cases rr
        exact ⟨a, b, rfl, ⟨z1, z2, z3, z4⟩, k _ _ (Same.refl _) (walks_range a _)⟩
  | [a, b, c], [_, _, _], .cons _ n1 (.cons _ n2 (.cons _ n3 .nil)), pa, _, _ =>
    refine pi_weak (pi_range3 hg hm pa (by first | (rw [star_of n1, star_of n2, star_of n3]; done) | (rw [star_of n1, star_of n2, star_of n3]; rfl)) (by first | (rw [star_of n2, star_of n3]; done) | (rw [star_of n2, star_of n3]; rfl))) fun σ H R q => ?_
    refine w_rng (wi := iRng3) (fun _ _ _ _ => Iff.rfl) (fun M H xs ds es l r e k => ?_) q
    obtain ⟨a, b, rfl, ha, hb, rfl⟩ := rng3 l e
    obtain ⟨z1, z2⟩ := okZ_iff ha
    obtain ⟨z3, z4⟩ := okZ_iff hb
    cases r with
    | cons r0 rr =>
      cases r0
      cases rr with
      | cons r1 rr =>
        cases r1
        cases rr with
        | cons r2 rr =>
          cases r2
          cases rr
          exact ⟨a, b, -1, _, rfl, RgC.neg z1 z2 z3 z4, k _ _ (Same.refl _) (walks_down a _)⟩
theorem pi_zipD {x : Str} {e1 e2 : Expr} {m1 m2 : En → Res D} {p pos : Pos} {ts : List Expr} {kk : Nat} {tp : Pos} (hx : x = "zip") (hg : Gl X x) (hm : X.mg "zip" = none) (h1 : PE X e1 (tS X W m1)) (n1 : notStar e1 = true) (h2 : PE X e2 (tS X W m2)) (n2 : notStar e2 = true) :
    PI X (.Tuple ts kk tp) (.Call (.Name x p) [e1, e2] [] pos) (tIS X W fun ρ => (m1 ρ).bind fun x => (m2 ρ).bind fun y => zipItems x y) := by
  subst hx
  have h : PEs X W [e1, e2] [m1, m2] := .cons h1 n1 (.cons h2 n2 .nil)
  refine pi_weak (RZ.pi_zipA hg hm h.pa (star_of n1 _ _) (by rw [star_of n2]; rfl)) fun σ H R q => ?_
  obtain ⟨M, ρ, dm, re, o⟩ := q
  refine ⟨M, ρ, dm, re, ?_⟩
  dsimp only [seqM, consM] at o ⊢
  cases e1 : m1 ρ with
  | ok d1 =>
    cases e2 : m2 ρ with
    | ok d2 =>
      rw [e1, e2] at o
      simp only [Res.bind_ok] at o ⊢
      intro xs H1 s1 r
      cases r with
      | cons r0 rr =>
        cases rr with
        | cons r1 rr =>
          cases rr
          cases d1 with
          | lst ds =>
            cases d2 with
            | lst es =>
              cases r0 with
              | lst s n ra =>
                cases r1 with
                | lst s' n' ra' => exact ⟨_, _, _, _, rfl, .inl ⟨SqL.of s, SqL.of s', o _ _ s1 (walks_zip s n ra s' n' ra')⟩⟩
            | _ => exact o.elim
          | tup ds =>
            cases d2 with
            | tup es =>
              cases r0 with
              | tup s n ra =>
                cases r1 with
                | tup s' n' ra' => exact ⟨_, _, _, _, rfl, .inr ⟨SqT.of s, SqT.of s', o _ _ s1 (walks_zipT s n ra s' n' ra')⟩⟩
            | _ => exact o.elim
          | _ => exact o.elim
    | exc c =>
      rw [e1, e2] at o
      exact o
    | stuck => rw [e1, e2] at o; exact o.elim
  | exc c => rw [e1] at o; exact o
  | stuck => rw [e1] at o; exact o.elim
theorem pi_enumD {x : Str} {e1 : Expr} {m1 : En → Res D} {p pos : Pos} {ts : List Expr} {kk : Nat} {tp : Pos} (hx : x = "enumerate") (hg : Gl X x) (hm : X.mg "enumerate" = none) (h1 : PE X e1 (tS X W m1)) (n1 : notStar e1 = true) :
    PI X (.Tuple ts kk tp) (.Call (.Name x p) [e1] [] pos) (tIS X W fun ρ => (m1 ρ).bind enumItems) := by
  subst hx
  have h : PEs X W [e1] [m1] := .cons h1 n1 .nil
  refine pi_weak (pi_enumA hg hm h.pa (by rw [star_of n1]; rfl)) fun σ H R q => ?_
  obtain ⟨M, ρ, dm, re, o⟩ := q
  refine ⟨M, ρ, dm, re, ?_⟩
  dsimp only [seqM, consM] at o ⊢
  cases e1 : m1 ρ with
  | ok d1 =>
    rw [e1] at o
    simp only [Res.bind_ok] at o ⊢
    intro xs H1 s1 r
    cases r with
    | cons r0 rr =>
      cases rr
      cases d1 with
      | lst ds =>
        cases r0 with
        | lst s n ra => exact ⟨_, _, rfl, .inl ⟨SqL.of s, o _ _ s1 (walks_enum s n ra)⟩⟩
      | tup ds =>
        cases r0 with
        | tup s n ra => exact ⟨_, _, rfl, .inr ⟨SqT.of s, o _ _ s1 (walks_enumT s n ra)⟩⟩
      | _ => exact o.elim
  | exc c => rw [e1] at o; exact o
  | stuck => rw [e1] at o; exact o.elim
end
end PL

namespace PL
open PySem PySem.Spec PyProof.Rows L2

abbrev W0 : WX := fun _ _ _ _ => False
theorem sizeD_lt : sizeD < sizeLine := by rw [sizeLine_eq]; decide
theorem tF_S {X : Cx} {W : WX} {m : En → Res D} {e : Expr} (h : PE X e (tF X W m)) (hl : ∀ ρ d, m ρ = .ok d → ∃ ds, d = .lst ds) : PE X e (tS X W m) := pe_weak h fun σ H Q q => by
  obtain ⟨M, ρ, dm, r, o⟩ := q
  exact ⟨M, ρ, dm, r, OutE.of_F dm o fun d e => hl ρ d e⟩
/-! ## a comprehension -/
def turnM (tg : Tg) (mc : En → Res Bool) (me : En → Res D) (ρ' : En) (d : D) : Res (Option D) :=
  noExc ((setTg tg d ρ').bind fun ρ2 => (mc ρ2).bind fun t => if t then (me ρ2).bind fun x => .ok (some x) else .ok none)
theorem rel_wipe {K : PySem.W.Frag} {M : Mk} {σ : L2.St} {H : Hp} {ρ : En} (r : Rel K M σ H ρ) : ∀ vs : List Nat, Rel K M (wipe σ vs) H (wipeD ρ vs)
  | [] => r
  | v :: vs => by
    have h := rel_wipe r vs
    refine ⟨by show ((wipe σ vs).set v none).length = ((wipeD ρ vs).set v none).length; rw [List.length_set, List.length_set]; exact h.len, fun i d e => ?_, h.tab⟩
    have e' : ((wipeD ρ vs).set v none)[i]? = some (some d) := e
    by_cases hv : v = i
    · subst hv
      by_cases hl : v < (wipeD ρ vs).length
      · rw [List.getElem?_set_self hl] at e'; cases e'
      · rw [List.getElem?_eq_none (by rw [List.length_set]; omega)] at e'; cases e'
    · rw [List.getElem?_set_ne hv] at e'
      obtain ⟨u, h1, h2⟩ := h.get i d e'
      refine ⟨u, ?_, h2⟩
      show ((wipe σ vs).set v none)[i]? = _
      rw [List.getElem?_set_ne hv]; exact h1
theorem wipe_look : ∀ (ws : List Nat) (τ : L2.St) (j : Nat), (wipe τ ws)[j]? = if j ∈ ws ∧ j < τ.length then some none else τ[j]? := by
  intro ws
  induction ws with
  | nil => intro τ j; simp [wipe]
  | cons v ws ih =>
    intro τ j
    show ((wipe τ ws).set v none)[j]? = _
    rw [List.getElem?_set, wipe_length, ih]
    by_cases h1 : v = j
    · subst h1
      by_cases h2 : v < τ.length
      · simp [h2]
      · simp [h2, List.getElem?_eq_none (Nat.le_of_not_lt h2)]
    · have h1' : j ≠ v := fun e => h1 e.symm
      simp [h1, h1']
theorem wipe_wipe (vs : List Nat) (σ : L2.St) : wipe (wipe σ vs) vs = wipe σ vs := by
  apply List.ext_getElem?
  intro j
  rw [wipe_look, wipe_look, wipe_length]
  by_cases h : j ∈ vs ∧ j < σ.length
  · rw [if_pos h, if_pos h]
  · rw [if_neg h, if_neg h]
theorem noExc_ok {α : Type} {r : Res α} {a : α} (h : noExc r = .ok a) : r = .ok a := by
  cases r with
  | ok b => exact h
  | exc c => cases h
  | stuck => cases h
section
variable {X : Cx} {W : WX}
theorem pe_compF {k : Nat} {own : List (Str × Nat)} {tg : Tg} {mi : En → Res (List D)} {mc : En → Res Bool} {me : En → Res D} {x t i : Expr} {ifs : List Expr} {scope : Scope} (xo : XOk X k W)
    (hi : PI X t i (tIS X W mi)) (ok : BlkOk X.N X.env.scope scope own) (hin : tgIn (own.map (·.2)) tg = true)
    (hg : ∀ (s : Shared) (H : Hp) (C : Addr) (cl : List (Str × Addr)) (fp : List Addr), PG (X.blk s H scope (compEnvC scope cl C X.env) fp) t (gTg X.K tg))
    (ht : ∀ (s : Shared) (H : Hp) (C : Addr) (cl : List (Str × Addr)) (fp : List Addr), PTs (X.blk s H scope (compEnvC scope cl C X.env) fp) ifs (tST X W0 mc))
    (he : ∀ (s : Shared) (H : Hp) (C : Addr) (cl : List (Str × Addr)) (fp : List Addr), PE (X.blk s H scope (compEnvC scope cl C X.env) fp) x (tS X W0 me))
    (hs : ∀ v, foldedSetIterable i X.env v = pure v) :
    (∀ (σ : L2.St) (H : Hp) (Q : VK), tF X W (fun ρ => (mi ρ).bind fun ds => if ds.length ≤ sizeD then (compM (turnM tg mc me (wipeD ρ (own.map (·.2)))) ds).bind fun out => .ok (.lst out) else .stuck) σ H Q →
      tLc (tIS X W mi) (gTg X.K tg) (tST X W0 mc) (tS X W0 me) (own.map (·.2)) σ H Q) := by
  intro σ H Q q
  obtain ⟨M, ρ, dm, re, o⟩ := q
  refine ⟨M, ρ, dm, re, ?_⟩
  dsimp only at o
  cases e1 : mi ρ with
  | exc c => rw [e1] at o; exact o
  | stuck => rw [e1] at o; exact o
  | ok ds =>
    rw [e1] at o
    simp only [Res.bind_ok] at o
    intro J H1 s1 wk L0 nD
    by_cases hl : ds.length ≤ sizeD
    · rw [if_pos hl] at o
      cases e2 : compM (turnM tg mc me (wipeD ρ (own.map (·.2)))) ds with
      | exc c => 
        -- no exception comes out of a turn
        exfalso
        have none : ∀ l c, compM (turnM tg mc me (wipeD ρ (own.map (·.2)))) l ≠ .exc c := by
          intro l
          induction l with
          | nil => intro c h; cases h
          | cons d r ih =>
            intro c h
            unfold compM at h
            cases e3 : turnM tg mc me (wipeD ρ (own.map (·.2))) d with
            | ok a =>
              rw [e3] at h
              simp only [Res.bind_ok] at h
              cases e4 : compM (turnM tg mc me (wipeD ρ (own.map (·.2)))) r with
              | ok b => rw [e4] at h; cases h
              | exc c' => exact ih c' e4
              | stuck => rw [e4] at h; cases h
            | exc c' =>
              unfold turnM noExc at e3
              split at e3 <;> cases e3
            | stuck => rw [e3] at h; cases h
        exact none _ _ e2
      | stuck => rw [e2] at o; exact o.elim
      | ok out =>
        rw [e2] at o
        simp only [Res.bind_ok] at o
        obtain ⟨out', eo, o⟩ := o
        cases eo
        have sD : Same X.K H1 (upd H1 L0 (.lst [])) := same_new nD
        have dmD : ∀ {H2 : Hp} {vs : List V}, Same X.K H1 H2 → H2 L0 = some (.lst vs) → DomM (mark M L0) H2 := fun s e => ((dm.mono s1).mono s).mark e trivial
        have keepD : ∀ {H2 : Hp}, Same X.K H1 H2 → Keep X.K (mark M L0) H1 H2 := fun s => Keep.of_same s
        have extD : Ext M (mark M L0) H1 := Ext.mark nD
        refine ⟨fun i m H2 => m + i = ds.length ∧ Same X.K H1 H2 ∧ ∃ vs pre post, H2 L0 = some (.lst vs) ∧ RepAll X.K (mark M L0) H2 vs pre ∧ compM (turnM tg mc me (wipeD ρ (own.map (·.2)))) (ds.drop i) = .ok post ∧ pre ++ post = out ∧ pre.length ≤ i,
          ⟨ds.length, rfl, sD, [], [], out, upd_same, .nil, e2, rfl, Nat.le_refl _⟩, ?_⟩
        rintro i m H2 ⟨em, s2, vs, pre, post, hD, rp, ep, eo, lp⟩
        cases ei : ds[i]? with
        | none =>
          left
          refine ⟨wk.stop _ i H2 extD (dmD s2 hD) (keepD s2) ei, ?_⟩
          have hd : ds.drop i = [] := List.drop_eq_nil_of_le (List.getElem?_eq_none_iff.mp ei)
          rw [hd] at ep
          cases ep
          rw [List.append_nil] at eo
          subst eo
          exact o L0 vs H2 (s1.trans s2) (s1.free nD) hD rp
        | some d =>
          right
          have hi' : i < ds.length := (List.getElem?_eq_some_iff.mp ei).1
          obtain ⟨g1, g2⟩ := wk.go _ i d H2 extD (dmD s2 hD) (keepD s2) ei
          have hdrop : ds.drop i = d :: ds.drop (i + 1) := by
            rw [List.drop_eq_getElem_cons hi']
            rw [List.getElem?_eq_getElem hi'] at ei
            cases ei; rfl
          rw [hdrop] at ep
          have ep' : ((turnM tg mc me (wipeD ρ (own.map (·.2))) d).bind fun o => (compM (turnM tg mc me (wipeD ρ (own.map (·.2)))) (ds.drop (i + 1))).bind fun out => .ok (match o with | some x => x :: out | none => out)) = .ok post := ep
          obtain ⟨oo, et, ep'⟩ := Res.bind_eq_ok ep'
          obtain ⟨post', epp, ep'⟩ := Res.bind_eq_ok ep'
          have et' := noExc_ok et
          obtain ⟨ρ2, et1, et2⟩ := Res.bind_eq_ok et'
          obtain ⟨b, et3, et4⟩ := Res.bind_eq_ok et2
          refine ⟨g1, fun H' => Same X.K H1 H' ∧ ∃ vs pre post, H' L0 = some (.lst vs) ∧ RepAll X.K (mark M L0) H' vs pre ∧ compM (turnM tg mc me (wipeD ρ (own.map (·.2)))) (ds.drop (i + 1)) = .ok post ∧ pre ++ post = out ∧ pre.length ≤ i + 1,
            fun H' hN => ⟨m - 1, by omega, by omega, hN⟩, fun xv H3 hy => ?_⟩
          obtain ⟨s3, rx⟩ := g2 xv H3 hy
          have relD : Rel X.K (mark M L0) (wipe σ (own.map (·.2))) H3 (wipeD ρ (own.map (·.2))) := rel_wipe (((re.same s1).ext extD).same (s2.trans s3)) _
          refine gTg_of et1 relD rx fun σ2 r2 w2 => ⟨?_, ?_⟩
          · rw [w2 _ hin]
            exact wipe_wipe _ _
          · have s13 : Same X.K H1 H3 := s2.trans s3
            have hD3 : H3 L0 = some (.lst vs) := s3.get L0 _ hD
            refine ⟨mark M L0, ρ2, dmD s13 hD3, r2, ?_⟩
            rw [et3]
            intro H4 s4
            have hD4 : H4 L0 = some (.lst vs) := s4.get L0 _ hD3
            have s14 : Same X.K H1 H4 := s13.trans s4
            cases b with
            | false =>
              have et5 : (Res.ok none : Res (Option D)) = .ok oo := et4
              cases et5
              cases ep'
              rw [if_neg Bool.false_ne_true]
              exact ⟨s14, vs, pre, post', hD4, rp.same (s3.trans s4), epp, eo, by omega⟩
            | true =>
              have et5 : ((me ρ2).bind fun x => .ok (some x)) = .ok oo := et4
              obtain ⟨y, ey, et6⟩ := Res.bind_eq_ok et5
              cases et6
              cases ep'
              rw [if_pos rfl]
              refine ⟨mark M L0, ρ2, dmD s14 hD4, r2.same s4, ?_⟩
              rw [ey]
              intro yv H5 s5 ry
              have hD5 : H5 L0 = some (.lst vs) := s5.get L0 _ hD4
              refine ⟨vs, hD5, ?_, same_upd (s14.trans s5) nD hD5 trivial, vs ++ [yv], pre ++ [y], post', upd_same, ?_, epp, by rw [List.append_assoc]; exact eo, by rw [List.length_append]; show pre.length + 1 ≤ i + 1; omega⟩
              · rw [rp.length]
                exact Nat.lt_of_le_of_lt (Nat.le_trans lp (Nat.le_trans (Nat.le_of_lt hi') hl)) sizeD_lt
              · exact RepAll.keep (keep_upd (.inr rfl) hD5 trivial) _ _ ((rp.same ((s3.trans s4).trans s5)).append (.cons ry .nil))
    · rw [if_neg hl] at o
      exact o.elim

/-! ## the language is sound -/
theorem turn_eq (tg : Tg) (own : List (Str × Nat)) (cond : EO) (elt : E) (ρ : En) :
    (fun d => noExc ((setTg tg d (wipeD ρ (own.map (·.2)))).bind fun ρ2 => (evO cond ρ2).bind fun t => if t then (ev elt ρ2).bind fun x => .ok (some x) else .ok none)) = turnM tg (evO cond) (ev elt) (wipeD ρ (own.map (·.2))) := rfl
def freshE : E → Bool
  | .comp _ _ _ _ _ => true
  | .prim p _ => p.fresh
  | _ => false
structure SndE (X : Cx) (W : WX) (e : E) (x : Expr) : Prop where
  pe : PE X x (tS X W (ev e))
  pt : PT X x (tST X W fun ρ => (ev e ρ).bind truth)
  fr : freshE e = true → PE X x (tF X W (ev e))
theorem vis_of {sc : Scope} {x : Str} (h : visB sc x = true) : Vis sc x := by
  unfold visB at h
  split at h
  · rename_i e; exact .inl e
  · rename_i e; exact .inr (.inl e)
  · rename_i e; exact .inr (.inr e)
  · cases h
theorem loc_of {sc : Scope} {x : Str} (h : locB sc x = true) : Loc sc x := by
  unfold locB at h
  split at h
  · rename_i e; exact .inl e
  · rename_i e; exact .inr e
  · cases h
theorem gl_of {X : Cx} {x : Str} (h : glB X.env.scope x = true) : Gl X x := by
  unfold glB at h
  split at h
  · rename_i e; exact e
  · cases h
theorem okName_of {x : Str} (h : okName x = true) : (x == ("__debug__" : Str)) = false ∧ (x == ("__classdict__" : Str)) = false := by
  unfold okName at h
  simpa using h
theorem s_chain {o1 o2 : CmpOp} {f1 f2 : D → D → Option D} {ma mb mc : En → Res D} {r r' : R2} {σ : L2.St} {H : Hp} {Q : VK}
    (h1 : ∀ (M : Mk) (H : Hp) (x y : V) (d1 d2 d : D) (Q : VK), DomM M H → Rep X.K M H x d1 → Rep X.K M H y d2 → f1 d1 d2 = some d → (∀ v H', Same X.K H H' → Rep X.K M H' v d → Q v H') → r x y H Q)
    (h2 : ∀ (M : Mk) (H : Hp) (x y : V) (d1 d2 d : D) (Q : VK), DomM M H → Rep X.K M H x d1 → Rep X.K M H y d2 → f2 d1 d2 = some d → (∀ v H', Same X.K H H' → Rep X.K M H' v d → Q v H') → r' x y H Q)
    (q : tS X W (fun ρ => (ma ρ).bind fun x => (mb ρ).bind fun y => (ofO (f1 x y)).bind fun z => (truth z).bind fun t => if t then (mc ρ).bind fun u => ofO (f2 y u) else .ok (.bl false)) σ H Q) :
    tChain r r' (tS X W ma) (tS X W mb) (tS X W mc) σ H Q := by
  obtain ⟨M, ρ, dm, re, o⟩ := q
  refine ⟨M, ρ, dm, re, ?_⟩
  dsimp only at o
  cases e1 : ma ρ with
  | exc c => rw [e1] at o; exact o
  | stuck => rw [e1] at o; exact o
  | ok d1 =>
    rw [e1] at o
    intro x H1 s1 r1
    refine ⟨M, ρ, dm.mono s1, re.same s1, ?_⟩
    cases e2 : mb ρ with
    | exc c => rw [e2] at o; exact fun H' s' => o H' (s1.trans s')
    | stuck => rw [e2] at o; exact o
    | ok d2 =>
      rw [e2] at o
      simp only [Res.bind_ok] at o
      intro y H2 s2 r2
      cases e3 : f1 d1 d2 with
      | none => rw [e3] at o; exact o.elim
      | some z =>
        rw [e3] at o
        refine h1 M H2 x y d1 d2 z _ ((dm.mono s1).mono s2) (r1.same s2) r2 e3 fun zv H3 s3 rz => ?_
        cases z with
        | bl b =>
          cases rz
          refine ⟨b, rfl, ?_⟩
          cases b with
          | false =>
            rw [if_neg Bool.false_ne_true]
            exact o _ H3 ((s1.trans s2).trans s3) (.bl false)
          | true =>
            rw [if_pos rfl]
            refine ⟨M, ρ, ((dm.mono s1).mono s2).mono s3, re.same ((s1.trans s2).trans s3), ?_⟩
            have o' : OutE X W M σ H Q ((mc ρ).bind fun u => ofO (f2 d2 u)) := o
            cases e4 : mc ρ with
            | exc c => rw [e4] at o'; exact fun H' s' => o' H' (((s1.trans s2).trans s3).trans s')
            | stuck => rw [e4] at o'; exact o'
            | ok d3 =>
              rw [e4] at o'
              simp only [Res.bind_ok] at o'
              intro u H4 s4 r4
              cases e5 : f2 d2 d3 with
              | none => rw [e5] at o'; exact o'.elim
              | some w =>
                rw [e5] at o'
                exact h2 M H4 y u d2 d3 w Q ((((dm.mono s1).mono s2).mono s3).mono s4) (r2.same (s3.trans s4)) r4 e5 fun v H5 s5 rv => o' v H5 ((((s1.trans s2).trans s3).trans s4).trans s5) rv
        | _ => exact o.elim
theorem pw_of_pt {op : BoolOp} {vs : List Expr} {pos : Pos} {t : TT} (h : PT X (.BoolOp op vs pos) t) : PW X (.BoolOp op vs pos) t := ⟨fun whole pins s σ H Q I q => h.run pins s σ H Q I q⟩
theorem s_and {ma mb : En → Res D} {σ : L2.St} {H : Hp} {Q : VK} (q : tS X W (fun ρ => (ma ρ).bind fun x => (truth x).bind fun t => if t then mb ρ else .ok x) σ H Q) : tAndV (tS X W ma) (tS X W mb) σ H Q := by
  obtain ⟨M, ρ, dm, re, o⟩ := q
  refine ⟨M, ρ, dm, re, ?_⟩
  dsimp only at o
  cases e1 : ma ρ with
  | exc c => rw [e1] at o; exact o
  | stuck => rw [e1] at o; exact o
  | ok d =>
    rw [e1] at o
    intro v H1 s1 r1
    cases d with
    | bl b =>
      cases r1
      refine ⟨b, rfl, ?_⟩
      cases b with
      | false => rw [if_neg Bool.false_ne_true]; exact o _ H1 s1 (.bl false)
      | true =>
        rw [if_pos rfl]
        refine ⟨M, ρ, dm.mono s1, re.same s1, ?_⟩
        have o' : OutE X W M σ H Q (mb ρ) := o
        cases e2 : mb ρ with
        | ok d => rw [e2] at o'; exact fun v H' s' r' => o' v H' (s1.trans s') r'
        | exc c => rw [e2] at o'; exact fun H' s' => o' H' (s1.trans s')
        | stuck => rw [e2] at o'; exact o'
    | _ => exact o.elim
theorem s_or {ma mb : En → Res D} {σ : L2.St} {H : Hp} {Q : VK} (q : tS X W (fun ρ => (ma ρ).bind fun x => (truth x).bind fun t => if t then .ok x else mb ρ) σ H Q) : tOrV (tS X W ma) (tS X W mb) σ H Q := by
  obtain ⟨M, ρ, dm, re, o⟩ := q
  refine ⟨M, ρ, dm, re, ?_⟩
  dsimp only at o
  cases e1 : ma ρ with
  | exc c => rw [e1] at o; exact o
  | stuck => rw [e1] at o; exact o
  | ok d =>
    rw [e1] at o
    intro v H1 s1 r1
    cases d with
    | bl b =>
      cases r1
      refine ⟨b, rfl, ?_⟩
      cases b with
      | true => rw [if_pos rfl]; exact o _ H1 s1 (.bl true)
      | false =>
        rw [if_neg Bool.false_ne_true]
        refine ⟨M, ρ, dm.mono s1, re.same s1, ?_⟩
        have o' : OutE X W M σ H Q (mb ρ) := o
        cases e2 : mb ρ with
        | ok d => rw [e2] at o'; exact fun v H' s' r' => o' v H' (s1.trans s') r'
        | exc c => rw [e2] at o'; exact fun H' s' => o' H' (s1.trans s')
        | stuck => rw [e2] at o'; exact o'
    | _ => exact o.elim
theorem s_not {ma : En → Res D} {σ : L2.St} {H : Hp} {Q : VK} (q : tS X W (fun ρ => (ma ρ).bind fun x => (truth x).bind fun t => .ok (.bl (!t))) σ H Q) : tNotV (tS X W ma) σ H Q := by
  obtain ⟨M, ρ, dm, re, o⟩ := q
  refine ⟨M, ρ, dm, re, ?_⟩
  dsimp only at o
  cases e1 : ma ρ with
  | exc c => rw [e1] at o; exact o
  | stuck => rw [e1] at o; exact o
  | ok d =>
    rw [e1] at o
    intro v H1 s1 r1
    cases d with
    | bl b => cases r1; exact ⟨b, rfl, o _ H1 s1 (.bl _)⟩
    | _ => exact o.elim
theorem outT_go {H H1 : Hp} {σ : L2.St} {Q : Bool → Hp → Prop} {r : Res Bool} (s1 : Same X.K H H1) (o : OutT X W σ H Q r) : OutT X W σ H1 Q r := by
  cases r with
  | ok b => exact fun H' s' => o H' (s1.trans s')
  | exc c => exact fun H' s' => o H' (s1.trans s')
  | stuck => exact o
theorem outE_go {M : Mk} {H H1 : Hp} {σ : L2.St} {Q : VK} {r : Res D} (s1 : Same X.K H H1) (o : OutE X W M σ H Q r) : OutE X W M σ H1 Q r := by
  cases r with
  | ok b => exact fun v H' s' => o v H' (s1.trans s')
  | exc c => exact fun H' s' => o H' (s1.trans s')
  | stuck => exact o
theorem t_and {ma mb : En → Res D} {σ : L2.St} {H : Hp} {Q : Bool → Hp → Prop} (q : tST X W (fun ρ => ((ma ρ).bind fun x => (truth x).bind fun t => if t then mb ρ else .ok x).bind truth) σ H Q) :
    tAnd (tST X W fun ρ => (ma ρ).bind truth) (tST X W fun ρ => (mb ρ).bind truth) σ H Q := by
  obtain ⟨M, ρ, dm, re, o⟩ := q
  refine ⟨M, ρ, dm, re, ?_⟩
  dsimp only at o ⊢
  cases e1 : ma ρ with
  | exc c => rw [e1] at o; exact o
  | stuck => rw [e1] at o; exact o
  | ok d =>
    rw [e1] at o
    cases d with
    | bl b =>
      intro H1 s1
      cases b with
      | false => rw [if_neg Bool.false_ne_true]; exact o H1 s1
      | true => rw [if_pos rfl]; exact ⟨M, ρ, dm.mono s1, re.same s1, outT_go s1 o⟩
    | _ => exact o.elim
theorem t_or {ma mb : En → Res D} {σ : L2.St} {H : Hp} {Q : Bool → Hp → Prop} (q : tST X W (fun ρ => ((ma ρ).bind fun x => (truth x).bind fun t => if t then .ok x else mb ρ).bind truth) σ H Q) :
    tOr (tST X W fun ρ => (ma ρ).bind truth) (tST X W fun ρ => (mb ρ).bind truth) σ H Q := by
  obtain ⟨M, ρ, dm, re, o⟩ := q
  refine ⟨M, ρ, dm, re, ?_⟩
  dsimp only at o ⊢
  cases e1 : ma ρ with
  | exc c => rw [e1] at o; exact o
  | stuck => rw [e1] at o; exact o
  | ok d =>
    rw [e1] at o
    cases d with
    | bl b =>
      intro H1 s1
      cases b with
      | true => rw [if_pos rfl]; exact o H1 s1
      | false => rw [if_neg Bool.false_ne_true]; exact ⟨M, ρ, dm.mono s1, re.same s1, outT_go s1 o⟩
    | _ => exact o.elim
theorem t_not {ma : En → Res D} {σ : L2.St} {H : Hp} {Q : Bool → Hp → Prop} (q : tST X W (fun ρ => ((ma ρ).bind fun x => (truth x).bind fun t => .ok (.bl (!t))).bind truth) σ H Q) :
    tNot (tST X W fun ρ => (ma ρ).bind truth) σ H Q := by
  obtain ⟨M, ρ, dm, re, o⟩ := q
  refine ⟨M, ρ, dm, re, ?_⟩
  dsimp only at o ⊢
  cases e1 : ma ρ with
  | exc c => rw [e1] at o; exact o
  | stuck => rw [e1] at o; exact o
  | ok d =>
    rw [e1] at o
    cases d with
    | bl b => exact fun H1 s1 => o H1 s1
    | _ => exact o.elim
theorem s_ite {mt ma mb : En → Res D} {σ : L2.St} {H : Hp} {Q : VK} (q : tS X W (fun ρ => ((mt ρ).bind truth).bind fun k => if k then ma ρ else mb ρ) σ H Q) :
    tIf (tST X W fun ρ => (mt ρ).bind truth) (tS X W ma) (tS X W mb) σ H Q := by
  obtain ⟨M, ρ, dm, re, o⟩ := q
  refine ⟨M, ρ, dm, re, ?_⟩
  dsimp only at o ⊢
  cases e1 : (mt ρ).bind truth with
  | exc c => rw [e1] at o; exact o
  | stuck => rw [e1] at o; exact o
  | ok b =>
    rw [e1] at o
    intro H1 s1
    cases b with
    | true => rw [if_pos rfl]; exact ⟨M, ρ, dm.mono s1, re.same s1, outE_go s1 o⟩
    | false => rw [if_neg Bool.false_ne_true]; exact ⟨M, ρ, dm.mono s1, re.same s1, outE_go s1 o⟩
def tIfT (t a b : TT) : TT := fun σ H Q => t σ H fun c H1 => if c = true then a σ H1 Q else b σ H1 Q
theorem pt_ifExp {c a b : Expr} {tc ta tb : TT} {pos : Pos} (hc : PT X c tc) (ha : PT X a ta) (hb : PT X b tb) : PT X (.IfExp c a b pos) (tIfT tc ta tb) := by
  refine ⟨fun pins s σ H Q I h => ?_⟩
  show wpAny _ _ (do if ← isTrue c X.env (eval c X.env) then isTrue a X.env (eval a X.env) else isTrue b X.env (eval b X.env)) _ _ _
  refine wpAny_bind (thn (hc.run pins s σ H _ I h) fun d s1 ⟨H1, I1, q1⟩ => ?_)
  cases d with
  | true => exact ha.run pins s1 σ H1 Q I1 q1
  | false => exact hb.run pins s1 σ H1 Q I1 q1
theorem t_ite {mt ma mb : En → Res D} {σ : L2.St} {H : Hp} {Q : Bool → Hp → Prop} (q : tST X W (fun ρ => (((mt ρ).bind truth).bind fun k => if k then ma ρ else mb ρ).bind truth) σ H Q) :
    tIfT (tST X W fun ρ => (mt ρ).bind truth) (tST X W fun ρ => (ma ρ).bind truth) (tST X W fun ρ => (mb ρ).bind truth) σ H Q := by
  obtain ⟨M, ρ, dm, re, o⟩ := q
  refine ⟨M, ρ, dm, re, ?_⟩
  dsimp only at o ⊢
  cases e1 : (mt ρ).bind truth with
  | exc c => rw [e1] at o; exact o
  | stuck => rw [e1] at o; exact o
  | ok b =>
    rw [e1] at o
    intro H1 s1
    cases b with
    | true => rw [if_pos rfl]; exact ⟨M, ρ, dm.mono s1, re.same s1, outT_go s1 o⟩
    | false => rw [if_neg Bool.false_ne_true]; exact ⟨M, ρ, dm.mono s1, re.same s1, outT_go s1 o⟩
theorem isTup_of {t : Expr} (h : isTupE t = true) : ∃ ts kk tp, t = .Tuple ts kk tp := by
  cases t <;> first | exact ⟨_, _, _, rfl⟩ | cases h
theorem notSet_folded {i : Expr} {env : PySem.Env} (h : (match i with | .Set _ _ _ => false | _ => true) = true) (v : Value) : foldedSetIterable i env v = pure v := by
  cases i <;> first | rfl | cases h
theorem opB_eq : ∀ {a b : CmpOp}, opB a b = true → a = b ∧ a ≠ .In ∧ a ≠ .NotIn := by
  intro a b h
  cases a <;> cases b <;> first | exact ⟨rfl, by decide, by decide⟩ | cases h
end
section
variable {X : Cx} {W : WX}
theorem XOk.blk {k : Nat} (xo : XOk X k W) (s : Shared) (H : Hp) (scope : Scope) (cenv : PySem.Env) (fp : List Addr) (hq : cenv.qual = X.env.qual) (hc : cenv.code = X.env.code) : XOk (X.blk s H scope cenv fp) k W0 :=
  ⟨xo.calm, xo.nd, xo.room, takes0, xo.bf, xo.tb, fun n hn e => hc.trans (xo.cd n hn (hq.symm.trans e))⟩
theorem blk_loc {scope : Scope} {s : Shared} {H : Hp} {C : Addr} {cl : List (Str × Addr)} {fp : List Addr} (x : Str) (h : locB scope x = true) :
    Loc (X.blk s H scope (compEnvC scope cl C X.env) fp).env.scope x ∧ ((X.blk s H scope (compEnvC scope cl C X.env) fp).fn x = true ∨ (X.blk s H scope (compEnvC scope cl C X.env) fp).env.scope.names.lookup x = some .local) := by
  rcases loc_of h with h | h
  · have := lookup_relS_keep (sc := X.env.scope) (k := .local) (by decide) h
    exact ⟨.inl this, .inr this⟩
  · have := lookup_relS_keep (sc := X.env.scope) (k := .cell) (by decide) h
    refine ⟨.inr this, .inl ?_⟩
    show (scope.names.lookup x == some .cell) = true
    rw [h]; rfl
end
mutual
theorem snd_e : ∀ (e : E) {X : Cx} {k : Nat} {W : WX}, XOk X k W → good (GoodX X k) (GC (gm X k)) e → ∀ x, chk X.N X.env.scope e x = true → SndE X W e x
  | .v i, X, k, W, xo, g, x, h => by
    cases x with
    | Name y p =>
      have h' : (X.N[i]? = some y ∧ visB X.env.scope y = true) ∧ okName y = true := by simpa [chk] using h
      obtain ⟨⟨h1, h2⟩, h3⟩ := h'
      obtain ⟨h4, h5⟩ := okName_of h3
      have pe : PE X (.Name y p) (tS X W (ev (.v i))) := pe_weak (pe_var h1 (vis_of h2) h4 h5) fun σ H Q q => by
        obtain ⟨M, ρ, dm, re, o⟩ := q
        have o' : OutE X W M σ H Q (getE ρ i) := o
        unfold getE at o'
        split at o'
        · rename_i d e
          obtain ⟨v, h6, h7⟩ := re.get i d e
          exact ⟨v, h6, o' v H (Same.refl H) h7⟩
        · exact o'.elim
      exact ⟨pe, pt_of_pe pe (fun _ => rfl), fun z => nomatch z⟩
    | _ => cases h
  | .atom q, X, k, W, xo, g, x, h => by
    have g' : AtomG (GoodX X k) (GC (gm X k)) q := g
    have h' : q.chk X.N X.env.scope x = true := by simpa [chk] using h
    exact ⟨(g' X k W xo rfl rfl x h').1, (g' X k W xo rfl rfl x h').2, fun z => nomatch z⟩
  | .c c, X, k, W, xo, g, x, h => by
    cases x with
    | Constant kk j p =>
      have h' : chkC c kk = true := h
      have pe : PE X (.Constant kk j p) (tS X W (ev (.c c))) := by
        cases c with
        | non =>
          cases kk with
          | none => exact pe_weak pe_non fun σ H Q ⟨M, ρ, dm, re, o⟩ => o _ H (Same.refl H) .non
          | _ => cases h'
        | bl b =>
          cases kk with
          | bool b' =>
            have e : b = b' := by simpa [chkC] using h'
            subst e
            exact pe_weak pe_bl fun σ H Q ⟨M, ρ, dm, re, o⟩ => o _ H (Same.refl H) (.bl b)
          | _ => cases h'
        | int i =>
          cases kk with
          | int b' =>
            have e : i = b' := by simpa [chkC] using h'
            subst e
            exact pe_weak pe_int fun σ H Q ⟨M, ρ, dm, re, o⟩ => o _ H (Same.refl H) (.int i)
          | _ => cases h'
        | str i =>
          cases kk with
          | str b' =>
            have e : i = b' := by simpa [chkC] using h'
            subst e
            exact pe_weak pe_str fun σ H Q ⟨M, ρ, dm, re, o⟩ => o _ H (Same.refl H) (.str i)
          | _ => cases h'
        | cls d b => cases kk <;> cases h'
        | fact φ => cases kk <;> cases h'
      exact ⟨pe, pt_of_pe pe (fun _ => rfl), fun z => nomatch z⟩
    | _ => cases h
  | .g y c, X, k, W, xo, g, x, h => by
    cases x with
    | Name z p =>
      have h' : ((y = z ∧ glB X.env.scope y = true) ∧ okName y = true) ∧ c.isC = true := by simpa [chk] using h
      obtain ⟨⟨⟨h1, h2⟩, h3⟩, h4⟩ := h'
      subst h1
      obtain ⟨u, g1, g2⟩ := (show GC (gm X k) y c from g).get h4
      have pe : PE X (.Name y p) (tS X W (ev (.g y c))) := pe_weak (pe_glob (gl_of h2) g1 g2 (okName_of h3).1) fun σ H Q ⟨M, ρ, dm, re, o⟩ => o _ H (Same.refl H) (by cases c <;> constructor)
      exact ⟨pe, pt_of_pe pe (fun _ => rfl), fun z => nomatch z⟩
    | _ => cases h
  | .prim p as, X, k, W, xo, g, x, h => by
    have h' : (match p.syn X.env.scope x with | some es => chkL X.N X.env.scope as es | none => false) = true := h
    cases e1 : p.syn X.env.scope x with
    | none => rw [e1] at h'; cases h'
    | some es =>
      rw [e1] at h'
      obtain ⟨ms, hp, he⟩ := snd_L as xo g.2 es h'
      have po := g.1 X k W xo
      have ee : ev (.prim p as) = fun ρ => (seqM ms ρ).bind fun ds => ofO (p.sem ds) := by
        funext ρ
        show (evL as ρ).bind _ = _
        rw [he]
      refine ⟨?_, ?_, ?_⟩
      · rw [ee]; exact po.pe e1 hp
      · rw [ee]; exact po.pt e1 hp
      · intro hf; rw [ee]; exact po.fr hf e1 hp
  | .and a b, X, k, W, xo, g, x, h => by
    match x, h with
    | .BoolOp .And (x1 :: y :: r) pos, h =>
      have sb : SndE X W a x1 ∧ PE X (.BoolOp .And (y :: r) pos) (tS X W (ev b)) ∧ PW X (.BoolOp .And (y :: r) pos) (tST X W fun ρ => (ev b ρ).bind truth) := by
        cases r with
        | nil =>
          have h' : chk X.N X.env.scope a x1 = true ∧ chk X.N X.env.scope b y = true := by simpa [chk] using h
          have sb := snd_e b xo g.2 y h'.2
          exact ⟨snd_e a xo g.1 x1 h'.1, pe_one sb.pe, pw_and1 sb.pt⟩
        | cons z r' =>
          have h' : chk X.N X.env.scope a x1 = true ∧ chk X.N X.env.scope b (.BoolOp .And (y :: z :: r') pos) = true := by simpa [chk] using h
          have sb := snd_e b xo g.2 _ h'.2
          exact ⟨snd_e a xo g.1 x1 h'.1, sb.pe, pw_of_pt sb.pt⟩
      obtain ⟨sa, sb⟩ := sb
      refine ⟨pe_weak (pe_and sa.pe sb.1) fun σ H Q q => s_and q, pt_weak (PW.pt (pw_and sa.pt sb.2)) fun σ H Q q => t_and q, fun z => nomatch z⟩
  | .or a b, X, k, W, xo, g, x, h => by
    match x, h with
    | .BoolOp .Or (x1 :: y :: r) pos, h =>
      have sb : SndE X W a x1 ∧ PE X (.BoolOp .Or (y :: r) pos) (tS X W (ev b)) ∧ PW X (.BoolOp .Or (y :: r) pos) (tST X W fun ρ => (ev b ρ).bind truth) := by
        cases r with
        | nil =>
          have h' : chk X.N X.env.scope a x1 = true ∧ chk X.N X.env.scope b y = true := by simpa [chk] using h
          have sb := snd_e b xo g.2 y h'.2
          exact ⟨snd_e a xo g.1 x1 h'.1, pe_one sb.pe, pw_or1 sb.pt⟩
        | cons z r' =>
          have h' : chk X.N X.env.scope a x1 = true ∧ chk X.N X.env.scope b (.BoolOp .Or (y :: z :: r') pos) = true := by simpa [chk] using h
          have sb := snd_e b xo g.2 _ h'.2
          exact ⟨snd_e a xo g.1 x1 h'.1, sb.pe, pw_of_pt sb.pt⟩
      obtain ⟨sa, sb⟩ := sb
      refine ⟨pe_weak (pe_or sa.pe sb.1) fun σ H Q q => s_or q, pt_weak (PW.pt (pw_or sa.pt sb.2)) fun σ H Q q => t_or q, fun z => nomatch z⟩
  | .not a, X, k, W, xo, g, x, h => by
    match x, h with
    | .UnaryOp .Not x1 pos, h =>
      have sa := snd_e a xo g x1 h
      refine ⟨pe_weak (pe_not sa.pe) fun σ H Q q => s_not q, pt_weak (pt_not sa.pt) fun σ H Q q => t_not q, fun z => nomatch z⟩
  | .ite t a b, X, k, W, xo, g, x, h => by
    match x, h with
    | .IfExp x1 y z pos, h =>
      have h' : (chk X.N X.env.scope t x1 = true ∧ chk X.N X.env.scope a y = true) ∧ chk X.N X.env.scope b z = true := by simpa [chk] using h
      obtain ⟨⟨h1, h2⟩, h3⟩ := h'
      have st := snd_e t xo g.1 x1 h1
      have sa := snd_e a xo g.2.1 y h2
      have sb := snd_e b xo g.2.2 z h3
      refine ⟨pe_weak (pe_ifExp st.pt sa.pe sb.pe) fun σ H Q q => s_ite q, pt_weak (pt_ifExp st.pt sa.pt sb.pt) fun σ H Q q => t_ite q, fun z => nomatch z⟩
  | .chain o1 o2 f1 f2 a b c, X, k, W, xo, g, x, h => by
    match x, h with
    | .Compare x1 [p1, p2] [y, z] pos, h =>
      have h' : (((opB o1 p1 = true ∧ opB o2 p2 = true) ∧ chk X.N X.env.scope a x1 = true) ∧ chk X.N X.env.scope b y = true) ∧ chk X.N X.env.scope c z = true := by simpa [chk] using h
      obtain ⟨⟨⟨⟨h1, h2⟩, h3⟩, h4⟩, h5⟩ := h'
      obtain ⟨e1, n1, n1'⟩ := opB_eq h1
      obtain ⟨e2, n2, n2'⟩ := opB_eq h2
      subst e1 e2
      obtain ⟨g1, g2, g3, g4, g5⟩ := g
      obtain ⟨r1, or1, w1⟩ := g1 X k W xo
      obtain ⟨r2, or2, w2⟩ := g2 X k W xo
      have sa := snd_e a xo g3 x1 h3
      have sb := snd_e b xo g4 y h4
      have sc := snd_e c xo g5 z h5
      have hm : lastMarks [o1, o2] [y, z] = false := nobehind z n2 n2'
      refine ⟨pe_weak (pe_chain or1 or2 sa.pe sb.pe sc.pe hm) fun σ H Q q => s_chain (o1 := o1) (o2 := o2) w1 w2 q, pt_weak (pt_chain or1 or2 sa.pe sb.pe sc.pe hm) fun σ H Q q => ?_, fun z => nomatch z⟩
      exact s_chain (o1 := o1) (o2 := o2) w1 w2 (w_test q)
  | .call f sem as, X, k, W, xo, g, x, h => by
    match x, h with
    | .Call (.Name y p) [] [] pos, h => simp [chk] at h
    | .Call (.Name y p) (e1 :: es) [] pos, h =>
      have h' : ((f = y ∧ glB X.env.scope y = true) ∧ okName y = true) ∧ chkL X.N X.env.scope as (e1 :: es) = true := by simpa [chk] using h
      obtain ⟨⟨⟨h1, h2⟩, h3⟩, h4⟩ := h'
      subst h1
      obtain ⟨ms, hp, he⟩ := snd_L as xo g.2 _ h4
      obtain ⟨fa, fd, ps, F, gm, kp, bd, gl⟩ := g.1
      have ee : ev (.call f sem as) = fun ρ => (seqM ms ρ).bind sem := by
        funext ρ
        show (evL as ρ).bind _ = _
        rw [he]
      have ns : notStar e1 = true := by cases hp with | cons _ n _ => exact n
      have st : (backTo pos (starEach es X.env)).any (·.1) = false := by cases hp with | cons _ _ t => exact stars_of t pos
      have pe : PE X (.Call (.Name f p) (e1 :: es) [] pos) (tS X W (ev (.call f sem as))) := by
        rw [ee]
        refine pe_weak (pe_callS F xo.room (gl_of h2) gm kp bd (fun σ => passAt xo.tk σ) hp.pa (okName_of h3).1 (star_of ns es X.env) st) fun σ H Q q => ?_
        obtain ⟨M, ρ, dm, re, o⟩ := q
        refine ⟨M, ρ, dm, re, ?_⟩
        dsimp only at o
        cases e1 : seqM ms ρ with
        | exc c => rw [e1] at o; exact o
        | stuck => rw [e1] at o; exact o
        | ok ds =>
          rw [e1] at o
          simp only [Res.bind_ok] at o
          intro vs H1 s1 rs
          have ln : sem ds ≠ .stuck := fun z => by rw [z] at o; exact o
          refine ⟨by rw [rs.length]; exact gl ds ln, re.tab.same s1, M, ds, dm.mono s1, rs, ?_⟩
          cases e2 : sem ds with
          | ok d => rw [e2] at o; exact fun v H' s' rv => o v H' (s1.trans s') rv
          | exc c => rw [e2] at o; exact fun H' s' => o H' (s1.trans s')
          | stuck => rw [e2] at o; exact o
      exact ⟨pe, pt_of_pe pe (fun _ => rfl), fun z => nomatch z⟩
  | .comp own tg it cond elt, X, k, W, xo, g, x, h => by
    cases x with
    | ListComp x0 gs scope p =>
      match gs, h with
      | [⟨t, i, ifs, 0⟩], h =>
        have h' : (((((blkC X.N X.env.scope scope own = true ∧ chkTg X.N scope tg t = true) ∧ tgIn (own.map (·.2)) tg = true) ∧ chkI X.N X.env.scope it t i = true) ∧ chkO X.N (relS scope X.env.scope) cond ifs = true) ∧ chk X.N (relS scope X.env.scope) elt x0 = true) := by
          simpa [chk] using h
        obtain ⟨⟨⟨⟨⟨h1, h2⟩, h3⟩, h4⟩, h5⟩, h6⟩ := h'
        have hi := snd_I it xo g.1 t i h4
        have hs : ∀ v, foldedSetIterable i X.env v = pure v := by
          intro v
          refine notSet_folded ?_ v
          cases i with
          | Set a b c =>
            cases it with
            | seq a => simp [chkI] at h4
            | _ => cases h4
          | _ => rfl
        have hg : ∀ (s : Shared) (H : Hp) (C : Addr) (cl : List (Str × Addr)) (fp : List Addr), PG (X.blk s H scope (compEnvC scope cl C X.env) fp) t (gTg X.K tg) := fun s H C cl fp =>
          pg_tg (X := X.blk s H scope (compEnvC scope cl C X.env) fp) (N := X.N) (sc := scope) xo.calm rfl xo.nd blk_loc h2
        have ht : ∀ (s : Shared) (H : Hp) (C : Addr) (cl : List (Str × Addr)) (fp : List Addr), PTs (X.blk s H scope (compEnvC scope cl C X.env) fp) ifs (tST X W0 (evO cond)) := fun s H C cl fp =>
          snd_O cond (X := X.blk s H scope (compEnvC scope cl C X.env) fp) (xo.blk s H scope _ fp rfl rfl) g.2.1 ifs h5
        have he : ∀ (s : Shared) (H : Hp) (C : Addr) (cl : List (Str × Addr)) (fp : List Addr), PE (X.blk s H scope (compEnvC scope cl C X.env) fp) x0 (tS X W0 (ev elt)) := fun s H C cl fp =>
          (snd_e elt (X := X.blk s H scope (compEnvC scope cl C X.env) fp) (xo.blk s H scope _ fp rfl rfl) g.2.2 x0 h6).pe
        have pf : PE X (.ListComp x0 [⟨t, i, ifs, 0⟩] scope p) (tF X W (ev (.comp own tg it cond elt))) :=
          pe_weak (pe_lc xo.calm xo.nd hi (blkOk_by h1) hg ht he hs) (pe_compF xo hi (blkOk_by h1) h3 hg ht he hs)
        have pe := tF_S pf fun ρ d e => by
          have e' : ((evI it ρ).bind fun ds => if ds.length ≤ sizeD then (compM (turnM tg (evO cond) (ev elt) (wipeD ρ (own.map (·.2)))) ds).bind fun out => .ok (.lst out) else .stuck) = .ok d := e
          obtain ⟨ds, _, e'⟩ := Res.bind_eq_ok e'
          split at e'
          · obtain ⟨out, _, e'⟩ := Res.bind_eq_ok e'
            cases e'
            exact ⟨_, rfl⟩
          · cases e'
        exact ⟨pe, pt_of_pe pe (fun _ => rfl), fun _ => pf⟩
    | _ => cases h
theorem snd_L : ∀ (l : EL) {X : Cx} {k : Nat} {W : WX}, XOk X k W → goodL (GoodX X k) (GC (gm X k)) l → ∀ es, chkL X.N X.env.scope l es = true → ∃ ms, PEs X W es ms ∧ ∀ ρ, evL l ρ = seqM ms ρ
  | .nil, X, k, W, xo, g, es, h => by
    cases es with
    | nil => exact ⟨[], .nil, fun _ => rfl⟩
    | cons a b => cases h
  | .cons a r, X, k, W, xo, g, es, h => by
    cases es with
    | nil => cases h
    | cons e es =>
      have h' : (chk X.N X.env.scope a e = true ∧ notStar e = true) ∧ chkL X.N X.env.scope r es = true := by simpa [chkL] using h
      obtain ⟨⟨h1, h2⟩, h3⟩ := h'
      obtain ⟨ms, hp, he⟩ := snd_L r xo g.2 es h3
      refine ⟨ev a :: ms, .cons (snd_e a xo g.1 e h1).pe h2 hp, fun ρ => ?_⟩
      show (ev a ρ).bind (fun d => (evL r ρ).bind fun ds => .ok (d :: ds)) = (ev a ρ).bind (fun d => (seqM ms ρ).bind fun ds => .ok (d :: ds))
      rw [he]
theorem snd_O : ∀ (o : EO) {X : Cx} {k : Nat} {W : WX}, XOk X k W → goodO (GoodX X k) (GC (gm X k)) o → ∀ ifs, chkO X.N X.env.scope o ifs = true → PTs X ifs (tST X W (evO o))
  | .none, X, k, W, xo, g, ifs, h => by
    cases ifs with
    | nil => exact ⟨fun pins s σ H Q I q => pts_nil.run pins s σ H Q I (by obtain ⟨M, ρ, dm, re, o⟩ := q; exact o H (Same.refl H))⟩
    | cons a b => cases h
  | .some a, X, k, W, xo, g, ifs, h => by
    match ifs, h with
    | [e], h => exact pts_one (snd_e a xo g e h).pt
theorem snd_I : ∀ (it : IT) {X : Cx} {k : Nat} {W : WX}, XOk X k W → goodI (GoodX X k) (GC (gm X k)) it → ∀ t i, chkI X.N X.env.scope it t i = true → PI X t i (tIS X W (evI it))
  | .seq a, X, k, W, xo, g, t, i, h => by
    have h' : chk X.N X.env.scope a i = true := by
      have : chk X.N X.env.scope a i && (match i with | .Set _ _ _ => false | _ => true) = true := by cases i <;> exact h
      rw [Bool.and_eq_true] at this
      exact this.1
    exact pi_seq (snd_e a xo g i h').pe
  | .rng as, X, k, W, xo, g, t, i, h => by
    match i, h with
    | .Call (.Name y p) es [] pos, h =>
      have h' : ((((y = "range" ∧ glB X.env.scope y = true) ∧ 1 ≤ es.length) ∧ es.length ≤ 3) ∧ chkL X.N X.env.scope as es = true) := by simpa [chkI] using h
      obtain ⟨⟨⟨⟨h1, h2⟩, h3⟩, h4⟩, h5⟩ := h'
      obtain ⟨ms, hp, he⟩ := snd_L as xo g es h5
      have ee : evI (.rng as) = fun ρ => (seqM ms ρ).bind rngD := by
        funext ρ
        show (evL as ρ).bind _ = _
        rw [he]
      rw [ee]
      exact pi_rng h1 (gl_of h2) (xo.bf _ (by decide)) hp h3 h4
  | .zip a b, X, k, W, xo, g, t, i, h => by
    match i, h with
    | .Call (.Name y p) [e1, e2] [] pos, h =>
      have h' : ((((((y = "zip" ∧ glB X.env.scope y = true) ∧ isTupE t = true) ∧ chk X.N X.env.scope a e1 = true) ∧ notStar e1 = true) ∧ chk X.N X.env.scope b e2 = true) ∧ notStar e2 = true) := by simpa [chkI] using h
      obtain ⟨⟨⟨⟨⟨⟨h1, h2⟩, h0⟩, h3⟩, h4⟩, h5⟩, h6⟩ := h'
      obtain ⟨ts, kk, tp, et⟩ := isTup_of h0
      rw [et]
      exact pi_zipD h1 (gl_of h2) (xo.bf _ (by decide)) (snd_e a xo g.1 e1 h3).pe h4 (snd_e b xo g.2 e2 h5).pe h6
  | .enum a, X, k, W, xo, g, t, i, h => by
    match i, h with
    | .Call (.Name y p) [e1] [] pos, h =>
      have h' : ((((y = "enumerate" ∧ glB X.env.scope y = true) ∧ isTupE t = true) ∧ chk X.N X.env.scope a e1 = true) ∧ notStar e1 = true) := by simpa [chkI] using h
      obtain ⟨⟨⟨⟨h1, h2⟩, h0⟩, h3⟩, h4⟩ := h'
      obtain ⟨ts, kk, tp, et⟩ := isTup_of h0
      rw [et]
      exact pi_enumD h1 (gl_of h2) (xo.bf _ (by decide)) (snd_e a xo g e1 h3).pe h4
end
end PL

namespace PL
open PySem PySem.Spec PyProof.Rows L2
/-! ## what a frame owns: how it stands in the heap -/
structure OP where
  rep : PySem.W.Frag → Mk → Hp → List Addr → V → Prop
  nd : ∀ {K M H as v}, rep K M H as v → as.Nodup
  dom : ∀ {K M H as v}, rep K M H as v → ∀ a ∈ as, ∃ o, H a = some o ∧ MutO o
  keep : ∀ {K M H H' as v}, rep K M H as v → Keep K M H H' → (∀ a ∈ as, H' a = H a) → rep K M H' as v
  weak : ∀ {K M M' H as v}, rep K M H as v → (∀ a, M' a → M a) → rep K M' H as v
  ext : ∀ {K M M' H as v}, rep K M H as v → Ext M M' H → rep K M' H as v
theorem OP.same {q : OP} {K : PySem.W.Frag} {M : Mk} {H H' : Hp} {as : List Addr} {v : V} (r : q.rep K M H as v) (s : Same K H H') : q.rep K M H' as v :=
  q.keep r (Keep.of_same s) fun a ha => by
    obtain ⟨o, e, mu⟩ := q.dom r a ha
    rw [e]; exact s.app a o e (NT.of_mut mu)
def noOP : OP := ⟨fun _ _ _ _ _ => False, fun h => h.elim, fun h => h.elim, fun h => h.elim, fun h => h.elim, fun h => h.elim⟩
/-- one object of a kind, whose parts are plain values -/
def oneOP (mk : List V → HO) (mu : ∀ vs, MutO (mk vs)) (ok : List V → Prop) (l : List D) : OP where
  rep := fun K M H as v => ∃ a vs, as = [a] ∧ v = .ref a ∧ H a = some (mk vs) ∧ ok vs ∧ RepAll K M H vs l
  nd := fun ⟨a, vs, e, _⟩ => by rw [e]; exact List.nodup_cons.mpr ⟨List.not_mem_nil, .nil⟩
  dom := fun ⟨a, vs, e, _, h, _⟩ b hb => by
    rw [e] at hb
    rw [List.mem_singleton.mp hb]
    exact ⟨_, h, mu vs⟩
  keep := fun ⟨a, vs, e, e', h, k, r⟩ kp st => ⟨a, vs, e, e', by rw [st a (by rw [e]; exact List.mem_cons_self)]; exact h, k, RepAll.keep kp _ _ r⟩
  weak := fun ⟨a, vs, e, e', h, k, r⟩ w => ⟨a, vs, e, e', h, k, RepAll.weak w _ _ r⟩
  ext := fun ⟨a, vs, e, e', h, k, r⟩ x => ⟨a, vs, e, e', h, k, RepAll.ext x _ _ r⟩
def lstOP (l : List D) : OP := oneOP (fun vs => .lst vs) (fun _ => trivial) (fun _ => True) l
def dctOP (ks : List Key) (l : List D) : OP := oneOP (fun vs => .dK (ks.zip vs)) (fun _ => trivial) (fun vs => ks.length = vs.length) l
def dcTOP (ks : List (List Key)) (l : List D) : OP := oneOP (fun vs => .dT (ks.zip vs)) (fun _ => trivial) (fun vs => ks.length = vs.length) l
def datOP : D → OP
  | .dct ks l => dctOP ks l
  | .dcT ks l => dcTOP ks l
  | _ => noOP
/-- a list that is gone over: it stands at a known place -/
def loanOP (a : Addr) (l : List D) : OP where
  rep := fun K M H as v => (lstOP l).rep K M H as v ∧ v = .ref a
  nd := fun h => (lstOP l).nd h.1
  dom := fun h => (lstOP l).dom h.1
  keep := fun h k e => ⟨(lstOP l).keep h.1 k e, h.2⟩
  weak := fun h k => ⟨(lstOP l).weak h.1 k, h.2⟩
  ext := fun h k => ⟨(lstOP l).ext h.1 k, h.2⟩
/-- an object of the program's own classes; a list on loan -/
def objOP (c : Str) (d : D) : OP := match d with
  | .tup [.int a, .lst l] => loanOP a.toNat l
  | _ => noOP
end PL

namespace PL
open PySem PySem.Spec PyProof.Rows L2

/-! ## a frame's slots: read only, or a thing that is the frame's own -/
inductive Sl where
  | no | ro (d : D) | own (l : List D) | odt (d : D) | obj (c : Str) (d : D)
abbrev SE := List Sl
def datD : D → Option D
  | .dct ks l => some (.dct ks l)
  | .dcT ks l => some (.dcT ks l)
  | _ => none
def Sl.full : Sl → Option D
  | .no => none | .ro d => some d | .own l => some (.lst l) | .odt d => datD d | .obj _ _ => none
def Sl.hid : Sl → Option D
  | .no => none | .ro d => some d | .own _ => none | .odt _ => none | .obj _ _ => none
def Sl.ow : Sl → Option OP
  | .own l => some (lstOP l) | .odt d => some (datOP d) | .obj c d => some (objOP c d) | _ => none
def full (s : SE) : En := s.map Sl.full
def hid (s : SE) : En := s.map Sl.hid
def see (h : Bool) (s : SE) : En := if h then hid s else full s
def okFor (h : Bool) (d : D) : Bool := h || d.flat
def owAt (s : SE) (i : Nat) : Option OP := (s[i]?).bind Sl.ow
/-- the marks -/
def marks (M0 : Mk) (A : Nat → List Addr) (s : SE) : Mk := fun a => M0 a ∨ ∃ (i : Nat) (q : OP), owAt s i = some q ∧ a ∈ A i
structure RelS (K : PySem.W.Frag) (H0 : Hp) (M0 : Mk) (A : Nat → List Addr) (σ : L2.St) (H : Hp) (s : SE) : Prop where
  len : σ.length = s.length
  same : Same K H0 H
  dm0 : DomM M0 H
  injG : ∀ (i j : Nat) (q q' : OP) (a : Addr), owAt s i = some q → owAt s j = some q' → a ∈ A i → a ∈ A j → i = j
  ownG : ∀ (i : Nat) (q : OP), owAt s i = some q → (∀ a ∈ A i, Fr H0 a ∧ ¬ M0 a) ∧ ∃ v, σ[i]? = some (some v) ∧ q.rep K (marks M0 A s) H (A i) v
  ro : ∀ (i : Nat) (d : D), s[i]? = some (.ro d) → ∃ v, σ[i]? = some (some v) ∧ Rep K (marks M0 A s) H v d
  tab : TabsK K H
/-- what a piece of code may do to the heap -/
structure Frame (K : PySem.W.Frag) (M : Mk) (H : Hp) (M' : Mk) (H' : Hp) : Prop where
  keep : Keep K M H H'
  new : ∀ a, M' a → M a ∨ Fr H a
  dom : DomM M H'
section
variable {K : PySem.W.Frag} {H0 H H1 H2 : Hp} {M0 M M1 M2 : Mk} {A : Nat → List Addr} {σ : L2.St} {s : SE}
theorem owAt_of {i : Nat} {x : Sl} {q : OP} (e : s[i]? = some x) (h : x.ow = some q) : owAt s i = some q := by unfold owAt; rw [e]; exact h
theorem owAt_own {i : Nat} {l : List D} (e : s[i]? = some (.own l)) : owAt s i = some (lstOP l) := owAt_of e rfl
theorem owAt_set_ne {i j : Nat} {x : Sl} (h : i ≠ j) : owAt (s.set i x) j = owAt s j := by unfold owAt; rw [List.getElem?_set_ne h]
theorem owAt_set_self {i : Nat} {x : Sl} (h : i < s.length) : owAt (s.set i x) i = x.ow := by unfold owAt; rw [List.getElem?_set_self h]; rfl
theorem owAt_lt {i : Nat} {q : OP} (e : owAt s i = some q) : i < s.length := by
  unfold owAt at e
  cases h : s[i]? with
  | none => rw [h] at e; cases e
  | some x => exact (List.getElem?_eq_some_iff.mp h).1
theorem owAt_set {i j : Nat} {x : Sl} {q : OP} (hx : x.ow = none) (e : owAt (s.set i x) j = some q) : i ≠ j ∧ owAt s j = some q := by
  by_cases hj : i = j
  · subst hj
    have := owAt_lt e
    rw [List.length_set] at this
    rw [owAt_set_self this, hx] at e; cases e
  · rw [owAt_set_ne hj] at e; exact ⟨hj, e⟩
theorem RelS.dm (r : RelS K H0 M0 A σ H s) : DomM (marks M0 A s) H := fun a m => by
  rcases m with m | ⟨i, q, e, ha⟩
  · exact r.dm0 a m
  · obtain ⟨_, v, _, rp⟩ := r.ownG i q e
    exact q.dom rp a ha
theorem RelS.dmM0 (r : RelS K H0 M0 A σ H s) : DomM M0 H := r.dm0
/-- the list at a slot -/
theorem RelS.ownL (r : RelS K H0 M0 A σ H s) (i : Nat) (l : List D) (e : s[i]? = some (.own l)) : ∃ a, A i = [a] ∧ Fr H0 a ∧ ¬ M0 a ∧ σ[i]? = some (some (.ref a)) ∧ ∃ vs, H a = some (.lst vs) ∧ RepAll K (marks M0 A s) H vs l := by
  obtain ⟨f, v, h1, a, vs, eA, rfl, h2, _, h3⟩ := r.ownG i _ (owAt_own e)
  obtain ⟨f1, f2⟩ := f a (by rw [eA]; exact List.mem_cons_self)
  exact ⟨a, eA, f1, f2, h1, vs, h2, h3⟩
theorem datD_is {d d' : D} (h : datD d = some d') : d' = d ∧ ((∃ ks l, d = .dct ks l) ∨ ∃ ks l, d = .dcT ks l) := by
  cases d with
  | dct ks l => cases h; exact ⟨rfl, .inl ⟨ks, l, rfl⟩⟩
  | dcT ks l => cases h; exact ⟨rfl, .inr ⟨ks, l, rfl⟩⟩
  | _ => cases h
theorem get_full {i : Nat} {d : D} (h : (full s)[i]? = some (some d)) : s[i]? = some (.ro d) ∨ (∃ l, s[i]? = some (.own l) ∧ d = .lst l) ∨ (s[i]? = some (.odt d) ∧ ((∃ ks l, d = .dct ks l) ∨ ∃ ks l, d = .dcT ks l)) := by
  unfold full at h
  rw [List.getElem?_map] at h
  cases e : s[i]? with
  | none => rw [e] at h; cases h
  | some x =>
    rw [e] at h
    cases x with
    | no => cases h
    | ro d' => cases h; exact .inl rfl
    | own l => cases h; exact .inr (.inl ⟨l, rfl, rfl⟩)
    | odt d' =>
      have h' : datD d' = some d := Option.some.inj h
      obtain ⟨rfl, k⟩ := datD_is h'
      exact .inr (.inr ⟨rfl, k⟩)
    | obj c d' => cases h
theorem get_hid {i : Nat} {d : D} (h : (hid s)[i]? = some (some d)) : s[i]? = some (.ro d) := by
  unfold hid at h
  rw [List.getElem?_map] at h
  cases e : s[i]? with
  | none => rw [e] at h; cases h
  | some x =>
    rw [e] at h
    cases x with
    | ro d' => cases h; rfl
    | _ => cases h
theorem RelS.full (r : RelS K H0 M0 A σ H s) : Rel K M0 σ H (full s) := ⟨by unfold PL.full; rw [List.length_map]; exact r.len, fun i d e => by
  rcases get_full e with e2 | ⟨l, e2, rfl⟩ | ⟨e2, k⟩
  · obtain ⟨v, h1, h2⟩ := r.ro i d e2
    exact ⟨v, h1, Rep.weak (fun _ m => .inl m) _ _ h2⟩
  · obtain ⟨a, _, h0, hm0, h1, vs, h2, h3⟩ := r.ownL i l e2
    exact ⟨_, h1, .lst h2 hm0 (RepAll.weak (fun _ m => .inl m) _ _ h3)⟩
  · obtain ⟨f, v, h1, rp⟩ := r.ownG i _ (owAt_of e2 rfl)
    rcases k with ⟨ks, l, rfl⟩ | ⟨ks, l, rfl⟩
    · obtain ⟨a, vs, eA, rfl, h2, hk, h3⟩ := rp
      exact ⟨_, h1, .dct h2 hk (f a (by rw [eA]; exact List.mem_cons_self)).2 (RepAll.weak (fun _ m => .inl m) _ _ h3)⟩
    · obtain ⟨a, vs, eA, rfl, h2, hk, h3⟩ := rp
      exact ⟨_, h1, .dcT h2 hk (f a (by rw [eA]; exact List.mem_cons_self)).2 (RepAll.weak (fun _ m => .inl m) _ _ h3)⟩, r.tab⟩
theorem RelS.hid (r : RelS K H0 M0 A σ H s) : Rel K (marks M0 A s) σ H (hid s) := ⟨by unfold PL.hid; rw [List.length_map]; exact r.len, fun i d e => r.ro i d (get_hid e), r.tab⟩
theorem RelS.grow (r : RelS K H0 M0 A σ H s) (g : Same K H H1) : RelS K H0 M0 A σ H1 s :=
  ⟨r.len, r.same.trans g, r.dm0.mono g, r.injG, fun i q e => by
    obtain ⟨f, v, h1, h2⟩ := r.ownG i q e
    exact ⟨f, v, h1, OP.same h2 g⟩, fun i d e => by
    obtain ⟨v, h1, h2⟩ := r.ro i d e
    exact ⟨v, h1, h2.same g⟩, r.tab.same g⟩
theorem Frame.refl (d : DomM M H) : Frame K M H M H := ⟨Keep.refl M H, fun _ m => .inl m, d⟩
theorem Frame.grow (d : DomM M H) (g : Same K H H1) (sub : ∀ a, M1 a → M a) : Frame K M H M1 H1 := ⟨Keep.of_same g, fun a m => .inl (sub a m), d.mono g⟩
theorem Frame.trans (a : Frame K M H M1 H1) (b : Frame K M1 H1 M2 H2) : Frame K M H M2 H2 := by
  have notM1 : ∀ x o, H x = some o → NT o → ¬ M x → ¬ M1 x := fun x o e t n m => (a.new x m).elim n fun z => z o e t
  refine ⟨⟨fun x o e n t => b.keep.app x o (a.keep.app x o e n t) (notM1 x o e t n) t, fun h => b.keep.tab (a.keep.tab h)⟩, fun x m => ?_, fun x m => ?_⟩
  · rcases b.new x m with m | z
    · exact a.new x m
    · by_cases hm : M x
      · exact .inl hm
      · exact .inr fun o ho t => z o (a.keep.app x o ho hm t) t
  · obtain ⟨o, e, mu⟩ := a.dom x m
    by_cases h1 : M1 x
    · exact b.dom x h1
    · exact ⟨o, b.keep.app x o e h1 (NT.of_mut mu), mu⟩
theorem marks_set_no {i : Nat} {x : Sl} (hx : x.ow = none) (a : Addr) (h : marks M0 A (s.set i x) a) : marks M0 A s a := by
  rcases h with h | ⟨j, q, e, ha⟩
  · exact .inl h
  · exact .inr ⟨j, q, (owAt_set hx e).2, ha⟩
theorem marks_set_sub {i : Nat} {d : D} (a : Addr) (h : marks M0 A (s.set i (.ro d)) a) : marks M0 A s a := marks_set_no rfl a h
theorem get_set_ro {i j : Nat} {x : Sl} {d : D} (hx : ∀ d, x ≠ .ro d) (e : (s.set i x)[j]? = some (.ro d)) : i ≠ j ∧ s[j]? = some (.ro d) := by
  by_cases hj : i = j
  · subst hj
    rw [List.getElem?_set] at e
    simp only [if_true] at e
    split at e
    · exact absurd (Option.some.inj e) (hx d)
    · cases e
  · rw [List.getElem?_set_ne hj] at e
    exact ⟨hj, e⟩
theorem RelS.setRo {i : Nat} {v : V} {d : D} (r : RelS K H0 M0 A σ H s) (q : Rep K (marks M0 A s) H v d) : RelS K H0 M0 A (σ.set i (some v)) H (s.set i (.ro d)) := by
  have sub : ∀ a, marks M0 A (s.set i (.ro d)) a → marks M0 A s a := fun a => marks_set_sub a
  refine ⟨by rw [List.length_set, List.length_set]; exact r.len, r.same, r.dm0, fun j k l l' a e e' => ?_, fun j p e => ?_, fun j d' e => ?_, r.tab⟩
  · exact r.injG j k l l' a (owAt_set rfl e).2 (owAt_set rfl e').2
  · obtain ⟨hj, e⟩ := owAt_set rfl e
    obtain ⟨f, u, h1, h2⟩ := r.ownG j p e
    exact ⟨f, u, by rw [List.getElem?_set_ne hj]; exact h1, p.weak h2 sub⟩
  · by_cases hj : i = j
    · subst hj
      have hl : i < s.length := by
        have := (List.getElem?_eq_some_iff.mp e).1
        rwa [List.length_set] at this
      rw [List.getElem?_set_self hl] at e
      cases e
      exact ⟨v, List.getElem?_set_self (by rw [r.len]; exact hl), Rep.weak sub _ _ q⟩
    · rw [List.getElem?_set_ne hj] at e
      obtain ⟨u, h1, h2⟩ := r.ro j d' e
      exact ⟨u, by rw [List.getElem?_set_ne hj]; exact h1, Rep.weak sub _ _ h2⟩
def setA (A : Nat → List Addr) (i : Nat) (ps : List Addr) : Nat → List Addr := fun j => if j = i then ps else A j
theorem setA_same {i : Nat} {p : List Addr} : setA A i p i = p := by unfold setA; rw [if_pos rfl]
theorem setA_ne {i j : Nat} {p : List Addr} (h : i ≠ j) : setA A i p j = A j := by unfold setA; rw [if_neg (fun z => h z.symm)]
theorem own_not_ro {x : Sl} {q : OP} (h : x.ow = some q) : ∀ d, x ≠ .ro d := fun d e => by rw [e] at h; cases h
/-- a new thing of the frame's own: the heap has grown -/
theorem RelS.setNew {i : Nat} {ps : List Addr} {v : V} {x : Sl} {q : OP} (r : RelS K H0 M0 A σ H s) (g : Same K H H1) (hx : x.ow = some q) (n : ∀ p ∈ ps, Fr H p) (rp : q.rep K (fun a => marks M0 A s a ∨ a ∈ ps) H1 ps v) :
    RelS K H0 M0 (setA A i ps) (σ.set i (some v)) H1 (s.set i x) ∧ ∀ a, marks M0 (setA A i ps) (s.set i x) a → marks M0 A s a ∨ a ∈ ps := by
  have sub : ∀ a, marks M0 (setA A i ps) (s.set i x) a → marks M0 A s a ∨ a ∈ ps := fun a h => by
    rcases h with h | ⟨j, p, e, ha⟩
    · exact .inl (.inl h)
    · by_cases hj : i = j
      · subst hj; rw [setA_same] at ha; exact .inr ha
      · rw [owAt_set_ne hj] at e
        rw [setA_ne hj] at ha
        exact .inl (.inr ⟨j, p, e, ha⟩)
  have ext : Ext (marks M0 A s) (fun a => marks M0 A s a ∨ a ∈ ps) H := ⟨fun a m => .inl m, fun a m => m.elim .inl fun z => .inr (n a z)⟩
  have nA : ∀ j p a, owAt s j = some p → a ∈ A j → a ∉ ps := fun j p a e ha z => by
    obtain ⟨_, u, _, h2⟩ := r.ownG j p e
    obtain ⟨o, eo, mu⟩ := p.dom h2 a ha
    exact n a z o eo (NT.of_mut mu)
  refine ⟨⟨by rw [List.length_set, List.length_set]; exact r.len, r.same.trans g, r.dm0.mono g, fun j k l1 l2 a e1 e2 a1 a2 => ?_, fun j p e => ?_, fun j d' e' => ?_, r.tab.same g⟩, sub⟩
  · by_cases hj : i = j
    · by_cases hk : i = k
      · exact hj.symm.trans hk
      · subst hj
        rw [owAt_set_ne hk] at e2
        rw [setA_same] at a1
        rw [setA_ne hk] at a2
        exact absurd a1 (nA k l2 a e2 a2)
    · rw [owAt_set_ne hj] at e1
      rw [setA_ne hj] at a1
      by_cases hk : i = k
      · subst hk
        rw [setA_same] at a2
        exact absurd a2 (nA j l1 a e1 a1)
      · rw [owAt_set_ne hk] at e2
        rw [setA_ne hk] at a2
        exact r.injG j k l1 l2 a e1 e2 a1 a2
  · by_cases hj : i = j
    · subst hj
      have hl : i < s.length := by
        have := owAt_lt e
        rwa [List.length_set] at this
      rw [owAt_set_self hl, hx] at e
      cases e
      rw [setA_same]
      exact ⟨fun a ha => ⟨r.same.free (n a ha), r.dm0.fresh (n a ha)⟩, v, List.getElem?_set_self (by rw [r.len]; exact hl), q.weak rp sub⟩
    · rw [owAt_set_ne hj] at e
      obtain ⟨f, u, h1, h2⟩ := r.ownG j p e
      rw [setA_ne hj]
      exact ⟨f, u, by rw [List.getElem?_set_ne hj]; exact h1, p.weak (OP.same (p.ext h2 ext) g) sub⟩
  · obtain ⟨hj, e'⟩ := get_set_ro (own_not_ro hx) e'
    obtain ⟨u, h1, h2⟩ := r.ro j d' e'
    exact ⟨u, by rw [List.getElem?_set_ne hj]; exact h1, Rep.weak sub _ _ ((Rep.ext ext _ _ h2).same g)⟩
theorem RelS.setOwn {i : Nat} {p : Addr} {vs : List V} {l : List D} (r : RelS K H0 M0 A σ H s) (g : Same K H H1) (n : Fr H p) (e : H1 p = some (.lst vs)) (q : RepAll K (mark (marks M0 A s) p) H1 vs l) :
    RelS K H0 M0 (setA A i [p]) (σ.set i (some (.ref p))) H1 (s.set i (.own l)) ∧ ∀ a, marks M0 (setA A i [p]) (s.set i (.own l)) a → marks M0 A s a ∨ a = p := by
  obtain ⟨r2, sub⟩ := r.setNew (i := i) (ps := [p]) (v := .ref p) (x := .own l) (q := lstOP l) g rfl (fun b hb => by rw [List.mem_singleton.mp hb]; exact n) ⟨p, vs, rfl, rfl, e, trivial, RepAll.weak (fun a m => m.elim .inl fun z => .inr (List.mem_singleton.mp z)) _ _ q⟩
  exact ⟨r2, fun a m => (sub a m).elim .inl fun z => .inr (List.mem_singleton.mp z)⟩
/-- the frame's own thing is changed: what it owns may grow -/
theorem RelS.change {i : Nat} {x : Sl} {q q' : OP} {ps : List Addr} {v : V} (r : RelS K H0 M0 A σ H s) (e : owAt s i = some q) (hx : x.ow = some q') (k : Keep K (fun a => a ∈ A i) H H1) (n : ∀ p ∈ ps, p ∈ A i ∨ Fr H p) (dmn : ∀ a, marks M0 A s a → ∃ o, H1 a = some o ∧ MutO o) (hv : σ[i]? = some (some v)) (rp : q'.rep K (fun a => marks M0 A s a ∨ a ∈ ps) H1 ps v) :
    RelS K H0 M0 (setA A i ps) σ H1 (s.set i x) ∧ Frame K (marks M0 A s) H (marks M0 (setA A i ps) (s.set i x)) H1 := by
  have hl := owAt_lt e
  obtain ⟨f0, v0, _, rq⟩ := r.ownG i q e
  have kM : Keep K (marks M0 A s) H H1 := ⟨fun a o h nm t => k.app a o h (fun z => nm (.inr ⟨i, q, e, z⟩)) t, k.tab⟩
  have sub : ∀ a, marks M0 (setA A i ps) (s.set i x) a → marks M0 A s a ∨ a ∈ ps := fun a h => by
    rcases h with h | ⟨j, p, e', ha⟩
    · exact .inl (.inl h)
    · by_cases hj : i = j
      · subst hj; rw [setA_same] at ha; exact .inr ha
      · rw [owAt_set_ne hj] at e'
        rw [setA_ne hj] at ha
        exact .inl (.inr ⟨j, p, e', ha⟩)
  have sub2 : ∀ a, marks M0 A s a ∨ a ∈ ps → marks M0 A s a ∨ Fr H a := fun a m => m.elim .inl fun z => (n a z).elim (fun y => .inl (.inr ⟨i, q, e, y⟩)) .inr
  have ext : Ext (marks M0 A s) (fun a => marks M0 A s a ∨ a ∈ ps) H := ⟨fun a m => .inl m, sub2⟩
  have out : ∀ j p a, i ≠ j → owAt s j = some p → a ∈ A j → a ∉ ps := fun j p a hj e' ha z => by
    rcases n a z with y | y
    · exact hj (r.injG i j q p a e e' y ha)
    · obtain ⟨_, u, _, h2⟩ := r.ownG j p e'
      obtain ⟨o, eo, mu⟩ := p.dom h2 a ha
      exact y o eo (NT.of_mut mu)
  refine ⟨⟨by rw [List.length_set]; exact r.len, ⟨fun b o hb t => ?_, fun t => k.tab (r.same.tab t)⟩, fun a m => dmn a (.inl m), fun j k' l1 l2 a e1 e2 a1 a2 => ?_, fun j p e' => ?_, fun j d' e' => ?_, k.tab r.tab⟩, ⟨kM, fun a m => sub2 a (sub a m), dmn⟩⟩
  · refine k.app b o (r.same.app b o hb t) (fun z => ?_) t
    exact (f0 b z).1 o hb t
  · by_cases hj : i = j
    · by_cases hk : i = k'
      · exact hj.symm.trans hk
      · subst hj
        rw [owAt_set_ne hk] at e2
        rw [setA_same] at a1
        rw [setA_ne hk] at a2
        exact absurd a1 (out k' l2 a hk e2 a2)
    · rw [owAt_set_ne hj] at e1
      rw [setA_ne hj] at a1
      by_cases hk : i = k'
      · subst hk
        rw [setA_same] at a2
        exact absurd a2 (out j l1 a hj e1 a1)
      · rw [owAt_set_ne hk] at e2
        rw [setA_ne hk] at a2
        exact r.injG j k' l1 l2 a e1 e2 a1 a2
  · by_cases hj : i = j
    · subst hj
      rw [owAt_set_self hl, hx] at e'
      cases e'
      rw [setA_same]
      refine ⟨fun a ha => ?_, v, hv, q'.weak rp sub⟩
      rcases n a ha with y | y
      · exact f0 a y
      · exact ⟨r.same.free y, r.dm0.fresh y⟩
    · rw [owAt_set_ne hj] at e'
      obtain ⟨f, u, h1, h2⟩ := r.ownG j p e'
      rw [setA_ne hj]
      refine ⟨f, u, h1, p.weak (p.keep (p.ext h2 ext) ⟨fun a o h nm t => k.app a o h (fun z => nm (.inl (.inr ⟨i, q, e, z⟩))) t, k.tab⟩ fun a ha => ?_) sub⟩
      obtain ⟨o, eo, mu⟩ := p.dom h2 a ha
      rw [eo]
      exact k.app a o eo (fun z => hj (r.injG i j q p a e e' z ha)) (NT.of_mut mu)
  · obtain ⟨hj, e'⟩ := get_set_ro (own_not_ro hx) e'
    obtain ⟨u, h1, h2⟩ := r.ro j d' e'
    exact ⟨u, h1, Rep.weak sub _ _ (Rep.keep ⟨fun a o h nm t => k.app a o h (fun z => nm (.inl (.inr ⟨i, q, e, z⟩))) t, k.tab⟩ _ _ (Rep.ext ext _ _ h2))⟩
/-- one object of it is changed -/
theorem RelS.change1 {i : Nat} {x : Sl} {q q' : OP} {a : Addr} {o o' : HO} (r : RelS K H0 M0 A σ H s) (e : owAt s i = some q) (eA : A i = [a]) (ho : H a = some o) (mo : MutO o) (mo' : MutO o') (hx : x.ow = some q') (hv : σ[i]? = some (some (.ref a))) (rp : q'.rep K (marks M0 A s) (L2.upd H a o') [a] (.ref a)) :
    RelS K H0 M0 A σ (L2.upd H a o') (s.set i x) ∧ Frame K (marks M0 A s) H (marks M0 A (s.set i x)) (L2.upd H a o') := by
  have ma : a ∈ A i := by rw [eA]; exact List.mem_cons_self
  have hm : marks M0 A s a := .inr ⟨i, q, e, ma⟩
  have k : Keep K (fun b => b ∈ A i) H (L2.upd H a o') := keep_upd (M := fun b => b ∈ A i) ma ho mo
  have z := r.change (x := x) (q' := q') (ps := [a]) (v := .ref a) e hx k (fun p hp => .inl (by rw [eA]; exact hp)) (r.dm.upd mo') hv (q'.weak rp fun b m => m.elim (fun y => y) fun y => by rw [List.mem_singleton.mp y]; exact hm)
  have eS : setA A i [a] = A := by
    funext j
    by_cases hj : i = j
    · subst hj; rw [setA_same, eA]
    · rw [setA_ne hj]
  rw [eS] at z
  exact z
theorem marks_same {i : Nat} {x : Sl} {q q' : OP} (e : owAt s i = some q) (hx : x.ow = some q') (a : Addr) : marks M0 A (s.set i x) a ↔ marks M0 A s a := by
  have hl := owAt_lt e
  constructor
  · rintro (h | ⟨j, k, e', ha⟩)
    · exact .inl h
    · by_cases hj : i = j
      · subst hj; exact .inr ⟨i, q, e, ha⟩
      · rw [owAt_set_ne hj] at e'; exact .inr ⟨j, k, e', ha⟩
  · rintro (h | ⟨j, k, e', ha⟩)
    · exact .inl h
    · by_cases hj : i = j
      · subst hj; exact .inr ⟨i, q', by rw [owAt_set_self hl]; exact hx, ha⟩
      · exact .inr ⟨j, k, by rw [owAt_set_ne hj]; exact e', ha⟩
theorem marks_own {i : Nat} {l l' : List D} (e : s[i]? = some (.own l)) (a : Addr) : marks M0 A (s.set i (.own l')) a ↔ marks M0 A s a := marks_same (owAt_own e) rfl a
/-- the frame's own list is changed -/
theorem RelS.upd {i : Nat} {l l' : List D} {vs : List V} {a : Addr} (r : RelS K H0 M0 A σ H s) (e : s[i]? = some (.own l)) (eA : A i = [a]) (q : RepAll K (marks M0 A s) H vs l') :
    RelS K H0 M0 A σ (L2.upd H a (.lst vs)) (s.set i (.own l')) ∧ Frame K (marks M0 A s) H (marks M0 A (s.set i (.own l'))) (L2.upd H a (.lst vs)) := by
  obtain ⟨b, eA', h0, hm0, h1, us, h2, h3⟩ := r.ownL i l e
  obtain rfl : a = b := by rw [eA] at eA'; exact (List.cons.inj eA').1
  have hm : marks M0 A s a := .inr ⟨i, _, owAt_own e, by rw [eA]; exact List.mem_cons_self⟩
  have k : Keep K (marks M0 A s) H (L2.upd H a (.lst vs)) := keep_upd hm h2 trivial
  exact r.change1 (x := .own l') (q' := lstOP l') (owAt_own e) eA h2 trivial trivial rfl h1 ⟨a, vs, rfl, rfl, upd_same, trivial, RepAll.keep k _ _ q⟩
/-- it is the frame's own no more -/
theorem RelS.thaw {i : Nat} {q : OP} {d : D} {v : V} (r : RelS K H0 M0 A σ H s) (e : owAt s i = some q) (hv : σ[i]? = some (some v)) (rp : ∀ M', (∀ a, M' a → marks M0 A s a) → (∀ a ∈ A i, ¬ M' a) → Rep K M' H v d) : RelS K H0 M0 A σ H (s.set i (.ro d)) := by
  obtain ⟨f, _, _, rq⟩ := r.ownG i q e
  have hl := owAt_lt e
  have sub : ∀ a, marks M0 A (s.set i (.ro d)) a → marks M0 A s a := fun a => marks_set_sub a
  have nm : ∀ a ∈ A i, ¬ marks M0 A (s.set i (.ro d)) a := fun a ha => by
    rintro (m | ⟨j, k, e', hb⟩)
    · exact (f a ha).2 m
    · obtain ⟨hj, e'⟩ := owAt_set rfl e'
      exact hj (r.injG i j _ _ a e e' ha hb)
  refine ⟨by rw [List.length_set]; exact r.len, r.same, r.dm0, fun j k l1 l2 a e1 e2 => ?_, fun j p e' => ?_, fun j d' e' => ?_, r.tab⟩
  · exact r.injG j k l1 l2 a (owAt_set rfl e1).2 (owAt_set rfl e2).2
  · obtain ⟨hj, e'⟩ := owAt_set rfl e'
    obtain ⟨g, u, h1, h2⟩ := r.ownG j p e'
    exact ⟨g, u, h1, p.weak h2 sub⟩
  · by_cases hj : i = j
    · subst hj
      rw [List.getElem?_set_self hl] at e'
      cases e'
      exact ⟨v, hv, rp _ sub nm⟩
    · rw [List.getElem?_set_ne hj] at e'
      obtain ⟨u, h1, h2⟩ := r.ro j d' e'
      exact ⟨u, h1, Rep.weak sub _ _ h2⟩
theorem RelS.freeze {i : Nat} {l : List D} (r : RelS K H0 M0 A σ H s) (e : s[i]? = some (.own l)) : RelS K H0 M0 A σ H (s.set i (.ro (.lst l))) := by
  obtain ⟨a, eA, h0, hm0, h1, vs, h2, h3⟩ := r.ownL i l e
  exact r.thaw (owAt_own e) h1 fun M' sub nm => .lst h2 (nm a (by rw [eA]; exact List.mem_cons_self)) (RepAll.weak sub _ _ h3)
theorem RelS.freezeD {i : Nat} {d : D} (r : RelS K H0 M0 A σ H s) (e : s[i]? = some (.odt d)) : RelS K H0 M0 A σ H (s.set i (.ro d)) := by
  obtain ⟨f, v, h1, rp⟩ := r.ownG i _ (owAt_of e rfl)
  refine r.thaw (owAt_of e rfl) h1 fun M' sub nm => ?_
  cases d with
  | dct ks l =>
    obtain ⟨a, vs, eA, rfl, h2, hk, h3⟩ := rp
    exact .dct h2 hk (nm a (by rw [eA]; exact List.mem_cons_self)) (RepAll.weak sub _ _ h3)
  | dcT ks l =>
    obtain ⟨a, vs, eA, rfl, h2, hk, h3⟩ := rp
    exact .dcT h2 hk (nm a (by rw [eA]; exact List.mem_cons_self)) (RepAll.weak sub _ _ h3)
  | _ => exact rp.elim
/-- a list that waits to be the frame's own -/
theorem RelS.pend {P : List Addr} (r : RelS K H0 M0 A σ H s) (g : Same K H H1) (n : ∀ p ∈ P, Fr H p) (d : ∀ p ∈ P, ∃ o, H1 p = some o ∧ MutO o) : RelS K H0 (fun a => M0 a ∨ a ∈ P) A σ H1 s := by
  have ext : Ext (marks M0 A s) (marks (fun a => M0 a ∨ a ∈ P) A s) H := ⟨fun a m => m.elim (fun z => .inl (.inl z)) .inr, fun a m => by
    rcases m with (m | m) | m
    · exact .inl (.inl m)
    · exact .inr (n a m)
    · exact .inl (.inr m)⟩
  refine ⟨r.len, r.same.trans g, fun a m => m.elim (r.dm0.mono g a) (d a), r.injG, fun i q e => ?_, fun i d e => ?_, r.tab.same g⟩
  · obtain ⟨f, v, h1, h2⟩ := r.ownG i q e
    refine ⟨fun a ha => ⟨(f a ha).1, fun m => m.elim (f a ha).2 fun z => ?_⟩, v, h1, OP.same (q.ext h2 ext) g⟩
    obtain ⟨o, eo, mu⟩ := q.dom h2 a ha
    exact n _ z o eo (NT.of_mut mu)
  · obtain ⟨v, h1, h2⟩ := r.ro i d e
    exact ⟨v, h1, (Rep.ext ext _ _ h2).same g⟩
theorem RelS.takeP {P : List Addr} {i : Nat} {p : Addr} {vs : List V} {l : List D} (r : RelS K H0 (fun a => M0 a ∨ a ∈ p :: P) A σ H s) (np : p ∉ P) (n0 : Fr H0 p) (nm : ¬ M0 p) (e : H p = some (.lst vs)) (q : RepAll K (marks (fun a => M0 a ∨ a ∈ p :: P) A s) H vs l) :
    RelS K H0 (fun a => M0 a ∨ a ∈ P) (setA A i [p]) (σ.set i (some (.ref p))) H (s.set i (.own l)) ∧ ∀ a, marks (fun a => M0 a ∨ a ∈ P) (setA A i [p]) (s.set i (.own l)) a → marks (fun a => M0 a ∨ a ∈ p :: P) A s a := by
  have sub : ∀ a, marks (fun a => M0 a ∨ a ∈ P) (setA A i [p]) (s.set i (.own l)) a → marks (fun a => M0 a ∨ a ∈ p :: P) A s a := fun a h => by
    rcases h with (h | h) | ⟨j, l', e', ha⟩
    · exact .inl (.inl h)
    · exact .inl (.inr (List.mem_cons_of_mem _ h))
    · by_cases hj : i = j
      · subst hj; rw [setA_same] at ha; rw [List.mem_singleton.mp ha]; exact .inl (.inr List.mem_cons_self)
      · rw [owAt_set_ne hj] at e'
        rw [setA_ne hj] at ha
        exact .inr ⟨j, l', e', ha⟩
  have nA : ∀ j l', owAt s j = some l' → p ∉ A j := fun j l' e' z => by
    obtain ⟨f, _⟩ := r.ownG j l' e'
    exact (f p z).2 (.inr List.mem_cons_self)
  refine ⟨⟨by rw [List.length_set, List.length_set]; exact r.len, r.same, fun a m => r.dm0 a (m.elim .inl fun z => .inr (List.mem_cons_of_mem _ z)), fun j k l1 l2 a e1 e2 a1 a2 => ?_, fun j l' e' => ?_, fun j d' e' => ?_, r.tab⟩, sub⟩
  · by_cases hj : i = j
    · by_cases hk : i = k
      · exact hj.symm.trans hk
      · subst hj
        rw [owAt_set_ne hk] at e2
        rw [setA_same] at a1
        rw [setA_ne hk] at a2
        rw [List.mem_singleton.mp a1] at a2
        exact absurd a2 (nA k l2 e2)
    · rw [owAt_set_ne hj] at e1
      rw [setA_ne hj] at a1
      by_cases hk : i = k
      · subst hk
        rw [setA_same] at a2
        rw [List.mem_singleton.mp a2] at a1
        exact absurd a1 (nA j l1 e1)
      · rw [owAt_set_ne hk] at e2
        rw [setA_ne hk] at a2
        exact r.injG j k l1 l2 a e1 e2 a1 a2
  · by_cases hj : i = j
    · subst hj
      have hl : i < s.length := by
        have := owAt_lt e'
        rwa [List.length_set] at this
      rw [owAt_set_self hl] at e'
      cases e'
      rw [setA_same]
      refine ⟨fun a ha => ?_, .ref p, List.getElem?_set_self (by rw [r.len]; exact hl), p, vs, rfl, rfl, e, trivial, RepAll.weak sub _ _ q⟩
      rw [List.mem_singleton.mp ha]
      exact ⟨n0, fun m => m.elim nm np⟩
    · rw [owAt_set_ne hj] at e'
      obtain ⟨f, u, h1, h2⟩ := r.ownG j l' e'
      rw [setA_ne hj]
      exact ⟨fun a ha => ⟨(f a ha).1, fun m => (f a ha).2 (m.elim .inl fun z => .inr (List.mem_cons_of_mem _ z))⟩, u, by rw [List.getElem?_set_ne hj]; exact h1, l'.weak h2 sub⟩
  · obtain ⟨hj, e'⟩ := get_set_ro (own_not_ro (x := .own l) (q := lstOP l) rfl) e'
    obtain ⟨u, h1, h2⟩ := r.ro j d' e'
    exact ⟨u, by rw [List.getElem?_set_ne hj]; exact h1, Rep.weak sub _ _ h2⟩
theorem RelS.unP (r : RelS K H0 (fun a => M0 a ∨ a ∈ ([] : List Addr)) A σ H s) : RelS K H0 M0 A σ H s := by
  have sub : ∀ a, marks M0 A s a → marks (fun a => M0 a ∨ a ∈ ([] : List Addr)) A s a := fun a m => m.elim (fun z => .inl (.inl z)) .inr
  exact ⟨r.len, r.same, fun a m => r.dm0 a (.inl m), r.injG, fun i l e => by
    obtain ⟨f, v, h1, h2⟩ := r.ownG i l e
    exact ⟨fun a ha => ⟨(f a ha).1, fun m => (f a ha).2 (.inl m)⟩, v, h1, l.weak h2 sub⟩, fun i d e => by
    obtain ⟨v, h1, h2⟩ := r.ro i d e
    exact ⟨v, h1, Rep.weak sub _ _ h2⟩, r.tab⟩
end
end PL

namespace PL
open PySem PySem.Spec PyProof.Rows L2

/-! ## statements -/
inductive Out where
  | nx (s : SE) | rt (d : D) | exc (c : Str) | stuck
/-- a statement read by a rule of its own -/
structure AtomS where
  chk : List Str → Scope → Stmt → Bool
  run : SE → Out
mutual
inductive S where
  | nil
  | cons (a : S1) (r : S)
  | frz (i : Nat) (r : S)
inductive S1 where
  | set (h : Bool) (i : Nat) (e : E)
  | own (h : Bool) (i : Nat) (e : E)
  | unp (h : Bool) (is : List Nat) (e : E)
  | par (h : Bool) (ts : List (Bool × Nat)) (as : EL)
  | expr (e : E)
  | app (h : Bool) (i : Nat) (e : E)
  | extd (h : Bool) (i : Nat) (e : E)
  | six (h : Bool) (i : Nat) (x e : E)
  | pop (i : Nat)
  | ret (e : E)
  | ite (c : E) (a b : S)
  | for_ (tg : Tg) (it : IT) (b : S)
  | while_ (n : Nat) (c : E) (b : S)
  | raise (c : Str)
  | never
  | atom (q : AtomS)
end
def outE {α : Type} : Res α → (α → Out) → Out
  | .ok a, f => f a
  | .exc c, _ => .exc c
  | .stuck, _ => .stuck
def seqO : Out → (SE → Out) → Out
  | .nx s, f => f s
  | .rt d, _ => .rt d
  | .exc c, _ => .exc c
  | .stuck, _ => .stuck
def setAllS : List Nat → List D → SE → Option SE
  | [], [], s => some s
  | i :: is, d :: ds, s => setAllS is ds (s.set i (.ro d))
  | _, _, _ => none
def setTgS : Tg → D → SE → Option SE
  | .name i, d, s => some (s.set i (.ro d))
  | .tup is, .tup ds, s => setAllS is ds s
  | .pr i is, .tup [d, .tup ds], s => setAllS is ds (s.set i (.ro d))
  | _, _, _ => none
def ofS : Option SE → Out
  | some s => .nx s
  | none => .stuck
def forM (f : SE → Out) (tg : Tg) : List D → SE → Out
  | [], s => .nx s
  | d :: ds, s => match setTgS tg d s with
    | some s1 => seqO (f s1) (forM f tg ds)
    | none => .stuck
def whileM (c : SE → Res Bool) (f : SE → Out) : Nat → SE → Out
  | 0, _ => .stuck
  | n + 1, s => outE (c s) fun t => if t then seqO (f s) (whileM c f n) else .nx s
def parS (h : Bool) : List (Bool × Nat) → List D → SE → Out
  | [], [], s => .nx s
  | (false, i) :: ts, d :: ds, s => if okFor h d then parS h ts ds (s.set i (.ro d)) else .stuck
  | (true, i) :: ts, .lst l :: ds, s => if h || flatAll l then parS h ts ds (s.set i (.own l)) else .stuck
  | _, _, _ => .stuck
def ownS (h : Bool) (i : Nat) (s : SE) : D → Out
  | .lst l => if h || flatAll l then .nx (s.set i (.own l)) else .stuck
  | _ => .stuck
def unpS (h : Bool) (is : List Nat) (s : SE) : D → Out
  | .tup ds => if h || flatAll ds then ofS (setAllS is ds s) else .stuck
  | .lst ds => if h || flatAll ds then ofS (setAllS is ds s) else .stuck
  | _ => .stuck
def appD (h : Bool) (i : Nat) (s : SE) (l : List D) (d : D) : Out := if okFor h d && decide (l.length < sizeD) then .nx (s.set i (.own (l ++ [d]))) else .stuck
def extD (h : Bool) (i : Nat) (s : SE) (l : List D) : D → Out
  | .lst es => if (h || flatAll es) && decide (l.length + es.length < sizeD) then .nx (s.set i (.own (l ++ es))) else .stuck
  | _ => .stuck
def sixD (h : Bool) (i : Nat) (s : SE) (l : List D) (d : D) : D → Out
  | .int k => match ixN l.length k with
    | some j => if okFor h d then .nx (s.set i (.own (l.set j d))) else .stuck
    | none => .stuck
  | _ => .stuck
/-- the frame's own list at a slot -/
def withOwn (s : SE) (i : Nat) (f : List D → Out) : Out := match s[i]? with
  | some (.own l) => f l
  | _ => .stuck
def popD (i : Nat) (s : SE) (l : List D) : Out := if l.isEmpty then .stuck else .nx (s.set i (.own l.dropLast))
mutual
def run : S → SE → Out
  | .nil, s => .nx s
  | .cons a r, s => seqO (run1 a s) (fun s => run r s)
  | .frz i r, s => match s[i]? with | some (.own l) => run r (s.set i (.ro (.lst l))) | some (.odt d) => run r (s.set i (.ro d)) | _ => run r s
def run1 : S1 → SE → Out
  | .set h i e, s => outE (ev e (see h s)) fun d => if okFor h d then .nx (s.set i (.ro d)) else .stuck
  | .own h i e, s => outE (ev e (see h s)) fun d => ownS h i s d
  | .unp h is e, s => outE (ev e (see h s)) fun d => unpS h is s d
  | .par h ts as, s => outE (noExc (evL as (see h s))) fun ds => parS h ts ds s
  | .expr e, s => outE (ev e (full s)) fun _ => .nx s
  | .app h i e, s => withOwn s i fun l => outE (ev e (see h s)) fun d => appD h i s l d
  | .extd h i e, s => withOwn s i fun l => outE (ev e (see h s)) fun d => extD h i s l d
  | .six h i x e, s => withOwn s i fun l => outE (ev e (see h s)) fun d => outE (noExc (ev x (full s))) fun k => sixD h i s l d k
  | .pop i, s => withOwn s i fun l => popD i s l
  | .ret e, s => outE (ev e (full s)) fun d => .rt d
  | .ite c a b, s => outE ((ev c (full s)).bind truth) fun t => if t then run a s else run b s
  | .for_ tg it b, s => outE (evI it (hid s)) fun ds => forM (fun s => run b s) tg ds s
  | .while_ n c b, s => whileM (fun s => (ev c (full s)).bind truth) (fun s => run b s) n s
  | .raise c, _ => .exc c
  | .never, _ => .stuck
  | .atom q, s => q.run s
end
/-! ### their text -/
def isComp : E → Bool
  | .comp _ _ _ _ _ => true
  | _ => false
def notComp : Expr → Bool
  | .ListComp _ _ _ _ => false | .SetComp _ _ _ _ => false | .DictComp _ _ _ _ _ => false
  | _ => true
def notTup : Expr → Bool
  | .Tuple _ _ _ => false
  | _ => true
def lclB (sc : Scope) (x : Str) : Bool := match sc.names.lookup x with | some .local => true | _ => false
def nameOf : Expr → Option (Str × Pos)
  | .Name x p => some (x, p)
  | _ => none
/-- two or three plain local names on one line, stored from the right -/
def swapB (sc : Scope) (ts vs : List Expr) : Bool :=
  match ts with
  | [.Name x p, .Name y q] => lclB sc x && lclB sc y && (p.line == q.line) && !(x == y) && !(vs.all (foldedForSure 8)) && !(vs.all (constantsAlone 8)) && vs.all notStar && decide (vs.length = 2)
  | [.Name x p, .Name y q, .Name z r] => lclB sc x && lclB sc y && lclB sc z && (p.line == q.line) && (p.line == r.line) && !(x == y) && !(x == z) && !(y == z) && !(vs.all (foldedForSure 8)) && !(vs.all (constantsAlone 8)) && vs.all notStar && decide (vs.length = 3)
  | _ => false
/-- the stores go from the left -/
def noLcl (sc : Scope) : Expr → Bool
  | .Name x _ => !lclB sc x
  | _ => true
def noSwapB (sc : Scope) (ts vs : List Expr) : Bool := vs.all (foldedForSure 8) || !(ts.length == 2 || ts.length == 3) || ts.any (noLcl sc)
def parOk : List (Bool × Nat) → EL → Bool
  | [], .nil => true
  | (b, _) :: ts, .cons e r => (!b || freshE e) && parOk ts r
  | _, _ => false
def asName : Stmt → Option (Str × Pos × Expr)
  | .Assign [.Name x p] v _ => some (x, p, v)
  | _ => none
def asTup : Stmt → Option (List Expr × Expr)
  | .Assign [.Tuple ts _ _] v _ => some (ts, v)
  | _ => none
def asSub : Stmt → Option (Str × Pos × Expr × Expr)
  | .Assign [.Subscript (.Name x p) y _] v _ => some (x, p, y, v)
  | _ => none
def asMeth : Stmt → Option (Str × Pos × Str × Pos × List Expr × Pos)
  | .Expr (.Call (.Attribute (.Name x p) m ap) as [] cp) _ => some (x, p, m, ap, as, cp)
  | _ => none
def asExpr : Stmt → Option Expr
  | .Expr v _ => some v
  | _ => none
def asRet : Stmt → Option Expr
  | .Return (some v) _ => some v
  | _ => none
def asIf : Stmt → Option (Expr × List Stmt × List Stmt)
  | .If c a b _ => some (c, a, b)
  | _ => none
def asFor : Stmt → Option (Expr × Expr × List Stmt)
  | .For t i b [] _ => some (t, i, b)
  | _ => none
def asWhile : Stmt → Option (Expr × List Stmt)
  | .While c b [] _ => some (c, b)
  | _ => none
def asRaise : Stmt → Option Str
  | .Raise (some (.Call (.Name x _) [.Constant (.str _) _ _] [] _)) none _ => some x
  | _ => none
def tupE : Expr → Option (List Expr)
  | .Tuple vs _ _ => some vs
  | _ => none
def notSlice : Expr → Bool
  | .Slice _ _ _ _ => false
  | _ => true
def chkV (N : List Str) (sc : Scope) (i : Nat) (x : Str) : Bool := decide (N[i]? = some x) && visB sc x && okName x
def chkM (N : List Str) (sc : Scope) (i : Nat) (e : E) (name : Str) (st : Stmt) : Bool := match asMeth st with
  | some (x, _, m, ap, [v], cp) => chkV N sc i x && decide (m = name) && chk N sc e v && notStar v && (ap.endLine == cp.line)
  | _ => false
def oB {α : Type} (o : Option α) (f : α → Bool) : Bool := match o with | some a => f a | none => false
mutual
def chkS (N : List Str) (sc : Scope) : S → List Stmt → Bool
  | .nil, [] => true
  | .cons a r, st :: sts => chkS1 N sc a st && chkS N sc r sts
  | .frz _ r, sts => chkS N sc r sts
  | _, _ => false
def chkS1 (N : List Str) (sc : Scope) : S1 → Stmt → Bool
  | .set _ i e, st => oB (asName st) fun t => chkNm N sc i (.Name t.1 t.2.1) && chk N sc e t.2.2 && (isComp e || notComp t.2.2)
  | .own _ i e, st => oB (asName st) fun t => chkNm N sc i (.Name t.1 t.2.1) && chk N sc e t.2.2 && (isComp e || notComp t.2.2) && freshE e
  | .unp _ is e, st => oB (asTup st) fun t => chkNms N sc is t.1 && chk N sc e t.2 && notTup t.2
  | .par _ ts as, st => oB (asTup st) fun t => oB (tupE t.2) fun vs => chkNms N sc (ts.map fun x => x.2) t.1 && chkL N sc as vs && parOk ts as && decide ((ts.map fun x => x.2).Nodup) && (swapB sc t.1 vs || noSwapB sc t.1 vs) && decide (ts.length ≤ 1000)
  | .expr e, st => oB (asExpr st) fun v => chk N sc e v && notComp v
  | .app _ i e, st => chkM N sc i e "append" st
  | .extd _ i e, st => chkM N sc i e "extend" st
  | .six _ i ix e, st => oB (asSub st) fun t => chkV N sc i t.1 && chk N sc ix t.2.2.1 && chk N sc e t.2.2.2 && notSlice t.2.2.1
  | .pop i, st => oB (asMeth st) fun t => chkV N sc i t.1 && decide (t.2.2.1 = "pop") && (t.2.2.2.1.endLine == t.2.2.2.2.2.line) && t.2.2.2.2.1.isEmpty
  | .ret e, st => oB (asRet st) fun v => chk N sc e v
  | .ite c a b, st => oB (asIf st) fun t => chk N sc c t.1 && chkS N sc a t.2.1 && chkS N sc b t.2.2
  | .for_ tg it b, st => oB (asFor st) fun t => chkTg N sc tg t.1 && chkI N sc it t.1 t.2.1 && chkS N sc b t.2.2
  | .while_ _ c b, st => oB (asWhile st) fun t => chk N sc c t.1 && chkS N sc b t.2
  | .raise c, st => oB (asRaise st) fun x => decide (c = x) && glB sc x && okName x
  | .never, _ => true
  | .atom q, st => q.chk N sc st
end
theorem asName_eq {st : Stmt} {x : Str} {p : Pos} {v : Expr} (h : asName st = some (x, p, v)) : ∃ pos, st = .Assign [.Name x p] v pos := by
  unfold asName at h
  split at h
  · cases h; exact ⟨_, rfl⟩
  · cases h
theorem asTup_eq {st : Stmt} {ts : List Expr} {v : Expr} (h : asTup st = some (ts, v)) : ∃ k p pos, st = .Assign [.Tuple ts k p] v pos := by
  unfold asTup at h
  split at h
  · cases h; exact ⟨_, _, _, rfl⟩
  · cases h
theorem asSub_eq {st : Stmt} {x : Str} {p : Pos} {y v : Expr} (h : asSub st = some (x, p, y, v)) : ∃ q pos, st = .Assign [.Subscript (.Name x p) y q] v pos := by
  unfold asSub at h
  split at h
  · cases h; exact ⟨_, _, rfl⟩
  · cases h
theorem asMeth_eq {st : Stmt} {x m : Str} {p ap cp : Pos} {as : List Expr} (h : asMeth st = some (x, p, m, ap, as, cp)) : ∃ pos, st = .Expr (.Call (.Attribute (.Name x p) m ap) as [] cp) pos := by
  unfold asMeth at h
  split at h
  · cases h; exact ⟨_, rfl⟩
  · cases h
theorem asExpr_eq {st : Stmt} {v : Expr} (h : asExpr st = some v) : ∃ pos, st = .Expr v pos := by
  unfold asExpr at h
  split at h
  · cases h; exact ⟨_, rfl⟩
  · cases h
theorem asRet_eq {st : Stmt} {v : Expr} (h : asRet st = some v) : ∃ pos, st = .Return (some v) pos := by
  unfold asRet at h
  split at h
  · cases h; exact ⟨_, rfl⟩
  · cases h
theorem asIf_eq {st : Stmt} {c : Expr} {a b : List Stmt} (h : asIf st = some (c, a, b)) : ∃ pos, st = .If c a b pos := by
  unfold asIf at h
  split at h
  · cases h; exact ⟨_, rfl⟩
  · cases h
theorem asFor_eq {st : Stmt} {t i : Expr} {b : List Stmt} (h : asFor st = some (t, i, b)) : ∃ pos, st = .For t i b [] pos := by
  unfold asFor at h
  split at h
  · cases h; exact ⟨_, rfl⟩
  · cases h
theorem asWhile_eq {st : Stmt} {c : Expr} {b : List Stmt} (h : asWhile st = some (c, b)) : ∃ pos, st = .While c b [] pos := by
  unfold asWhile at h
  split at h
  · cases h; exact ⟨_, rfl⟩
  · cases h
theorem asRaise_eq {st : Stmt} {x : Str} (h : asRaise st = some x) : ∃ p m j p2 p3 pos, st = .Raise (some (.Call (.Name x p) [.Constant (.str m) j p2] [] p3)) none pos := by
  unfold asRaise at h
  split at h
  · cases h; exact ⟨_, _, _, _, _, _, rfl⟩
  · cases h
theorem tupE_eq {e : Expr} {vs : List Expr} (h : tupE e = some vs) : ∃ k p, e = .Tuple vs k p := by
  unfold tupE at h
  split at h
  · cases h; exact ⟨_, _, rfl⟩
  · cases h
/-! ### what is taken for granted -/
structure RaiseC (K : PySem.W.Frag) (mg : Str → Option Value) (c : Str) : Prop where
  ex : ∃ C, mg c = some (.ref C) ∧ PySem.W.excIn K C [.type "ValueError", .type "Exception", .type "BaseException", .type "object"] "ValueError.__new__" = true ∧ PySem.W.keepIn K (.ref C) = true ∧ PySem.W.subIn K (.ref C) (.type "BaseException") = some true ∧ PySem.W.typeIn K (.ref C) = some (.type "type")
structure XOkS (X : Cx) (k : Nat) (W : WX) : Prop extends XOk X k W where
  fnA : ∀ x, X.fn x = true
  po : PassesOwn (model X.prog X.w) X.A X.env X.xe
  kind : X.env.scope.kind = .function
  ex0 : X.ex = []
  stk : X.stack = X.env :: X.outer
  frm : X.env.frame = some X.env.locals
/-! ### readings -/
def OutS (X : Cx) (W : WX) (H0 : Hp) (M0 : Mk) (M : Mk) (H : Hp) (Dn : Ends) : Out → Prop
  | .nx s' => ∀ σ' H' A', RelS X.K H0 M0 A' σ' H' s' → Frame X.K M H (marks M0 A' s') H' → Dn.nx σ' H'
  | .rt d => ∀ v H', Same X.K H0 H' → Rep X.K M0 H' v d → Dn.rt v H'
  | .exc c => ∀ σ' H', Same X.K H0 H' → Frame X.K M H M0 H' → W (excV X.mg c) none σ' H'
  | .stuck => False
def tSS (X : Cx) (W : WX) (H0 : Hp) (M0 : Mk) (m : SE → Out) : TS := fun Dn σ H => ∃ A s, RelS X.K H0 M0 A σ H s ∧ OutS X W H0 M0 (marks M0 A s) H Dn (m s)
def AtomSG (P : Str → (List D → Res D) → Prop) (C : Str → Cn → Prop) (R : Str → Prop) (q : AtomS) : Prop := ∀ X k W H0 M0, XOkS X k W → P = GoodX X k → C = GC (gm X k) → R = RaiseC X.K X.mg → ∀ st, q.chk X.N X.env.scope st = true → PS X st (tSS X W H0 M0 q.run)
mutual
def goodS (P : Str → (List D → Res D) → Prop) (C : Str → Cn → Prop) (R : Str → Prop) : S → Prop
  | .nil => True
  | .cons a r => goodS1 P C R a ∧ goodS P C R r
  | .frz _ r => goodS P C R r
def goodS1 (P : Str → (List D → Res D) → Prop) (C : Str → Cn → Prop) (R : Str → Prop) : S1 → Prop
  | .set _ _ e => good P C e
  | .own _ _ e => good P C e
  | .unp _ _ e => good P C e
  | .par _ _ as => goodL P C as
  | .expr e => good P C e
  | .app _ _ e => good P C e
  | .extd _ _ e => good P C e
  | .six _ _ x e => good P C x ∧ good P C e
  | .pop _ => True
  | .ret e => good P C e
  | .ite c a b => good P C c ∧ goodS P C R a ∧ goodS P C R b
  | .for_ _ it b => goodI P C it ∧ goodS P C R b
  | .while_ _ c b => good P C c ∧ goodS P C R b
  | .raise c => R c
  | .never => True
  | .atom q => AtomSG P C R q
end
section
variable {X : Cx} {W : WX} {H0 : Hp} {M0 : Mk}
theorem ps_weak {st : Stmt} {t t' : TS} (h : PS X st t) (w : ∀ Dn σ H, t' Dn σ H → t Dn σ H) : PS X st t' := ⟨fun pins s σ H Dn I q => h.run pins s σ H Dn I (w Dn σ H q)⟩
theorem pss_weak {st : List Stmt} {t t' : TS} (h : PSs X st t) (w : ∀ Dn σ H, t' Dn σ H → t Dn σ H) : PSs X st t' := ⟨fun pins s σ H Dn I q => h.run pins s σ H Dn I (w Dn σ H q)⟩
/-- an expression inside a statement -/
theorem see_out {h : Bool} {A : Nat → List Addr} {s : SE} {σ : L2.St} {H : Hp} {Dn : Ends} {m : En → Res D} {f : D → Out} {Q : VK} (r : RelS X.K H0 M0 A σ H s) (o : OutS X W H0 M0 (marks M0 A s) H Dn (outE (m (see h s)) f))
    (hq : ∀ d v H', m (see h s) = .ok d → Same X.K H H' → Rep X.K (if h then marks M0 A s else M0) H' v d → RelS X.K H0 M0 A σ H' s → OutS X W H0 M0 (marks M0 A s) H Dn (f d) → Q v H') : tS X W m σ H Q := by
  refine ⟨if h then marks M0 A s else M0, see h s, ?_, ?_, ?_⟩
  · cases h
    · exact r.dmM0
    · exact r.dm
  · cases h
    · exact r.full
    · exact r.hid
  · cases e : m (see h s) with
    | ok d =>
      rw [e] at o
      exact fun v H' s' rv => hq d v H' e s' rv (r.grow s') o
    | exc c =>
      rw [e] at o
      exact fun H' s' => o σ H' (r.same.trans s') (Frame.grow r.dm s' fun a => .inl)
    | stuck => rw [e] at o; exact o
theorem full_out {A : Nat → List Addr} {s : SE} {σ : L2.St} {H : Hp} {Dn : Ends} {m : En → Res D} {f : D → Out} {Q : VK} (r : RelS X.K H0 M0 A σ H s) (o : OutS X W H0 M0 (marks M0 A s) H Dn (outE (m (full s)) f))
    (hq : ∀ d v H', m (full s) = .ok d → Same X.K H H' → Rep X.K M0 H' v d → RelS X.K H0 M0 A σ H' s → OutS X W H0 M0 (marks M0 A s) H Dn (f d) → Q v H') : tS X W m σ H Q :=
  see_out (h := false) r o fun d v H' e s' rv => hq d v H' e s' rv
theorem rep_ok {h : Bool} {A : Nat → List Addr} {s : SE} {σ : L2.St} {H : Hp} {d : D} {v : V} (r : RelS X.K H0 M0 A σ H s) (q : Rep X.K (if h then marks M0 A s else M0) H v d) (k : okFor h d = true) : Rep X.K (marks M0 A s) H v d := by
  cases h with
  | true => exact q
  | false => exact Rep.flat r.dm d v (by simpa [okFor] using k) q
theorem repAll_ok {h : Bool} {A : Nat → List Addr} {s : SE} {σ : L2.St} {H : Hp} {ds : List D} {vs : List V} (r : RelS X.K H0 M0 A σ H s) (q : RepAll X.K (if h then marks M0 A s else M0) H vs ds) (k : (h || flatAll ds) = true) : RepAll X.K (marks M0 A s) H vs ds := by
  cases h with
  | true => exact q
  | false => exact RepAll.flat r.dm ds vs (by simpa using k) q
theorem OutS.mono {M M1 : Mk} {H H1 : Hp} {Dn : Ends} {o : Out} (q : OutS X W H0 M0 M H Dn o) (f : Frame X.K M H M1 H1) : OutS X W H0 M0 M1 H1 Dn o := by
  cases o with
  | nx s => exact fun σ' H' A' r g => q σ' H' A' r (f.trans g)
  | rt d => exact q
  | exc c => exact fun σ' H' s' g => q σ' H' s' (f.trans g)
  | stuck => exact q
theorem s_seq {m1 m2 : SE → Out} {Dn : Ends} {σ : L2.St} {H : Hp} (q : tSS X W H0 M0 (fun s => seqO (m1 s) m2) Dn σ H) : tSeq (tSS X W H0 M0 m1) (tSS X W H0 M0 m2) Dn σ H := by
  obtain ⟨A, s, r, o⟩ := q
  refine ⟨A, s, r, ?_⟩
  dsimp only at o
  cases e : m1 s with
  | nx s1 =>
    rw [e] at o
    intro σ1 H1 A1 r1 f1
    exact ⟨A1, s1, r1, OutS.mono o f1⟩
  | rt d => rw [e] at o; exact o
  | exc c => rw [e] at o; exact o
  | stuck => rw [e] at o; exact o
end
end PL

namespace PL
open PySem PySem.Spec PyProof.Rows L2

section
variable {X : Cx} {W : WX} {H0 : Hp} {M0 : Mk} {k : Nat}
theorem XOkS.hf (xo : XOkS X k W) : ∀ x, locB X.env.scope x = true → Loc X.env.scope x ∧ (X.fn x = true ∨ X.env.scope.names.lookup x = some .local) := fun x h => ⟨loc_of h, .inl (xo.fnA x)⟩
theorem swaps_no {v : Expr} {t : Option Expr} {l : Nat} {env : PySem.Env} (h : notComp v = true) : swapsWith v t l env = pure false := by
  cases v <;> first | rfl | cases h
/-- x = v, whatever v is -/
theorem ps_setG {i : Nat} {x : Str} {p : Pos} {v : Expr} {pos : Pos} {e : E} (xo : XOkS X k W) (hn : chkNm X.N X.env.scope i (.Name x p) = true) (g : good (GoodX X k) (GC (gm X k)) e) (hc : chk X.N X.env.scope e v = true) (hk : (isComp e || notComp v) = true) :
    PS X (.Assign [.Name x p] v pos) (tAsg (tS X W (ev e)) (gName i)) ∧ (freshE e = true → PS X (.Assign [.Name x p] v pos) (tAsg (tF X W (ev e)) (gName i))) := by
  have hn' : X.N[i]? = some x ∧ locB X.env.scope x = true := by simpa [chkNm] using hn
  obtain ⟨h1, h2⟩ := hn'
  have se := snd_e e xo.toXOk g v hc
  by_cases hv : notComp v = true
  · exact ⟨ps_set xo.nd h1 (loc_of h2) se.pe (swaps_no hv) (.inl (xo.fnA x)), fun f => ps_set xo.nd h1 (loc_of h2) (se.fr f) (swaps_no hv) (.inl (xo.fnA x))⟩
  · have hk' : isComp e = true := by
      cases q : isComp e with
      | true => rfl
      | false => rw [q] at hk; exact absurd (by simpa using hk) hv
    cases e with
    | comp own tg it cond elt =>
      match v, hc with
      | .ListComp x0 [⟨t, it', ifs, 0⟩] scope p', hc =>
        have h' : (((((blkC X.N X.env.scope scope own = true ∧ chkTg X.N scope tg t = true) ∧ tgIn (own.map (·.2)) tg = true) ∧ chkI X.N X.env.scope it t it' = true) ∧ chkO X.N (relS scope X.env.scope) cond ifs = true) ∧ chk X.N (relS scope X.env.scope) elt x0 = true) := by
          simpa [chk] using hc
        obtain ⟨⟨⟨⟨⟨g1, g2⟩, g3⟩, g4⟩, g5⟩, g6⟩ := h'
        have xo' := xo.toXOk
        have hi := snd_I it xo' g.1 t it' g4
        have hs : ∀ v, foldedSetIterable it' X.env v = pure v := by
          intro v
          refine notSet_folded ?_ v
          cases it' with
          | Set a b c =>
            cases it with
            | seq a => simp [chkI] at g4
            | _ => cases g4
          | _ => rfl
        have hg : ∀ (s : Shared) (H : Hp) (C : Addr) (cl : List (Str × Addr)) (fp : List Addr), PG (X.blk s H scope (compEnvC scope cl C X.env) fp) t (gTg X.K tg) := fun s H C cl fp =>
          pg_tg (X := X.blk s H scope (compEnvC scope cl C X.env) fp) (N := X.N) (sc := scope) xo.calm rfl xo.nd blk_loc g2
        have ht : ∀ (s : Shared) (H : Hp) (C : Addr) (cl : List (Str × Addr)) (fp : List Addr), PTs (X.blk s H scope (compEnvC scope cl C X.env) fp) ifs (tST X W0 (evO cond)) := fun s H C cl fp =>
          snd_O cond (X := X.blk s H scope (compEnvC scope cl C X.env) fp) (xo'.blk s H scope _ fp rfl rfl) g.2.1 ifs g5
        have he : ∀ (s : Shared) (H : Hp) (C : Addr) (cl : List (Str × Addr)) (fp : List Addr), PE (X.blk s H scope (compEnvC scope cl C X.env) fp) x0 (tS X W0 (ev elt)) := fun s H C cl fp =>
          (snd_e elt (X := X.blk s H scope (compEnvC scope cl C X.env) fp) (xo'.blk s H scope _ fp rfl rfl) g.2.2 x0 g6).pe
        have rd := pe_compF (mi := evI it) (mc := evO cond) (me := ev elt) xo' hi (blkOk_by g1) g3 hg ht he hs
        have pf : PS X (.Assign [.Name x p] (.ListComp x0 [⟨t, it', ifs, 0⟩] scope p') pos) (tAsg (tF X W (ev (.comp own tg it cond elt))) (gName i)) := by
          have sw : ∃ b : Bool, swapsWith (.ListComp x0 [⟨t, it', ifs, 0⟩] scope p') (some (.Name x p)) pos.line X.env = pure b ∧ (b = true → X.env.scope.names.lookup x = some .local) := by
            refine ⟨X.env.blockKind == .function && X.env.kindOf x == some .local && p.line == (Expr.ListComp x0 [⟨t, it', ifs, 0⟩] scope p').pos.line
              && !(scope.names.any fun (n, k) => n == x && (k == .local || k == .cell)), rfl, fun h => ?_⟩
            simp only [Bool.and_eq_true] at h
            have := h.1.1.2
            exact eq_of_beq this
          obtain ⟨b, eb, hb⟩ := sw
          cases b with
          | false => exact ps_set xo.nd h1 (loc_of h2) (se.fr rfl) eb (.inl (xo.fnA x))
          | true =>
            refine ps_weak (ps_setLc xo.calm xo.nd h1 (hb rfl) eb hi (blkOk_by g1) hg ht he hs) fun Dn σ H q => ?_
            exact rd σ H _ q
        refine ⟨ps_weak pf fun Dn σ H q => ?_, fun _ => pf⟩
        obtain ⟨M, ρ, dm, r, o⟩ := q
        refine ⟨M, ρ, dm, r, OutE.of_F dm o fun d e => ?_⟩
        have e' : ((evI it ρ).bind fun ds => if ds.length ≤ sizeD then (compM (turnM tg (evO cond) (ev elt) (wipeD ρ (own.map (·.2)))) ds).bind fun out => .ok (.lst out) else .stuck) = .ok d := e
        obtain ⟨ds, _, e'⟩ := Res.bind_eq_ok e'
        split at e'
        · obtain ⟨out, _, e'⟩ := Res.bind_eq_ok e'
          cases e'
          exact ⟨_, rfl⟩
        · cases e'
    | _ => cases hk'
theorem st_set {h : Bool} {i : Nat} {e : E} {Dn : Ends} {σ : L2.St} {H : Hp} (q : tSS X W H0 M0 (run1 (.set h i e)) Dn σ H) : tAsg (tS X W (ev e)) (gName i) Dn σ H := by
  obtain ⟨A, s, r, o⟩ := q
  refine see_out (h := h) r (show OutS X W H0 M0 (marks M0 A s) H Dn (outE (ev e (see h s)) fun d => if okFor h d then .nx (s.set i (.ro d)) else .stuck) from o) fun d v H' e1 s' rv r' o' => ?_
  by_cases ho : okFor h d = true
  · rw [if_pos ho] at o'
    exact o' _ H' A (r'.setRo (rep_ok r' rv ho)) (Frame.grow r.dm s' fun a => marks_set_sub a)
  · rw [if_neg ho] at o'; exact o'.elim
theorem see_outF {h : Bool} {A : Nat → List Addr} {s : SE} {σ : L2.St} {H : Hp} {Dn : Ends} {m : En → Res D} {f : D → Out} {Q : VK} (r : RelS X.K H0 M0 A σ H s) (o : OutS X W H0 M0 (marks M0 A s) H Dn (outE (m (see h s)) f))
    (hl : ∀ d, ¬ (∃ l, d = .lst l) → ¬ OutS X W H0 M0 (marks M0 A s) H Dn (f d))
    (hq : ∀ l p vs H', m (see h s) = .ok (.lst l) → Same X.K H H' → Fr H p → H' p = some (.lst vs) → RepAll X.K (mark (if h then marks M0 A s else M0) p) H' vs l → RelS X.K H0 M0 A σ H' s → OutS X W H0 M0 (marks M0 A s) H Dn (f (.lst l)) → Q (.ref p) H') : tF X W m σ H Q := by
  refine ⟨if h then marks M0 A s else M0, see h s, ?_, ?_, ?_⟩
  · cases h
    · exact r.dmM0
    · exact r.dm
  · cases h
    · exact r.full
    · exact r.hid
  · cases e : m (see h s) with
    | ok d =>
      rw [e] at o
      by_cases hd : ∃ l, d = .lst l
      · obtain ⟨l, rfl⟩ := hd
        exact ⟨l, rfl, fun p vs H' s' n ep rv => hq l p vs H' e s' n ep rv (r.grow s') o⟩
      · exact (hl d hd o).elim
    | exc c =>
      rw [e] at o
      exact fun H' s' => o σ H' (r.same.trans s') (Frame.grow r.dm s' fun a => .inl)
    | stuck => rw [e] at o; exact o
/-- items of a new list, whatever was seen -/
theorem repAll_okF {h : Bool} {A : Nat → List Addr} {s : SE} {σ : L2.St} {H H' : Hp} {p : Addr} {ds : List D} {vs us : List V} (r : RelS X.K H0 M0 A σ H s) (s' : Same X.K H H') (n : Fr H p) (ep : H' p = some (.lst us)) (q : RepAll X.K (mark (if h then marks M0 A s else M0) p) H' vs ds) (k : (h || flatAll ds) = true) : RepAll X.K (mark (marks M0 A s) p) H' vs ds := by
  cases h with
  | true => exact q
  | false => exact RepAll.flat ((r.dm.mono s').mark ep trivial) ds vs (by simpa using k) q
theorem st_own {h : Bool} {i : Nat} {e : E} {Dn : Ends} {σ : L2.St} {H : Hp} (q : tSS X W H0 M0 (run1 (.own h i e)) Dn σ H) : tAsg (tF X W (ev e)) (gName i) Dn σ H := by
  obtain ⟨A, s, r, o⟩ := q
  refine see_outF (h := h) r (show OutS X W H0 M0 (marks M0 A s) H Dn (outE (ev e (see h s)) fun d => ownS h i s d) from o) (fun d hd o' => ?_) fun l p vs H' e1 s' n ep rv r' o' => ?_
  · cases d with
    | lst l => exact hd ⟨l, rfl⟩
    | _ => exact o'
  · by_cases ho : (h || flatAll l) = true
    · have o2 : OutS X W H0 M0 (marks M0 A s) H Dn (if (h || flatAll l) = true then .nx (s.set i (.own l)) else .stuck) := o'
      rw [if_pos ho] at o2
      obtain ⟨r2, sub⟩ := r.setOwn (i := i) s' n ep (repAll_okF r s' n ep rv ho)
      exact o2 _ H' _ r2 ⟨Keep.of_same s', fun a m => (sub a m).elim .inl fun z => .inr (by rw [z]; exact n), r.dm.mono s'⟩
    · have o2 : OutS X W H0 M0 (marks M0 A s) H Dn (if (h || flatAll l) = true then .nx (s.set i (.own l)) else .stuck) := o'
      rw [if_neg ho] at o2; exact o2.elim
theorem gNamesS : ∀ {is : List Nat} {ds : List D} {vs : List V} {σ : L2.St} {s s2 : SE} {A : Nat → List Addr} {H : Hp} {Q : L2.St → Hp → Prop}, setAllS is ds s = some s2 → RelS X.K H0 M0 A σ H s → RepAll X.K (marks M0 A s) H vs ds →
    (∀ σ2, RelS X.K H0 M0 A σ2 H s2 → (∀ a, marks M0 A s2 a → marks M0 A s a) → Q σ2 H) → gNames is vs σ H Q
  | [], [], _, σ, s, s2, A, H, Q, e, r, q, h => by
    cases q
    cases e
    exact ⟨rfl, h σ r fun _ m => m⟩
  | i :: is, d :: ds, _, σ, s, s2, A, H, Q, e, r, q, h => by
    cases q with
    | cons q1 q2 =>
      refine ⟨_, _, rfl, ?_⟩
      exact gNamesS (is := is) e (r.setRo q1) (RepAll.weak (fun a => marks_set_sub a) _ _ q2) fun σ2 r2 sub => h σ2 r2 fun a m => marks_set_sub a (sub a m)
  | [], _ :: _, _, _, _, _, _, _, _, e, _, _, _ => by cases e
  | _ :: _, [], _, _, _, _, _, _, _, e, _, _, _ => by cases e
theorem setAllS_len : ∀ {is : List Nat} {ds : List D} {s s2 : SE}, setAllS is ds s = some s2 → ds.length = is.length
  | [], [], _, _, _ => rfl
  | _ :: is, _ :: ds, _, _, e => by rw [List.length_cons, List.length_cons, setAllS_len (is := is) e]
  | [], _ :: _, _, _, e => by cases e
  | _ :: _, [], _, _, e => by cases e
theorem gTgS {tg : Tg} {d : D} {v : V} {σ : L2.St} {s s2 : SE} {A : Nat → List Addr} {H : Hp} {Q : L2.St → Hp → Prop} (e : setTgS tg d s = some s2) (r : RelS X.K H0 M0 A σ H s) (q : Rep X.K (marks M0 A s) H v d)
    (h : ∀ σ2, RelS X.K H0 M0 A σ2 H s2 → (∀ a, marks M0 A s2 a → marks M0 A s a) → Q σ2 H) : gTg X.K tg v σ H Q := by
  cases tg with
  | name i =>
    cases e
    exact h _ (r.setRo q) fun a => marks_set_sub a
  | tup is =>
    cases d with
    | tup ds =>
      cases q with
      | tup sq m ra => exact ⟨_, _, rfl, SqT.of sq, by rw [ra.length]; exact setAllS_len e, gNamesS e r ra h⟩
    | _ => cases e
  | pr i is =>
    match d, e with
    | .tup [d1, .tup ds], e =>
      cases q with
      | tup sq m ra =>
        cases ra with
        | cons r1 ra =>
          cases ra with
          | cons r2 ra =>
            cases ra
            cases r2 with
            | tup s2 m2 ra2 =>
              refine ⟨_, _, rfl, SqT.of sq, rfl, _, _, rfl, _, _, rfl, ⟨_, _, rfl, SqT.of s2, by rw [ra2.length]; exact setAllS_len e, ?_⟩⟩
              exact gNamesS e (r.setRo r1) (RepAll.weak (fun a => marks_set_sub a) _ _ ra2) fun σ2 re2 w => ⟨rfl, h σ2 re2 fun a ma => marks_set_sub a (w a ma)⟩
def gOr (a b : TG) : TG := fun v σ H Q => a v σ H Q ∨ b v σ H Q
theorem pg_or {e : Expr} {a b : TG} (h : PG X e a) (h' : PG X e b) : PG X e (gOr a b) := ⟨fun pins s σ H v u Q I r q => q.elim (h.run pins s σ H v u Q I r) (h'.run pins s σ H v u Q I r)⟩
theorem st_unp {h : Bool} {is : List Nat} {e : E} {Dn : Ends} {σ : L2.St} {H : Hp} (q : tSS X W H0 M0 (run1 (.unp h is e)) Dn σ H) : tAsg (tS X W (ev e)) (gOr (gTup X.K is.length (gNames is)) (gLst X.K is.length (gNames is))) Dn σ H := by
  obtain ⟨A, s, r, o⟩ := q
  refine see_out (h := h) r (show OutS X W H0 M0 (marks M0 A s) H Dn (outE (ev e (see h s)) fun d => unpS h is s d) from o) fun d v H' e1 s' rv r' o' => ?_
  cases d with
  | tup ds =>
    by_cases ho : (h || flatAll ds) = true
    · have o2 : OutS X W H0 M0 (marks M0 A s) H Dn (if (h || flatAll ds) = true then ofS (setAllS is ds s) else .stuck) := o'
      rw [if_pos ho] at o2
      cases e2 : setAllS is ds s with
      | none => rw [e2] at o2; exact o2.elim
      | some s2 =>
        rw [e2] at o2
        cases rv with
        | tup sq m ra =>
          refine .inl ⟨_, _, rfl, SqT.of sq, by rw [ra.length]; exact setAllS_len e2, ?_⟩
          exact gNamesS e2 r' (repAll_ok r' ra ho) fun σ2 r2 sub => o2 σ2 H' A r2 (Frame.grow r.dm s' sub)
    · have o2 : OutS X W H0 M0 (marks M0 A s) H Dn (if (h || flatAll ds) = true then ofS (setAllS is ds s) else .stuck) := o'
      rw [if_neg ho] at o2; exact o2.elim
  | lst ds =>
    by_cases ho : (h || flatAll ds) = true
    · have o2 : OutS X W H0 M0 (marks M0 A s) H Dn (if (h || flatAll ds) = true then ofS (setAllS is ds s) else .stuck) := o'
      rw [if_pos ho] at o2
      cases e2 : setAllS is ds s with
      | none => rw [e2] at o2; exact o2.elim
      | some s2 =>
        rw [e2] at o2
        cases rv with
        | lst sq m ra =>
          refine .inr ⟨_, _, rfl, SqL.of sq, by rw [ra.length]; exact setAllS_len e2, ?_⟩
          exact gNamesS e2 r' (repAll_ok r' ra ho) fun σ2 r2 sub => o2 σ2 H' A r2 (Frame.grow r.dm s' sub)
    · have o2 : OutS X W H0 M0 (marks M0 A s) H Dn (if (h || flatAll ds) = true then ofS (setAllS is ds s) else .stuck) := o'
      rw [if_neg ho] at o2; exact o2.elim
  | _ => exact o'.elim
theorem st_expr {e : E} {Dn : Ends} {σ : L2.St} {H : Hp} (q : tSS X W H0 M0 (run1 (.expr e)) Dn σ H) : tDrop (tS X W (ev e)) Dn σ H := by
  obtain ⟨A, s, r, o⟩ := q
  exact full_out r (show OutS X W H0 M0 (marks M0 A s) H Dn (outE (ev e (full s)) fun _ => .nx s) from o) fun d v H' e1 s' rv r' o' => o' σ H' A r' (Frame.grow r.dm s' fun _ m => m)
theorem st_ret {e : E} {Dn : Ends} {σ : L2.St} {H : Hp} (q : tSS X W H0 M0 (run1 (.ret e)) Dn σ H) : tRet (tS X W (ev e)) Dn σ H := by
  obtain ⟨A, s, r, o⟩ := q
  exact full_out r (show OutS X W H0 M0 (marks M0 A s) H Dn (outE (ev e (full s)) fun d => .rt d) from o) fun d v H' e1 s' rv r' o' => o' v H' (r.same.trans s') rv
theorem full_outT {A : Nat → List Addr} {s : SE} {σ : L2.St} {H : Hp} {Dn : Ends} {m : En → Res Bool} {f : Bool → Out} {Q : Bool → Hp → Prop} (r : RelS X.K H0 M0 A σ H s) (o : OutS X W H0 M0 (marks M0 A s) H Dn (outE (m (full s)) f))
    (hq : ∀ d H', m (full s) = .ok d → Same X.K H H' → RelS X.K H0 M0 A σ H' s → OutS X W H0 M0 (marks M0 A s) H Dn (f d) → Q d H') : tST X W m σ H Q := by
  refine ⟨M0, full s, r.dmM0, r.full, ?_⟩
  cases e : m (full s) with
  | ok d =>
    rw [e] at o
    exact fun H' s' => hq d H' e s' (r.grow s') o
  | exc c =>
    rw [e] at o
    exact fun H' s' => o σ H' (r.same.trans s') (Frame.grow r.dm s' fun a => .inl)
  | stuck => rw [e] at o; exact o
theorem st_ite {c : E} {a b : S} {Dn : Ends} {σ : L2.St} {H : Hp} (q : tSS X W H0 M0 (run1 (.ite c a b)) Dn σ H) :
    tIfS (tST X W fun ρ => (ev c ρ).bind truth) (tSS X W H0 M0 (run a)) (tSS X W H0 M0 (run b)) Dn σ H := by
  obtain ⟨A, s, r, o⟩ := q
  refine full_outT r (m := fun ρ => (ev c ρ).bind truth) (show OutS X W H0 M0 (marks M0 A s) H Dn (outE ((ev c (full s)).bind truth) fun t => if t then run a s else run b s) from o) fun d H' e1 s' r' o' => ?_
  have f : Frame X.K (marks M0 A s) H (marks M0 A s) H' := Frame.grow r.dm s' fun _ m => m
  cases d with
  | true =>
    rw [if_pos rfl] at o' ⊢
    exact ⟨A, s, r', OutS.mono o' f⟩
  | false =>
    rw [if_neg Bool.false_ne_true] at o' ⊢
    exact ⟨A, s, r', OutS.mono o' f⟩
/-- the loop over what is known -/
theorem st_for {tg : Tg} {it : IT} {b : S} {Dn : Ends} {σ : L2.St} {H : Hp} (q : tSS X W H0 M0 (run1 (.for_ tg it b)) Dn σ H) :
    tFor (tIS X W (evI it)) (gTg X.K tg) (tSS X W H0 M0 (run b)) Dn σ H := by
  obtain ⟨A, s, r, o⟩ := q
  have o1 : OutS X W H0 M0 (marks M0 A s) H Dn (outE (evI it (hid s)) fun ds => forM (fun s => run b s) tg ds s) := o
  refine ⟨marks M0 A s, hid s, r.dm, r.hid, ?_⟩
  cases e : evI it (hid s) with
  | exc c => rw [e] at o1; exact fun H' s' => o1 σ H' (r.same.trans s') (Frame.grow r.dm s' fun a => .inl)
  | stuck => rw [e] at o1; exact o1
  | ok ds =>
    rw [e] at o1
    intro J H1 s1 wk
    have f1 : Frame X.K (marks M0 A s) H (marks M0 A s) H1 := Frame.grow r.dm s1 fun _ m => m
    have o2 : OutS X W H0 M0 (marks M0 A s) H1 Dn (forM (fun s => run b s) tg ds s) := OutS.mono o1 f1
    refine ⟨fun i m σ' H' => m + i = ds.length ∧ ∃ A' s', RelS X.K H0 M0 A' σ' H' s' ∧ Frame X.K (marks M0 A s) H1 (marks M0 A' s') H' ∧ OutS X W H0 M0 (marks M0 A' s') H' Dn (forM (fun s => run b s) tg (ds.drop i) s'),
      ⟨ds.length, rfl, A, s, r.grow s1, Frame.refl (r.dm.mono s1), o2⟩, ?_⟩
    rintro i m σ' H' ⟨em, A', s', r', f', o'⟩
    have acc : ∃ Ac : Mk, Ext (marks M0 A s) Ac H1 ∧ DomM Ac H' ∧ Keep X.K Ac H1 H' ∧ ∀ a, marks M0 A' s' a → Ac a := by
      refine ⟨fun a => marks M0 A s a ∨ marks M0 A' s' a, ⟨fun a m => .inl m, fun a m => m.elim .inl (f'.new a)⟩, fun a m => m.elim (f'.dom a) (r'.dm a), ⟨fun a o e n t => f'.keep.app a o e (fun z => n (.inl z)) t, f'.keep.tab⟩, fun a m => .inr m⟩
    obtain ⟨Ac, x, dA, kA, sub⟩ := acc
    cases ei : ds[i]? with
    | none =>
      left
      refine ⟨wk.stop Ac i H' x dA kA ei, ?_⟩
      have hd : ds.drop i = [] := List.drop_eq_nil_of_le (List.getElem?_eq_none_iff.mp ei)
      rw [hd] at o'
      exact o' σ' H' A' r' (Frame.refl r'.dm)
    | some d =>
      right
      have hi' : i < ds.length := (List.getElem?_eq_some_iff.mp ei).1
      obtain ⟨g1, g2⟩ := wk.go Ac i d H' x dA kA ei
      have hdrop : ds.drop i = d :: ds.drop (i + 1) := by
        rw [List.drop_eq_getElem_cons hi']
        rw [List.getElem?_eq_getElem hi'] at ei
        cases ei; rfl
      rw [hdrop] at o'
      refine ⟨g1, fun σ2 H2 => ∃ A2 s2, RelS X.K H0 M0 A2 σ2 H2 s2 ∧ Frame X.K (marks M0 A s) H1 (marks M0 A2 s2) H2 ∧ OutS X W H0 M0 (marks M0 A2 s2) H2 Dn (forM (fun s => run b s) tg (ds.drop (i + 1)) s2),
        fun σ2 H2 hN => ⟨m - 1, by omega, by omega, hN⟩, fun xv H2 hy => ?_⟩
      obtain ⟨s2, rx⟩ := g2 xv H2 hy
      have o3 : OutS X W H0 M0 (marks M0 A' s') H' Dn (match setTgS tg d s' with | some s1 => seqO (run b s1) (forM (fun s => run b s) tg (ds.drop (i + 1))) | none => .stuck) := o'
      cases e3 : setTgS tg d s' with
      | none => rw [e3] at o3; exact o3.elim
      | some s3 =>
        rw [e3] at o3
        refine gTgS e3 (r'.grow s2) (Rep.weak sub _ _ rx) fun σ3 r3 sub3 => ?_
        have f3 : Frame X.K (marks M0 A' s') H' (marks M0 A' s3) H2 := Frame.grow r'.dm s2 sub3
        refine ⟨A', s3, r3, ?_⟩
        have o4 := OutS.mono o3 f3
        have o5 : OutS X W H0 M0 (marks M0 A' s3) H2 Dn (seqO (run b s3) (forM (fun s => run b s) tg (ds.drop (i + 1)))) := o4
        cases e4 : run b s3 with
        | nx s4 =>
          rw [e4] at o5
          intro σ4 H4 A4 r4 f4
          exact ⟨A4, s4, r4, (f'.trans f3).trans f4, OutS.mono o5 f4⟩
        | rt d => rw [e4] at o5; exact o5
        | exc c => rw [e4] at o5; exact o5
        | stuck => rw [e4] at o5; exact o5
theorem st_while {n : Nat} {c : E} {b : S} {Dn : Ends} {σ : L2.St} {H : Hp} (q : tSS X W H0 M0 (run1 (.while_ n c b)) Dn σ H) :
    tWhile (tST X W fun ρ => (ev c ρ).bind truth) (tSS X W H0 M0 (run b)) Dn σ H := by
  obtain ⟨A, s, r, o⟩ := q
  have o1 : OutS X W H0 M0 (marks M0 A s) H Dn (whileM (fun s => (ev c (full s)).bind truth) (fun s => run b s) n s) := o
  refine ⟨fun m σ' H' => ∃ A' s', RelS X.K H0 M0 A' σ' H' s' ∧ OutS X W H0 M0 (marks M0 A' s') H' Dn (whileM (fun s => (ev c (full s)).bind truth) (fun s => run b s) m s'), ⟨n, A, s, r, o1⟩, ?_⟩
  rintro m σ' H' ⟨A', s', r', o'⟩
  cases m with
  | zero => exact o'.elim
  | succ m =>
    refine full_outT r' (m := fun ρ => (ev c ρ).bind truth) (show OutS X W H0 M0 (marks M0 A' s') H' Dn (outE ((ev c (full s')).bind truth) fun t => if t then seqO (run b s') (whileM (fun s => (ev c (full s)).bind truth) (fun s => run b s) m) else .nx s') from o') fun d H2 e1 s2 r2 o2 => ?_
    have f : Frame X.K (marks M0 A' s') H' (marks M0 A' s') H2 := Frame.grow r'.dm s2 fun _ m => m
    cases d with
    | false =>
      rw [if_neg Bool.false_ne_true] at o2 ⊢
      exact o2 σ' H2 A' r2 f
    | true =>
      rw [if_pos rfl] at o2 ⊢
      refine ⟨fun σ3 H3 => ∃ A3 s3, RelS X.K H0 M0 A3 σ3 H3 s3 ∧ OutS X W H0 M0 (marks M0 A3 s3) H3 Dn (whileM (fun s => (ev c (full s)).bind truth) (fun s => run b s) m s3), fun σ3 H3 hN => ⟨m, Nat.lt_succ_self m, hN⟩, ?_⟩
      refine ⟨A', s', r2, ?_⟩
      have o3 := OutS.mono o2 f
      cases e4 : run b s' with
      | nx s4 =>
        rw [e4] at o3
        intro σ4 H4 A4 r4 f4
        exact ⟨A4, s4, r4, OutS.mono o3 f4⟩
      | rt d => rw [e4] at o3; exact o3
      | exc c => rw [e4] at o3; exact o3
      | stuck => rw [e4] at o3; exact o3
end
end PL

namespace PL
open PySem PySem.Spec PyProof.Rows L2

section
variable {X : Cx} {W : WX} {H0 : Hp} {M0 : Mk} {k : Nat}
/-! ## a, b = x, y -/
def tArgs (X : Cx) (W : WX) : List (Bool × Nat) → EL → TA
  | [], .nil => tNil
  | (b, _) :: ts, .cons e r => tCons (if b then tF X W (ev e) else tS X W (ev e)) (tArgs X W ts r)
  | _, _ => fun _ _ _ => False
theorem pa_args : ∀ {ts : List (Bool × Nat)} {as : EL} {vs : List Expr}, XOk X k W → goodL (GoodX X k) (GC (gm X k)) as → chkL X.N X.env.scope as vs = true → parOk ts as = true → PA X vs (tArgs X W ts as) ∧ ∀ v ∈ vs, notStar v = true
  | [], .nil, [], xo, g, h, hp => ⟨pa_nil, fun _ z => nomatch z⟩
  | (b, i) :: ts, .cons e r, v :: vs, xo, g, h, hp => by
    have h' : (chk X.N X.env.scope e v = true ∧ notStar v = true) ∧ chkL X.N X.env.scope r vs = true := by simpa [chkL] using h
    have hp' : ((!b || freshE e) = true) ∧ parOk ts r = true := by
      have : ((!b || freshE e) && parOk ts r) = true := hp
      rwa [Bool.and_eq_true] at this
    obtain ⟨⟨h1, h2⟩, h3⟩ := h'
    have se := snd_e e xo g.1 v h1
    obtain ⟨ih, ihs⟩ := pa_args (ts := ts) xo g.2 h3 hp'.2
    refine ⟨?_, fun u hu => ?_⟩
    · cases b with
      | true => exact pa_cons (se.fr (by simpa using hp'.1)) ih (star_of h2 vs X.env)
      | false => exact pa_cons se.pe ih (star_of h2 vs X.env)
    · rcases List.mem_cons.mp hu with z | z
      · rw [z]; exact h2
      · exact ihs u z
  | [], .nil, _ :: _, _, _, h, _ => by cases h
  | [], .cons _ _, _, _, _, _, hp => by cases hp
  | _ :: _, .nil, _, _, _, _, hp => by cases hp
  | _ :: _, .cons _ _, [], _, _, h, _ => by cases h
/-- what the arguments left -/
inductive AR (K : PySem.W.Frag) (M' : Mk) (H' : Hp) : List (Bool × Nat) → List V → List D → List Addr → Prop
  | nil : AR K M' H' [] [] [] []
  | ro {i : Nat} {ts : List (Bool × Nat)} {v : V} {vs : List V} {d : D} {ds : List D} {ps : List Addr} : Rep K M' H' v d → AR K M' H' ts vs ds ps → AR K M' H' ((false, i) :: ts) (v :: vs) (d :: ds) ps
  | own {i : Nat} {ts : List (Bool × Nat)} {p : Addr} {us : List V} {l : List D} {vs : List V} {ds : List D} {ps : List Addr} : H' p = some (.lst us) → RepAll K M' H' us l → AR K M' H' ts vs ds ps → AR K M' H' ((true, i) :: ts) (.ref p :: vs) (.lst l :: ds) (p :: ps)
def plus (M : Mk) (ps : List Addr) : Mk := fun a => M a ∨ a ∈ ps
theorem AR.length {K : PySem.W.Frag} {M' : Mk} {H' : Hp} {ts : List (Bool × Nat)} {vs : List V} {ds : List D} {ps : List Addr} (a : AR K M' H' ts vs ds ps) : vs.length = ts.length := by
  induction a with
  | nil => rfl
  | ro _ _ ih => rw [List.length_cons, List.length_cons, ih]
  | own _ _ _ ih => rw [List.length_cons, List.length_cons, ih]
theorem AR.keep {K : PySem.W.Frag} {M' : Mk} {H1 H2 : Hp} {ts : List (Bool × Nat)} {vs : List V} {ds : List D} {ps : List Addr} (s : Same K H1 H2) (a : AR K M' H1 ts vs ds ps) : AR K M' H2 ts vs ds ps := by
  induction a with
  | nil => exact .nil
  | ro h _ ih => exact .ro (h.same s) ih
  | own e h _ ih => exact .own (s.get _ _ e) (h.same s) ih
theorem args_run {ρ : En} {σ : L2.St} : ∀ {ts : List (Bool × Nat)} {as : EL} {M : Mk} {H : Hp} {ds : List D} {Q : List V → Hp → Prop}, parOk ts as = true → DomM M H → Rel X.K M σ H ρ → evL as ρ = .ok ds → (∀ (i : Nat) j d, ts[i]? = some (true, j) → ds[i]? = some d → ∃ l, d = .lst l) →
    (∀ vs H' ps, Same X.K H H' → (∀ p ∈ ps, Fr H p) → ps.Nodup → (∀ p ∈ ps, ∃ o, H' p = some o ∧ MutO o) → AR X.K (plus M ps) H' ts vs ds ps → Q vs H') → tArgs X W ts as σ H Q
  | [], .nil, M, H, ds, Q, hp, dm, re, e, hl, q => by
    have e' : Res.ok [] = Res.ok ds := e
    cases e'
    exact q [] H [] (Same.refl H) (fun _ z => nomatch z) List.nodup_nil (fun _ z => nomatch z) .nil
  | (b, i) :: ts, .cons a r, M, H, ds, Q, hp, dm, re, e, hl, q => by
    have hp' : ((!b || freshE a) = true) ∧ parOk ts r = true := by
      have : ((!b || freshE a) && parOk ts r) = true := hp
      rwa [Bool.and_eq_true] at this
    have e' : ((ev a ρ).bind fun d => (evL r ρ).bind fun ds => .ok (d :: ds)) = .ok ds := e
    obtain ⟨d, ed, e'⟩ := Res.bind_eq_ok e'
    obtain ⟨ds', eds, e'⟩ := Res.bind_eq_ok e'
    cases e'
    have hl' : ∀ (i : Nat) j d', ts[i]? = some (true, j) → ds'[i]? = some d' → ∃ l, d' = .lst l := fun i j d' h1 h2 => hl (i + 1) j d' (by simpa using h1) (by simpa using h2)
    cases b with
    | false =>
      show tS X W (ev a) σ H _
      refine ⟨M, ρ, dm, re, ?_⟩
      rw [ed]
      intro v H1 s1 r1
      refine args_run (ts := ts) hp'.2 (dm.mono s1) (re.same s1) eds hl' fun vs H' ps s2 np nd dp ar => ?_
      have ext : Ext M (plus M ps) H1 := ⟨fun _ m => .inl m, fun a m => m.elim .inl fun z => .inr (np a z)⟩
      exact q (v :: vs) H' ps (s1.trans s2) (fun p hp => s1.free (np p hp)) nd dp (.ro ((Rep.ext ext _ _ r1).same s2) ar)
    | true =>
      show tF X W (ev a) σ H _
      refine ⟨M, ρ, dm, re, ?_⟩
      rw [ed]
      obtain ⟨l, rfl⟩ := hl 0 i d rfl rfl
      refine ⟨l, rfl, fun p us H1 s1 n ep ra => ?_⟩
      have em : Ext M (mark M p) H := Ext.mark n
      refine args_run (ts := ts) (M := mark M p) hp'.2 ((dm.mono s1).mark ep trivial) ((re.ext em).same s1) eds hl' fun vs H' ps s2 np nd dp ar => ?_
      have ext : Ext (mark M p) (plus (mark M p) ps) H1 := ⟨fun _ m => .inl m, fun a m => m.elim .inl fun z => .inr (np a z)⟩
      have eqv : plus (mark M p) ps = plus M (p :: ps) := by
        funext a
        apply propext
        constructor
        · rintro ((m | m) | m)
          · exact .inl m
          · exact .inr (by rw [m]; exact List.mem_cons_self)
          · exact .inr (List.mem_cons_of_mem _ m)
        · rintro (m | m)
          · exact .inl (.inl m)
          · rcases List.mem_cons.mp m with m | m
            · exact .inl (.inr m)
            · exact .inr m
      have npp : p ∉ ps := fun z => np p z _ ep nt_lst
      refine q (.ref p :: vs) H' (p :: ps) (s1.trans s2) (fun a ha => ?_) (List.nodup_cons.mpr ⟨npp, nd⟩) (fun a ha => ?_) ?_
      · rcases List.mem_cons.mp ha with z | z
        · rw [z]; exact n
        · exact s1.free (np a z)
      · rcases List.mem_cons.mp ha with z | z
        · exact ⟨.lst us, by rw [z]; exact s2.get _ _ ep, trivial⟩
        · exact dp a z
      · rw [eqv] at ar ext
        exact .own (s2.get _ _ ep) ((RepAll.ext ext _ _ ra).same s2) ar
  | [], .cons _ _, _, _, _, _, hp, _, _, _, _, _ => by cases hp
  | _ :: _, .nil, _, _, _, _, hp, _, _, _, _, _ => by cases hp
/-- the stores -/
def setVs : List (Bool × Nat) → List V → L2.St → L2.St
  | (_, i) :: ts, v :: vs, σ => setVs ts vs (σ.set i (some v))
  | _, _, σ => σ
theorem AR.weak {K : PySem.W.Frag} {M M' : Mk} {H' : Hp} {ts : List (Bool × Nat)} {vs : List V} {ds : List D} {ps : List Addr} (w : ∀ a, M' a → M a) (a : AR K M H' ts vs ds ps) : AR K M' H' ts vs ds ps := by
  induction a with
  | nil => exact .nil
  | ro h _ ih => exact .ro (Rep.weak w _ _ h) ih
  | own e h _ ih => exact .own e (RepAll.weak w _ _ h) ih
theorem par_store {h : Bool} {H : Hp} (ts : List (Bool × Nat)) : ∀ {vs : List V} {ds : List D} {ps : List Addr} {σ : L2.St} {s s2 : SE} {A : Nat → List Addr}, parS h ts ds s = .nx s2 → ps.Nodup → (∀ p ∈ ps, Fr H0 p ∧ ¬ M0 p) →
    AR X.K (marks (fun a => M0 a ∨ a ∈ ps) A s) H ts vs ds ps → RelS X.K H0 (fun a => M0 a ∨ a ∈ ps) A σ H s →
    ∃ A2, RelS X.K H0 M0 A2 (setVs ts vs σ) H s2 ∧ ∀ a, marks M0 A2 s2 a → marks (fun a => M0 a ∨ a ∈ ps) A s a := by
  induction ts with
  | nil =>
    intro vs ds ps σ s s2 A e nd np ar r
    cases ar
    cases e
    exact ⟨A, r.unP, fun a m => m.elim (fun z => .inl (.inl z)) .inr⟩
  | cons t ts ih =>
    intro vs ds ps σ s s2 A e nd np ar r
    cases ar with
    | @ro i _ v vs d ds _ rv ar =>
      have e' : (if okFor h d then parS h ts ds (s.set i (.ro d)) else .stuck) = .nx s2 := e
      by_cases ho : okFor h d = true
      · rw [if_pos ho] at e'
        have r1 := r.setRo (i := i) rv
        have sub : ∀ a, marks (fun a => M0 a ∨ a ∈ ps) A (s.set i (.ro d)) a → marks (fun a => M0 a ∨ a ∈ ps) A s a := fun a => marks_set_sub a
        obtain ⟨A2, r2, sub2⟩ := ih e' nd np (ar.weak sub) r1
        exact ⟨A2, r2, fun a m => sub a (sub2 a m)⟩
      · rw [if_neg ho] at e'; cases e'
    | @own i _ p us l vs ds ps ep ra ar =>
      have e' : (if (h || flatAll l) = true then parS h ts ds (s.set i (.own l)) else .stuck) = .nx s2 := e
      by_cases ho : (h || flatAll l) = true
      · rw [if_pos ho] at e'
        have nd' := List.nodup_cons.mp nd
        obtain ⟨n0, nm⟩ := np p List.mem_cons_self
        obtain ⟨r1, sub⟩ := r.takeP (i := i) nd'.1 n0 nm ep ra
        obtain ⟨A2, r2, sub2⟩ := ih e' nd'.2 (fun q hq => np q (List.mem_cons_of_mem _ hq)) (ar.weak sub) r1
        exact ⟨A2, r2, fun a m => sub a (sub2 a m)⟩
      · rw [if_neg ho] at e'; cases e'
/-- the values' marks: what was seen, or everything -/
theorem AR.flatten {h : Bool} {A : Nat → List Addr} {s : SE} {H : Hp} {ps : List Addr} (dmm : DomM (marks (fun a => M0 a ∨ a ∈ ps) A s) H) {ts : List (Bool × Nat)} : ∀ {vs : List V} {ds : List D} {qs : List Addr} {s1 s2 : SE}, parS h ts ds s1 = .nx s2 → AR X.K (plus (if h then marks M0 A s else M0) ps) H ts vs ds qs →
    AR X.K (marks (fun a => M0 a ∨ a ∈ ps) A s) H ts vs ds qs := by
  induction ts with
  | nil =>
    intro vs ds qs s1 s2 e ar
    cases ar
    exact .nil
  | cons t ts ih =>
    intro vs ds qs s1 s2 e ar
    have wk : ∀ a, marks (fun a => M0 a ∨ a ∈ ps) A s a → plus (marks M0 A s) ps a := fun a m => by
      rcases m with (m | m) | m
      · exact .inl (.inl m)
      · exact .inr m
      · exact .inl (.inr m)
    cases ar with
    | @ro i _ v vs d ds _ rv ar =>
      have e' : (if okFor h d then parS h ts ds (s1.set i (.ro d)) else .stuck) = .nx s2 := e
      by_cases ho : okFor h d = true
      · rw [if_pos ho] at e'
        refine .ro ?_ (ih e' ar)
        cases h with
        | true => exact Rep.weak wk _ _ rv
        | false => exact Rep.flat dmm d v (by simpa [okFor] using ho) rv
      · rw [if_neg ho] at e'; cases e'
    | @own i _ p us l vs ds qs ep ra ar =>
      have e' : (if (h || flatAll l) = true then parS h ts ds (s1.set i (.own l)) else .stuck) = .nx s2 := e
      by_cases ho : (h || flatAll l) = true
      · rw [if_pos ho] at e'
        refine .own ep ?_ (ih e' ar)
        cases h with
        | true => exact RepAll.weak wk _ _ ra
        | false => exact RepAll.flat dmm l us (by simpa using ho) ra
      · rw [if_neg ho] at e'; cases e'
theorem parS_own {h : Bool} : ∀ {ts : List (Bool × Nat)} {ds : List D} {s s2 : SE}, parS h ts ds s = .nx s2 → ∀ (i : Nat) j d, ts[i]? = some (true, j) → ds[i]? = some d → ∃ l, d = .lst l
  | [], _, _, _, _, i, j, d, h1, _ => by simp at h1
  | (false, k) :: ts, [], _, _, e, i, j, d, _, h2 => by simp at h2
  | (false, k) :: ts, d0 :: ds, s, s2, e, i, j, d, h1, h2 => by
    have e' : (if okFor h d0 then parS h ts ds (s.set k (.ro d0)) else .stuck) = .nx s2 := e
    by_cases ho : okFor h d0 = true
    · rw [if_pos ho] at e'
      cases i with
      | zero => simp at h1
      | succ i => exact parS_own e' i j d (by simpa using h1) (by simpa using h2)
    · rw [if_neg ho] at e'; cases e'
  | (true, k) :: ts, [], _, _, e, i, j, d, _, h2 => by simp at h2
  | (true, k) :: ts, .lst l :: ds, s, s2, e, i, j, d, h1, h2 => by
    have e' : (if (h || flatAll l) = true then parS h ts ds (s.set k (.own l)) else .stuck) = .nx s2 := e
    by_cases ho : (h || flatAll l) = true
    · rw [if_pos ho] at e'
      cases i with
      | zero => simp at h2; exact ⟨l, h2.symm⟩
      | succ i => exact parS_own e' i j d (by simpa using h1) (by simpa using h2)
    · rw [if_neg ho] at e'; cases e'
  | (true, k) :: ts, .non :: ds, s, s2, e, i, j, d, h1, h2 => by cases e
  | (true, k) :: ts, .bl _ :: ds, s, s2, e, i, j, d, h1, h2 => by cases e
  | (true, k) :: ts, .int _ :: ds, s, s2, e, i, j, d, h1, h2 => by cases e
  | (true, k) :: ts, .str _ :: ds, s, s2, e, i, j, d, h1, h2 => by cases e
  | (true, k) :: ts, .tup _ :: ds, s, s2, e, i, j, d, h1, h2 => by cases e
  | (true, k) :: ts, .scr _ :: ds, s, s2, e, i, j, d, h1, h2 => by cases e
  | (true, k) :: ts, .dct _ _ :: ds, s, s2, e, i, j, d, h1, h2 => by cases e
  | (true, k) :: ts, .dcT _ _ :: ds, s, s2, e, i, j, d, h1, h2 => by cases e
  | (true, k) :: ts, .exc _ :: ds, s, s2, e, i, j, d, h1, h2 => by cases e
theorem parS_cases {h : Bool} : ∀ (ts : List (Bool × Nat)) (ds : List D) (s : SE), (∃ s2, parS h ts ds s = .nx s2) ∨ parS h ts ds s = .stuck
  | [], [], s => .inl ⟨s, rfl⟩
  | [], _ :: _, _ => .inr rfl
  | (false, k) :: ts, [], _ => .inr rfl
  | (false, k) :: ts, d0 :: ds, s => by
    show (∃ s2, (if okFor h d0 then parS h ts ds (s.set k (.ro d0)) else .stuck) = .nx s2) ∨ (if okFor h d0 then parS h ts ds (s.set k (.ro d0)) else .stuck) = .stuck
    by_cases ho : okFor h d0 = true
    · rw [if_pos ho]; exact parS_cases ts ds _
    · rw [if_neg ho]; exact .inr rfl
  | (true, k) :: ts, [], _ => .inr rfl
  | (true, k) :: ts, .lst l :: ds, s => by
    show (∃ s2, (if (h || flatAll l) = true then parS h ts ds (s.set k (.own l)) else .stuck) = .nx s2) ∨ (if (h || flatAll l) = true then parS h ts ds (s.set k (.own l)) else .stuck) = .stuck
    by_cases ho : (h || flatAll l) = true
    · rw [if_pos ho]; exact parS_cases ts ds _
    · rw [if_neg ho]; exact .inr rfl
  | (true, k) :: ts, .non :: ds, s => .inr rfl
  | (true, k) :: ts, .bl _ :: ds, s => .inr rfl
  | (true, k) :: ts, .int _ :: ds, s => .inr rfl
  | (true, k) :: ts, .str _ :: ds, s => .inr rfl
  | (true, k) :: ts, .tup _ :: ds, s => .inr rfl
  | (true, k) :: ts, .scr _ :: ds, s => .inr rfl
  | (true, k) :: ts, .dct _ _ :: ds, s => .inr rfl
  | (true, k) :: ts, .dcT _ _ :: ds, s => .inr rfl
  | (true, k) :: ts, .exc _ :: ds, s => .inr rfl
/-- the arguments are reckoned, then stored -/
theorem st_par {h : Bool} {ts : List (Bool × Nat)} {as : EL} {Dn : Ends} {σ : L2.St} {H : Hp} (hp : parOk ts as = true) (q : tSS X W H0 M0 (run1 (.par h ts as)) Dn σ H) :
    tArgs X W ts as σ H fun vs H1 => vs.length = ts.length ∧ ∀ H2, Same X.K H1 H2 → Dn.nx (setVs ts vs σ) H2 := by
  obtain ⟨A, s, r, o⟩ := q
  have o1 : OutS X W H0 M0 (marks M0 A s) H Dn (outE (noExc (evL as (see h s))) fun ds => parS h ts ds s) := o
  cases e : evL as (see h s) with
  | exc c => rw [e] at o1; exact o1.elim
  | stuck => rw [e] at o1; exact o1.elim
  | ok ds =>
    rw [e] at o1
    rcases parS_cases (h := h) ts ds s with ⟨s2, e2⟩ | e2
    · have o2 : OutS X W H0 M0 (marks M0 A s) H Dn (parS h ts ds s) := o1
      rw [e2] at o2
      refine args_run (M := if h then marks M0 A s else M0) (ρ := see h s) hp ?_ ?_ e (parS_own e2) fun vs H' ps s' np nd dp ar => ⟨ar.length, fun H2 s3 => ?_⟩
      · cases h
        · exact r.dmM0
        · exact r.dm
      · cases h
        · exact r.full
        · exact r.hid
      · have rp := r.pend (P := ps) (s'.trans s3) np (fun p hp => by
          obtain ⟨o, e3, mu⟩ := dp p hp
          exact ⟨o, s3.app _ _ e3 (NT.of_mut mu), mu⟩)
        have ar2 := AR.flatten rp.dm e2 (ar.keep s3)
        obtain ⟨A2, r2, sub⟩ := par_store (X := X) ts e2 nd (fun p hp => ⟨r.same.free (np p hp), r.dm0.fresh (np p hp)⟩) ar2 rp
        refine o2 _ H2 A2 r2 ⟨Keep.of_same (s'.trans s3), fun a m => ?_, r.dm.mono (s'.trans s3)⟩
        rcases sub a m with (m | m) | m
        · exact .inl (.inl m)
        · exact .inr (np a m)
        · exact .inl (.inr m)
    · have o2 : OutS X W H0 M0 (marks M0 A s) H Dn (parS h ts ds s) := o1
      rw [e2] at o2
      exact o2.elim
theorem tArgs_mono {σ : L2.St} : ∀ {ts : List (Bool × Nat)} {as : EL} {H : Hp} {Q Q' : List V → Hp → Prop}, tArgs X W ts as σ H Q → (∀ vs H', Q vs H' → Q' vs H') → tArgs X W ts as σ H Q'
  | [], .nil, H, Q, Q', q, w => w _ _ q
  | (b, i) :: ts, .cons a r, H, Q, Q', q, w => by
    cases b with
    | false =>
      obtain ⟨M, ρ, dm, re, o⟩ := (show tS X W (ev a) σ H fun x H1 => tArgs X W ts r σ H1 fun xs H2 => Q (x :: xs) H2 from q)
      refine (show tS X W (ev a) σ H fun x H1 => tArgs X W ts r σ H1 fun xs H2 => Q' (x :: xs) H2 from ⟨M, ρ, dm, re, ?_⟩)
      cases e : ev a ρ with
      | ok d => rw [e] at o; exact fun v H' s' rv => tArgs_mono (o v H' s' rv) fun vs H'' z => w _ _ z
      | exc c => rw [e] at o; exact o
      | stuck => rw [e] at o; exact o
    | true =>
      obtain ⟨M, ρ, dm, re, o⟩ := (show tF X W (ev a) σ H fun x H1 => tArgs X W ts r σ H1 fun xs H2 => Q (x :: xs) H2 from q)
      refine (show tF X W (ev a) σ H fun x H1 => tArgs X W ts r σ H1 fun xs H2 => Q' (x :: xs) H2 from ⟨M, ρ, dm, re, ?_⟩)
      cases e : ev a ρ with
      | ok d =>
        rw [e] at o
        obtain ⟨l, el, o⟩ := o
        exact ⟨l, el, fun p vs H' s' n ep rv => tArgs_mono (o p vs H' s' n ep rv) fun vs H'' z => w _ _ z⟩
      | exc c => rw [e] at o; exact o
      | stuck => rw [e] at o; exact o
  | [], .cons _ _, _, _, _, q, _ => q
  | _ :: _, .nil, _, _, _, q, _ => q
/-! ### the two roads of a, b = x, y -/
theorem lcl_of {sc : Scope} {x : Str} (h : lclB sc x = true) : sc.names.lookup x = some .local := by
  unfold lclB at h
  split at h
  · assumption
  · cases h
theorem blk_fn (xo : XOkS X k W) : X.env.blockKind = .function := by unfold Env.blockKind; rw [xo.kind]; rfl
theorem lcl_not {sc : Scope} {x : Str} (h : lclB sc x = false) : ¬ sc.names.lookup x = some .local := fun e => by
  unfold lclB at h; rw [e] at h; cases h
theorem any_star {vs : List Expr} (h : vs.all notStar = true) : (vs.any fun | .Starred .. => true | _ => false) = false := by
  induction vs with
  | nil => rfl
  | cons v vs ih =>
    rw [List.all_cons, Bool.and_eq_true] at h
    rw [List.any_cons, ih h.2]
    have := h.1
    cases v <;> first | rfl | cases this
theorem star_no {vs : List Expr} (hs : vs.all notStar = true) : ∀ x ∈ vs, (match x with | Expr.Starred _ _ => true | _ => false) = true → False := fun x hx h => by
  have := List.all_eq_true.mp hs x hx
  cases x <;> first | (cases this; done) | (cases h; done)
theorem sw2 {x y : Str} {p q : Pos} {vs : List Expr} {k1 k2 : Nat} {p1 p2 : Pos} {env : PySem.Env} (hb : env.blockKind = .function) (hx : env.kindOf x = some .local) (hy : env.kindOf y = some .local) (hl : p.line = q.line) (hne : ¬ x = y)
    (hf : vs.all (foldedForSure 8) = false) (hc : vs.all (constantsAlone 8) = false) (hs : vs.all notStar = true) (hlen : vs.length = 2) :
    swappedStores [.Tuple [.Name x p, .Name y q] k1 p1] (.Tuple vs k2 p2) env = pure (some [x, y]) := by
  unfold swappedStores
  have hne' : ¬ y = x := fun e => hne e.symm
  have dd : ([x, y] : List Str).eraseDups.length = 2 := by
    simp [List.eraseDups_cons, hne, hne']
  simp [hb, hx, hy, hl, hf, hc, hlen, Expr.pos, dd]
  exact fun v hv h => (star_no hs v hv h).elim
theorem sw3 {x y z : Str} {p q r : Pos} {vs : List Expr} {k1 k2 : Nat} {p1 p2 : Pos} {env : PySem.Env} (hb : env.blockKind = .function) (hx : env.kindOf x = some .local) (hy : env.kindOf y = some .local) (hz : env.kindOf z = some .local) (hl : p.line = q.line) (hl2 : p.line = r.line) (hne : ¬ x = y) (hne2 : ¬ x = z) (hne3 : ¬ y = z)
    (hf : vs.all (foldedForSure 8) = false) (hc : vs.all (constantsAlone 8) = false) (hs : vs.all notStar = true) (hlen : vs.length = 3) :
    swappedStores [.Tuple [.Name x p, .Name y q, .Name z r] k1 p1] (.Tuple vs k2 p2) env = pure (some [x, y, z]) := by
  unfold swappedStores
  have hne' : ¬ y = x := fun e => hne e.symm
  have hne2' : ¬ z = x := fun e => hne2 e.symm
  have hne3' : ¬ z = y := fun e => hne3 e.symm
  have dd : ([x, y, z] : List Str).eraseDups.length = 3 := by
    simp [List.eraseDups_cons, hne, hne', hne2, hne2', hne3, hne3']
  simp [hb, hx, hy, hz, hl, ← hl2, hf, hc, hlen, Expr.pos, dd]
  exact fun v hv h => (star_no hs v hv h).elim
theorem fm_lt {α β : Type} {f : α → Option β} : ∀ {l : List α}, (∃ a ∈ l, f a = none) → (l.filterMap f).length < l.length
  | [], ⟨_, h, _⟩ => by cases h
  | b :: l, ⟨a, h, e⟩ => by
    rw [List.filterMap_cons]
    rcases List.mem_cons.mp h with z | z
    · subst z
      rw [e]
      exact Nat.lt_succ_of_le (List.length_filterMap_le f l)
    · have ih := fm_lt (f := f) (l := l) ⟨a, z, e⟩
      cases f b with
      | none => exact Nat.lt_succ_of_lt ih
      | some c => exact Nat.succ_lt_succ ih
theorem sw_none {ns vs : List Expr} {k1 k2 : Nat} {p1 p2 : Pos} {env : PySem.Env} (h : noSwapB env.scope ns vs = true) : swappedStores [.Tuple ns k1 p1] (.Tuple vs k2 p2) env = pure none := by
  unfold noSwapB at h
  rw [Bool.or_eq_true, Bool.or_eq_true] at h
  unfold swappedStores
  dsimp only
  split
  · rfl
  · rename_i hl
    split
    · rfl
    · split
      · rfl
      · rename_i hn
        split
        · rfl
        · rename_i hf
          exfalso
          rcases h with (h | h) | h
          · exact hf h
          · refine hl ?_
            rw [h]; rfl
          · obtain ⟨e, hm, he⟩ := List.any_eq_true.mp h
            refine hn ?_
            rw [Bool.or_eq_true]
            left
            rw [bne_iff_ne]
            refine Nat.ne_of_lt (fm_lt ⟨e, hm, ?_⟩)
            cases e with
            | Name x p =>
              have hk : lclB env.scope x = false := by simpa [noLcl] using he
              have hk' : ¬ env.kindOf x = some .local := lcl_not hk
              simp [hk']
            | _ => rfl
theorem gNames_vs : ∀ {ts : List (Bool × Nat)} {vs : List V} {σ : L2.St} {H : Hp} {Q : L2.St → Hp → Prop}, vs.length = ts.length → Q (setVs ts vs σ) H → gNames (ts.map fun x => x.2) vs σ H Q
  | [], [], σ, H, Q, _, q => ⟨rfl, q⟩
  | (b, i) :: ts, v :: vs, σ, H, Q, l, q => ⟨v, vs, rfl, gNames_vs (ts := ts) (by simpa using l) q⟩
  | [], _ :: _, _, _, _, l, _ => by simp at l
  | _ :: _, [], _, _, _, l, _ => by simp at l
theorem ps_parG {ts : List (Bool × Nat)} {as : EL} {ns vs : List Expr} {k1 k2 : Nat} {p1 p2 pos : Pos} (xo : XOkS X k W) (g : goodL (GoodX X k) (GC (gm X k)) as) (hn : chkNms X.N X.env.scope (ts.map fun x => x.2) ns = true) (hv : chkL X.N X.env.scope as vs = true) (hp : parOk ts as = true)
    (hd : (ts.map fun x => x.2).Nodup) (hs : (swapB X.env.scope ns vs || noSwapB X.env.scope ns vs) = true) (hz : ts.length ≤ 1000) :
    PS X (.Assign [.Tuple ns k1 p1] (.Tuple vs k2 p2) pos) (fun Dn σ H => tArgs X W ts as σ H fun ws H1 => ws.length = ts.length ∧ ∀ H2, Same X.K H1 H2 → Dn.nx (setVs ts ws σ) H2) := by
  obtain ⟨pa, ns0⟩ := pa_args xo.toXOk g hv hp
  have hss : swapsWithSole [.Tuple ns k1 p1] (.Tuple vs k2 p2) pos.line X.env = pure false := rfl
  by_cases hno : swappedStores [.Tuple ns k1 p1] (.Tuple vs k2 p2) X.env = pure none
  · obtain ⟨a, b⟩ := assign_names (X := X) hn
    refine ps_weak (ps_asg (pe_tup pa) (pg_tup xo.calm (pgs_nms rfl xo.nd xo.hf hn) a b) hss hno rfl) fun Dn σ H q => ?_
    refine tArgs_mono q fun ws H1 z => ?_
    obtain ⟨l, z⟩ := z
    refine ⟨?_, fun p n => ?_⟩
    · rw [l]; exact Nat.le_of_lt (small1000 hz)
    · refine ⟨p, ws, rfl, SqT.of upd_same, by rw [l, List.length_map], ?_⟩
      exact gNames_vs l (z _ (same_new n))
  · have hsw : swapB X.env.scope ns vs = true := by
      cases hb : swapB X.env.scope ns vs with
      | true => rfl
      | false =>
        exfalso
        rw [hb] at hs
        exact hno (sw_none (by simpa using hs))
    match ns, hn, hsw with
    | [.Name x p, .Name y q], hn, hsw =>
      match ts, hn, pa, hd with
      | [(b1, i), (b2, j)], hn, pa, hd =>
        have hn' : (X.N[i]? = some x ∧ locB X.env.scope x = true) ∧ X.N[j]? = some y ∧ locB X.env.scope y = true := by simpa [chkNms, chkNm] using hn
        have hsw' : ((((((lclB X.env.scope x = true ∧ lclB X.env.scope y = true) ∧ p.line = q.line) ∧ ¬ x = y) ∧ vs.all (foldedForSure 8) = false) ∧ vs.all (constantsAlone 8) = false) ∧ vs.all notStar = true) ∧ vs.length = 2 := by
          simp only [swapB, Bool.and_eq_true, Bool.not_eq_true', beq_iff_eq, decide_eq_true_eq, beq_eq_false_iff_ne] at hsw
          exact hsw
        obtain ⟨⟨⟨⟨⟨⟨⟨l1, l2⟩, ln⟩, ne⟩, hf⟩, hc⟩, hst⟩, hlen⟩ := hsw'
        have hw := sw2 (k1 := k1) (k2 := k2) (p1 := p1) (p2 := p2) (blk_fn xo) (lcl_of l1) (lcl_of l2) ln ne hf hc hst hlen
        have hij : i ≠ j := by
          intro e
          subst e
          simp at hd
        match vs, hw, pa with
        | [a, b], hw, pa =>
          refine ps_weak (ps_par xo.calm xo.nd hn'.1.1 hn'.2.1 hij (lcl_of l1) (lcl_of l2) pa hw hss) fun Dn σ H q => ?_
          refine tArgs_mono q fun ws H1 z => ?_
          obtain ⟨l, z⟩ := z
          match ws, l with
          | [v, w], _ => exact ⟨v, w, rfl, z H1 (Same.refl H1)⟩
        | [], hw, pa => simp at hlen
        | [_], hw, pa => simp at hlen
        | _ :: _ :: _ :: _, hw, pa => simp at hlen
      | [], hn, _, _ => cases hn
      | [_], hn, _, _ => simp [chkNms] at hn
      | _ :: _ :: _ :: _, hn, _, _ => simp [chkNms] at hn
    | [.Name x p, .Name y q, .Name z r], hn, hsw =>
      match ts, hn, pa, hd with
      | [(b1, i), (b2, j), (b3, m)], hn, pa, hd =>
        have hn' : (X.N[i]? = some x ∧ locB X.env.scope x = true) ∧ (X.N[j]? = some y ∧ locB X.env.scope y = true) ∧ X.N[m]? = some z ∧ locB X.env.scope z = true := by simpa [chkNms, chkNm] using hn
        have hsw' : ((((((((((lclB X.env.scope x = true ∧ lclB X.env.scope y = true) ∧ lclB X.env.scope z = true) ∧ p.line = q.line) ∧ p.line = r.line) ∧ ¬ x = y) ∧ ¬ x = z) ∧ ¬ y = z) ∧ vs.all (foldedForSure 8) = false) ∧ vs.all (constantsAlone 8) = false) ∧ vs.all notStar = true) ∧ vs.length = 3 := by
          simp only [swapB, Bool.and_eq_true, Bool.not_eq_true', beq_iff_eq, decide_eq_true_eq, beq_eq_false_iff_ne] at hsw
          exact hsw
        obtain ⟨⟨⟨⟨⟨⟨⟨⟨⟨⟨⟨l1, l2⟩, l3⟩, ln⟩, ln2⟩, ne⟩, ne2⟩, ne3⟩, hf⟩, hc⟩, hst⟩, hlen⟩ := hsw'
        have hw := sw3 (k1 := k1) (k2 := k2) (p1 := p1) (p2 := p2) (blk_fn xo) (lcl_of l1) (lcl_of l2) (lcl_of l3) ln ln2 ne ne2 ne3 hf hc hst hlen
        have hd' : (i ≠ j ∧ i ≠ m) ∧ j ≠ m := by simpa using hd
        match vs, hw, pa with
        | [a, b, c], hw, pa =>
          refine ps_weak (ps_par3 xo.calm xo.nd hn'.1.1 hn'.2.1.1 hn'.2.2.1 hd'.1.1 hd'.1.2 hd'.2 (lcl_of l1) (lcl_of l2) (lcl_of l3) pa hw hss) fun Dn σ H q => ?_
          refine tArgs_mono q fun ws H1 z => ?_
          obtain ⟨l, z⟩ := z
          match ws, l with
          | [v, w, u], _ => exact ⟨v, w, u, rfl, z H1 (Same.refl H1)⟩
        | [], hw, pa => simp at hlen
        | [_], hw, pa => simp at hlen
        | [_, _], hw, pa => simp at hlen
        | _ :: _ :: _ :: _ :: _, hw, pa => simp at hlen
      | [], hn, _, _ => cases hn
      | [_], hn, _, _ => simp [chkNms] at hn
      | [_, _], hn, _, _ => simp [chkNms] at hn
      | _ :: _ :: _ :: _ :: _, hn, _, _ => simp [chkNms] at hn
end
end PL

namespace PL
open PySem PySem.Spec PyProof.Rows L2

section
variable {X : Cx} {W : WX} {H0 : Hp} {M0 : Mk} {k : Nat}
theorem few1 {v : Expr} {cp : Pos} (hv : notStar v = true) : ((backTo cp (starEach (v :: []) X.env)).all (fun x => !x.1) && (backToKw cp (keywordEach [] X.env)).all (fun x => x.1.isSome)
      && decide ((v :: ([] : List Expr)).length + ([] : List Keyword).length + (if ([] : List Keyword).isEmpty then 0 else 1) < 30)) = true := by
  rw [star_of hv]; rfl
/-- x.m(v), x a name -/
theorem pe_meth1 {x : Str} {p ap cp : Pos} {i : Nat} {name : Str} {id : String} {r : V → List V → Hp → VK → Prop} {v : Expr} {tv : TE} (slot : Slot "list" name id) (hty : typeOf (.builtin id) = pure (.type "method_descriptor")) (hm : MtR X id r)
    (hN : X.N[i]? = some x) (hvx : Vis X.env.scope x) (hok : okName x = true) (hv : PE X v tv) (ns : notStar v = true) (hl : (ap.endLine == cp.line) = true) :
    PE X (.Call (.Attribute (.Name x p) name ap) [v] [] cp) (tBM X.K "list" r (tVar i) (tCons tv tNil)) :=
  pe_bm PySem.F.plainAttrs_list slot hty hm (pe_var hN hvx (okName_of hok).1 (okName_of hok).2) (pa_cons hv pa_nil (star_of ns [] X.env)) rfl (few1 ns) hl (star_of ns [] X.env) rfl
theorem own_len {K : PySem.W.Frag} {H : Hp} {M : Mk} {vs : List V} {l : List D} (r : RepAll K M H vs l) (h : l.length < sizeD) : vs.length < sizeLine := by
  rw [r.length]; exact Nat.lt_trans h sizeD_lt
theorem own_of {s : SE} {i : Nat} {f : List D → Out} {M : Mk} {H : Hp} {Dn : Ends} (o : OutS X W H0 M0 M H Dn (withOwn s i f)) : ∃ l, s[i]? = some (.own l) ∧ OutS X W H0 M0 M H Dn (f l) := by
  unfold withOwn at o
  split at o
  · rename_i l e; exact ⟨l, e, o⟩
  · exact o.elim
theorem st_app {h : Bool} {i : Nat} {e : E} {Dn : Ends} {σ : L2.St} {H : Hp} (q : tSS X W H0 M0 (run1 (.app h i e)) Dn σ H) : tDrop (tBM X.K "list" rAppend (tVar i) (tCons (tS X W (ev e)) tNil)) Dn σ H := by
  obtain ⟨A, s, r, o⟩ := q
  obtain ⟨l, es, o⟩ := own_of o
  obtain ⟨ai, eA, n0, nm, ev1, vs, hl, ra⟩ := r.ownL i l es
  refine ⟨_, ev1, .inl ⟨rfl, _, SqL.of hl⟩, ?_⟩
  refine see_out (h := h) r o fun d v H' e1 s' rv r' o' => ?_
  unfold appD at o'
  by_cases hc : (okFor h d && decide (l.length < sizeD)) = true
  · rw [if_pos hc] at o'
    rw [Bool.and_eq_true] at hc
    refine ⟨ai, vs, v, rfl, rfl, s'.get _ _ hl, own_len ra (of_decide_eq_true hc.2), ?_⟩
    obtain ⟨r2, f2⟩ := r'.upd (vs := vs ++ [v]) (l' := l ++ [d]) es eA ((ra.same s').append (.cons (rep_ok r' rv hc.1) .nil))
    exact o' σ _ A r2 ((Frame.grow r.dm s' fun _ m => m).trans f2)
  · rw [if_neg hc] at o'; exact o'.elim
theorem st_extd {h : Bool} {i : Nat} {e : E} {Dn : Ends} {σ : L2.St} {H : Hp} (q : tSS X W H0 M0 (run1 (.extd h i e)) Dn σ H) : tDrop (tBM X.K "list" rExtend (tVar i) (tCons (tS X W (ev e)) tNil)) Dn σ H := by
  obtain ⟨A, s, r, o⟩ := q
  obtain ⟨l, es, o⟩ := own_of o
  obtain ⟨ai, eA, n0, nm, ev1, vs, hl, ra⟩ := r.ownL i l es
  refine ⟨_, ev1, .inl ⟨rfl, _, SqL.of hl⟩, ?_⟩
  refine see_out (h := h) r o fun d v H' e1 s' rv r' o' => ?_
  cases d with
  | lst ds =>
    have o2 : OutS X W H0 M0 (marks M0 A s) H Dn (if ((h || flatAll ds) && decide (l.length + ds.length < sizeD)) = true then .nx (s.set i (.own (l ++ ds))) else .stuck) := o'
    by_cases hc : ((h || flatAll ds) && decide (l.length + ds.length < sizeD)) = true
    · rw [if_pos hc] at o2
      rw [Bool.and_eq_true] at hc
      cases rv with
      | @lst b zs _ sq m rb =>
        refine ⟨ai, b, vs, zs, rfl, rfl, s'.get _ _ hl, sq, ?_, ?_⟩
        · rw [ra.length, rb.length]
          exact Nat.le_of_lt (Nat.lt_trans (of_decide_eq_true hc.2) sizeD_lt)
        · obtain ⟨r2, f2⟩ := r'.upd (vs := vs ++ zs) (l' := l ++ ds) es eA ((ra.same s').append (repAll_ok r' rb hc.1))
          exact o2 σ _ A r2 ((Frame.grow r.dm s' fun _ m => m).trans f2)
    · rw [if_neg hc] at o2; exact o2.elim
  | _ => exact o'.elim
theorem st_six {h : Bool} {i : Nat} {x e : E} {Dn : Ends} {σ : L2.St} {H : Hp} (q : tSS X W H0 M0 (run1 (.six h i x e)) Dn σ H) : tAsg (tS X W (ev e)) (gSub (tVar i) (tS X W (ev x)) rSetL) Dn σ H := by
  obtain ⟨A, s, r, o⟩ := q
  obtain ⟨l, es, o⟩ := own_of o
  obtain ⟨ai, eA, n0, nm, ev1, vs, hl, ra⟩ := r.ownL i l es
  refine see_out (h := h) r o fun d v H' e1 s' rv r' o' => ?_
  refine ⟨_, ev1, ?_⟩
  refine ⟨M0, full s, r'.dmM0, r'.full, ?_⟩
  cases e2 : ev x (full s) with
  | exc c => rw [e2] at o'; exact o'.elim
  | stuck => rw [e2] at o'; exact o'.elim
  | ok kd =>
    rw [e2] at o'
    intro kv H2 s2 rk
    cases kd with
    | int n =>
      cases rk
      have o2 : OutS X W H0 M0 (marks M0 A s) H Dn (match ixN l.length n with | some j => if okFor h d then .nx (s.set i (.own (l.set j d))) else .stuck | none => .stuck) := o'
      cases e3 : ixN l.length n with
      | none => rw [e3] at o2; exact o2.elim
      | some j =>
        rw [e3] at o2
        by_cases hc : okFor h d = true
        · dsimp only at o2
          rw [if_pos hc] at o2
          have s12 := s'.trans s2
          refine ⟨ai, vs, n, j, rfl, rfl, s12.get _ _ hl, by rw [ra.length]; exact e3, ?_⟩
          have r2 := r'.grow s2
          obtain ⟨r3, f3⟩ := r2.upd (vs := vs.set j v) (l' := l.set j d) es eA ((ra.same s12).set ((rep_ok r' rv hc).same s2) j)
          exact o2 σ _ A r3 ((Frame.grow r.dm s12 fun _ m => m).trans f3)
        · dsimp only at o2
          rw [if_neg hc] at o2; exact o2.elim
    | _ => exact o'.elim
theorem st_pop {i : Nat} {Dn : Ends} {σ : L2.St} {H : Hp} (q : tSS X W H0 M0 (run1 (.pop i)) Dn σ H) : tDrop (tBM0 X.K "list" rPop (tVar i)) Dn σ H := by
  obtain ⟨A, s, r, o⟩ := q
  obtain ⟨l, es, o⟩ := own_of o
  obtain ⟨ai, eA, n0, nm, ev1, vs, hl, ra⟩ := r.ownL i l es
  unfold popD at o
  by_cases hc : l.isEmpty = true
  · rw [if_pos hc] at o; exact o.elim
  · rw [if_neg hc] at o
    have hne : 0 < vs.length := by
      rw [ra.length]
      cases l with
      | nil => exact absurd rfl hc
      | cons a b => exact Nat.succ_pos _
    refine ⟨_, ev1, .inl ⟨rfl, _, SqL.of hl⟩, ai, vs, vs[vs.length - 1], rfl, rfl, hl, List.getElem?_eq_getElem (by omega), ?_⟩
    obtain ⟨r2, f2⟩ := r.upd (vs := vs.dropLast) (l' := l.dropLast) es eA ra.dropLast
    exact o σ _ A r2 f2
theorem st_raise {c : Str} {Dn : Ends} {σ : L2.St} {H : Hp} {C : Addr} (g : X.mg c = some (.ref C)) (q : tSS X W H0 M0 (run1 (.raise c)) Dn σ H) : W (.ref C) none σ H := by
  obtain ⟨A, s, r, o⟩ := q
  have := o σ H r.same (Frame.grow r.dm (Same.refl H) fun a => .inl)
  unfold excV at this
  rw [g] at this
  exact this
theorem assign_sub {o i : Expr} {pos : Pos} (h : notSlice i = true) : ∀ u, assign (.Subscript o i pos) X.env u = (do
      let ov ← holding [u] (eval o X.env)
      let iv ← holding [u, ov] (eval i X.env)
      standAt pos
      holding [u, ov, iv] (setItem ov iv u)
      release [u, ov, iv] []) := by intro _; cases i <;> first | rfl | cases h
end
end PL

namespace PL
open PySem PySem.Spec PyProof.Rows L2
theorem optM {α : Type} {o : Option α} {f : α → Bool} (h : oB o f = true) : ∃ a, o = some a ∧ f a = true := by
  cases o with
  | none => cases h
  | some a => exact ⟨a, rfl, h⟩
theorem chkV_of {N : List Str} {sc : Scope} {i : Nat} {x : Str} (h : chkV N sc i x = true) : N[i]? = some x ∧ Vis sc x ∧ okName x = true := by
  unfold chkV at h
  rw [Bool.and_eq_true, Bool.and_eq_true, decide_eq_true_eq] at h
  exact ⟨h.1.1, vis_of h.1.2, h.2⟩
theorem chkM_of {N : List Str} {sc : Scope} {i : Nat} {e : E} {name : Str} {st : Stmt} (h : chkM N sc i e name st = true) :
    ∃ x p ap v cp pos, st = .Expr (.Call (.Attribute (.Name x p) name ap) [v] [] cp) pos ∧ N[i]? = some x ∧ Vis sc x ∧ okName x = true ∧ chk N sc e v = true ∧ notStar v = true ∧ (ap.endLine == cp.line) = true := by
  unfold chkM at h
  split at h
  · rename_i x p m ap v cp e1
    rw [Bool.and_eq_true, Bool.and_eq_true, Bool.and_eq_true, Bool.and_eq_true, decide_eq_true_eq] at h
    obtain ⟨⟨⟨⟨h1, h2⟩, h3⟩, h4⟩, h5⟩ := h
    obtain ⟨pos, rfl⟩ := asMeth_eq e1
    obtain ⟨a, b, c⟩ := chkV_of h1
    subst h2
    exact ⟨x, p, ap, v, cp, pos, rfl, a, b, c, h3, h4, h5⟩
  · cases h
section
variable {X : Cx} {W : WX} {H0 : Hp} {M0 : Mk} {k : Nat}
theorem snd_set {hd : Bool} {i : Nat} {e : E} (xo : XOkS X k W) (g : good (GoodX X k) (GC (gm X k)) e) {st : Stmt} (h : chkS1 X.N X.env.scope (.set hd i e) st = true) : PS X st (tSS X W H0 M0 (run1 (.set hd i e))) := by
  obtain ⟨⟨x, p, v⟩, e1, hh⟩ := optM (o := asName st) (f := fun t => chkNm X.N X.env.scope i (.Name t.1 t.2.1) && chk X.N X.env.scope e t.2.2 && (isComp e || notComp t.2.2)) h
  obtain ⟨pos, rfl⟩ := asName_eq e1
  rw [Bool.and_eq_true, Bool.and_eq_true] at hh
  exact ps_weak (ps_setG xo hh.1.1 g hh.1.2 hh.2).1 fun Dn σ H q => st_set q
theorem snd_own {hd : Bool} {i : Nat} {e : E} (xo : XOkS X k W) (g : good (GoodX X k) (GC (gm X k)) e) {st : Stmt} (h : chkS1 X.N X.env.scope (.own hd i e) st = true) : PS X st (tSS X W H0 M0 (run1 (.own hd i e))) := by
  obtain ⟨⟨x, p, v⟩, e1, hh⟩ := optM (o := asName st) (f := fun t => chkNm X.N X.env.scope i (.Name t.1 t.2.1) && chk X.N X.env.scope e t.2.2 && (isComp e || notComp t.2.2) && freshE e) h
  obtain ⟨pos, rfl⟩ := asName_eq e1
  rw [Bool.and_eq_true, Bool.and_eq_true, Bool.and_eq_true] at hh
  exact ps_weak ((ps_setG xo hh.1.1.1 g hh.1.1.2 hh.1.2).2 hh.2) fun Dn σ H q => st_own q
theorem swap_unp {ts : List Expr} {kk : Nat} {p : Pos} {v : Expr} (h3 : notTup v = true) : swappedStores [.Tuple ts kk p] v X.env = pure none := by
  unfold swappedStores
  cases v <;> first | rfl | cases h3
theorem swaps_other {t v : Expr} {l : Nat} (h : nameOf t = none) : swapsWith v (some t) l X.env = pure false := by
  cases v with
  | ListComp a b c d => cases t <;> first | rfl | cases h
  | SetComp a b c d => cases t <;> first | rfl | cases h
  | DictComp a b c d f => cases t <;> first | rfl | cases h
  | _ => rfl
theorem snd_unp {hd : Bool} {is : List Nat} {e : E} (xo : XOkS X k W) (g : good (GoodX X k) (GC (gm X k)) e) {st : Stmt} (h : chkS1 X.N X.env.scope (.unp hd is e) st = true) : PS X st (tSS X W H0 M0 (run1 (.unp hd is e))) := by
  obtain ⟨⟨ts, v⟩, e1, hh⟩ := optM (o := asTup st) (f := fun t => chkNms X.N X.env.scope is t.1 && chk X.N X.env.scope e t.2 && notTup t.2) h
  obtain ⟨kk, p, pos, rfl⟩ := asTup_eq e1
  rw [Bool.and_eq_true, Bool.and_eq_true] at hh
  obtain ⟨⟨h1, h2⟩, h3⟩ := hh
  have se := snd_e e xo.toXOk g v h2
  obtain ⟨a, b⟩ := assign_names (X := X) h1
  have pg : PG X (.Tuple ts kk p) (gOr (gTup X.K is.length (gNames is)) (gLst X.K is.length (gNames is))) :=
    pg_or (pg_tup xo.calm (pgs_nms rfl xo.nd xo.hf h1) a b) (pg_lst xo.calm (pgs_nms rfl xo.nd xo.hf h1) a b)
  exact ps_weak (ps_asg se.pe pg (show swapsWith v (some (.Tuple ts kk p)) pos.line X.env = pure false from swaps_other (t := .Tuple ts kk p) rfl) (swap_unp h3) rfl) fun Dn σ H q => st_unp q
theorem snd_par {hd : Bool} {ts : List (Bool × Nat)} {as : EL} (xo : XOkS X k W) (g : goodL (GoodX X k) (GC (gm X k)) as) {st : Stmt} (h : chkS1 X.N X.env.scope (.par hd ts as) st = true) : PS X st (tSS X W H0 M0 (run1 (.par hd ts as))) := by
  obtain ⟨⟨ns, v⟩, e1, hh⟩ := optM (o := asTup st) (f := fun t => oB (tupE t.2) fun vs => chkNms X.N X.env.scope (ts.map fun (x : Bool × Nat) => x.2) t.1 && chkL X.N X.env.scope as vs && parOk ts as && decide ((ts.map fun (x : Bool × Nat) => x.2).Nodup) && (swapB X.env.scope t.1 vs || noSwapB X.env.scope t.1 vs) && decide (ts.length ≤ 1000)) h
  obtain ⟨k1, p1, pos, rfl⟩ := asTup_eq e1
  obtain ⟨vs, e2, hk⟩ := optM (o := tupE v) (f := fun vs => chkNms X.N X.env.scope (ts.map fun (x : Bool × Nat) => x.2) ns && chkL X.N X.env.scope as vs && parOk ts as && decide ((ts.map fun (x : Bool × Nat) => x.2).Nodup) && (swapB X.env.scope ns vs || noSwapB X.env.scope ns vs) && decide (ts.length ≤ 1000)) hh
  obtain ⟨k2, p2, rfl⟩ := tupE_eq e2
  rw [Bool.and_eq_true, Bool.and_eq_true, Bool.and_eq_true, Bool.and_eq_true, Bool.and_eq_true, decide_eq_true_eq, decide_eq_true_eq] at hk
  obtain ⟨⟨⟨⟨⟨h1, h2⟩, h3⟩, h4⟩, h5⟩, h6⟩ := hk
  exact ps_weak (ps_parG xo g h1 h2 h3 h4 h5 h6) fun Dn σ H q => st_par h3 q
theorem snd_expr {e : E} (xo : XOkS X k W) (g : good (GoodX X k) (GC (gm X k)) e) {st : Stmt} (h : chkS1 X.N X.env.scope (.expr e) st = true) : PS X st (tSS X W H0 M0 (run1 (.expr e))) := by
  obtain ⟨v, e1, hh⟩ := optM (o := asExpr st) (f := fun v => chk X.N X.env.scope e v && notComp v) h
  obtain ⟨pos, rfl⟩ := asExpr_eq e1
  rw [Bool.and_eq_true] at hh
  exact ps_weak (ps_expr (snd_e e xo.toXOk g v hh.1).pe (swaps_no hh.2)) fun Dn σ H q => st_expr q
theorem snd_app {hd : Bool} {i : Nat} {e : E} (xo : XOkS X k W) (g : good (GoodX X k) (GC (gm X k)) e) {st : Stmt} (h : chkS1 X.N X.env.scope (.app hd i e) st = true) : PS X st (tSS X W H0 M0 (run1 (.app hd i e))) := by
  obtain ⟨x, p, ap, v, cp, pos, rfl, h1, h2, h3, h5, h6, h7⟩ := chkM_of h
  exact ps_weak (ps_expr (pe_meth1 PySem.F.slot_list_append PySem.F.type_list_append mt_append h1 h2 h3 (snd_e e xo.toXOk g v h5).pe h6 h7)) fun Dn σ H q => st_app q
theorem snd_extd {hd : Bool} {i : Nat} {e : E} (xo : XOkS X k W) (g : good (GoodX X k) (GC (gm X k)) e) {st : Stmt} (h : chkS1 X.N X.env.scope (.extd hd i e) st = true) : PS X st (tSS X W H0 M0 (run1 (.extd hd i e))) := by
  obtain ⟨x, p, ap, v, cp, pos, rfl, h1, h2, h3, h5, h6, h7⟩ := chkM_of h
  exact ps_weak (ps_expr (pe_meth1 PySem.F.slot_list_extend PySem.F.type_list_extend mt_extend h1 h2 h3 (snd_e e xo.toXOk g v h5).pe h6 h7)) fun Dn σ H q => st_extd q
theorem snd_six {hd : Bool} {i : Nat} {ix e : E} (xo : XOkS X k W) (gx : good (GoodX X k) (GC (gm X k)) ix) (g : good (GoodX X k) (GC (gm X k)) e) {st : Stmt} (h : chkS1 X.N X.env.scope (.six hd i ix e) st = true) : PS X st (tSS X W H0 M0 (run1 (.six hd i ix e))) := by
  obtain ⟨⟨x, p, y, v⟩, e1, hh⟩ := optM (o := asSub st) (f := fun t => chkV X.N X.env.scope i t.1 && chk X.N X.env.scope ix t.2.2.1 && chk X.N X.env.scope e t.2.2.2 && notSlice t.2.2.1) h
  obtain ⟨q, pos, rfl⟩ := asSub_eq e1
  rw [Bool.and_eq_true, Bool.and_eq_true, Bool.and_eq_true] at hh
  obtain ⟨⟨⟨h1, h2⟩, h3⟩, h4⟩ := hh
  obtain ⟨a, b, c⟩ := chkV_of h1
  exact ps_weak (ps_asg (snd_e e xo.toXOk g v h3).pe (pg_sub (pe_var a b (okName_of c).1 (okName_of c).2) (snd_e ix xo.toXOk gx y h2).pe set_list (assign_sub h4)) (show swapsWith v (some (.Subscript (.Name x p) y q)) pos.line X.env = pure false from swaps_other (t := .Subscript (.Name x p) y q) rfl) rfl rfl) fun Dn σ H q => st_six q
theorem snd_pop {i : Nat} {st : Stmt} (h : chkS1 X.N X.env.scope (.pop i) st = true) : PS X st (tSS X W H0 M0 (run1 (.pop i))) := by
  obtain ⟨⟨x, p, m, ap, as, cp⟩, e1, hh⟩ := optM (o := asMeth st) (f := fun t => chkV X.N X.env.scope i t.1 && decide (t.2.2.1 = "pop") && (t.2.2.2.1.endLine == t.2.2.2.2.2.line) && t.2.2.2.2.1.isEmpty) h
  obtain ⟨pos, rfl⟩ := asMeth_eq e1
  rw [Bool.and_eq_true, Bool.and_eq_true, Bool.and_eq_true, decide_eq_true_eq] at hh
  obtain ⟨⟨⟨h1, h2⟩, h3⟩, h4⟩ := hh
  have h2' : m = "pop" := h2
  have h4' : as = [] := by simpa using h4
  subst h2' h4'
  obtain ⟨a, b, c⟩ := chkV_of h1
  exact ps_weak (ps_expr (pe_bm0 PySem.F.plainAttrs_list PySem.F.slot_list_pop PySem.F.type_list_pop mt_pop (pe_var a b (okName_of c).1 (okName_of c).2) rfl h3)) fun Dn σ H q => st_pop q
theorem snd_ret {e : E} (xo : XOkS X k W) (g : good (GoodX X k) (GC (gm X k)) e) {st : Stmt} (h : chkS1 X.N X.env.scope (.ret e) st = true) : PS X st (tSS X W H0 M0 (run1 (.ret e))) := by
  obtain ⟨v, e1, hh⟩ := optM (o := asRet st) (f := fun v => chk X.N X.env.scope e v) h
  obtain ⟨pos, rfl⟩ := asRet_eq e1
  exact ps_weak (ps_ret (snd_e e xo.toXOk g v hh).pe) fun Dn σ H q => st_ret q
theorem for_set {N : List Str} {sc : Scope} {it : IT} {t i : Expr} (h2 : chkI N sc it t i = true) (v : Value) : foldedSetIterable i X.env v = pure v := by
  refine notSet_folded ?_ v
  cases i with
  | Set a b c =>
    cases it with
    | seq a => simp [chkI] at h2
    | _ => cases h2
  | _ => rfl
theorem snd_raise {c : Str} (xo : XOkS X k W) (g : RaiseC X.K X.mg c) {st : Stmt} (h : chkS1 X.N X.env.scope (.raise c) st = true) : PS X st (tSS X W H0 M0 (run1 (.raise c))) := by
  obtain ⟨x, e1, hh⟩ := optM (o := asRaise st) (f := fun x => decide (c = x) && glB X.env.scope x && okName x) h
  obtain ⟨p, m, j, p2, p3, pos, rfl⟩ := asRaise_eq e1
  rw [Bool.and_eq_true, Bool.and_eq_true, decide_eq_true_eq] at hh
  obtain ⟨⟨h1, h2⟩, h3⟩ := hh
  subst h1
  obtain ⟨C, g1, g2, g3, g4, g5⟩ := g.ex
  exact ps_weak (ps_raise xo.calm xo.tk (pmk_own PySem.F.excBase_ValueError g2 g1 g3 (raises_own g4 g5) (gl_of h2) (okName_of h3).1)) fun Dn σ H q => st_raise g1 q
end
mutual
theorem snd_S : ∀ (b : S) {X : Cx} {k : Nat} {W : WX} {H0 : Hp} {M0 : Mk}, XOkS X k W → goodS (GoodX X k) (GC (gm X k)) (RaiseC X.K X.mg) b → ∀ sts, chkS X.N X.env.scope b sts = true → PSs X sts (tSS X W H0 M0 (run b))
  | .nil, X, k, W, H0, M0, xo, g, sts, h => by
    cases sts with
    | nil =>
      refine pss_weak pss_nil fun Dn σ H q => ?_
      obtain ⟨A, s, r, o⟩ := q
      exact o σ H A r (Frame.refl r.dm)
    | cons a b => cases h
  | .cons a r, X, k, W, H0, M0, xo, g, sts, h => by
    cases sts with
    | nil => cases h
    | cons st sts =>
      have h' : (chkS1 X.N X.env.scope a st && chkS X.N X.env.scope r sts) = true := h
      rw [Bool.and_eq_true] at h'
      exact pss_weak (pss_cons (snd_S1 a xo g.1 st h'.1) (snd_S r xo g.2 sts h'.2)) fun Dn σ H q => s_seq q
  | .frz i r, X, k, W, H0, M0, xo, g, sts, h => by
    have h' : chkS X.N X.env.scope r sts = true := by cases sts <;> exact h
    refine pss_weak (snd_S r (H0 := H0) (M0 := M0) xo g sts h') fun Dn σ H q => ?_
    obtain ⟨A, s, re, o⟩ := q
    have o1 : OutS X W H0 M0 (marks M0 A s) H Dn (match s[i]? with | some (.own l) => run r (s.set i (.ro (.lst l))) | some (.odt d) => run r (s.set i (.ro d)) | _ => run r s) := o
    cases e : s[i]? with
    | none => rw [e] at o1; exact ⟨A, s, re, o1⟩
    | some x =>
      rw [e] at o1
      cases x with
      | no => exact ⟨A, s, re, o1⟩
      | ro d => exact ⟨A, s, re, o1⟩
      | obj c d => exact ⟨A, s, re, o1⟩
      | odt d => exact ⟨A, _, re.freezeD e, OutS.mono o1 ⟨Keep.refl _ _, fun a m => .inl (marks_set_sub a m), re.dm⟩⟩
      | own l => exact ⟨A, _, re.freeze e, OutS.mono o1 ⟨Keep.refl _ _, fun a m => .inl (marks_set_sub a m), re.dm⟩⟩
theorem snd_S1 : ∀ (b : S1) {X : Cx} {k : Nat} {W : WX} {H0 : Hp} {M0 : Mk}, XOkS X k W → goodS1 (GoodX X k) (GC (gm X k)) (RaiseC X.K X.mg) b → ∀ st, chkS1 X.N X.env.scope b st = true → PS X st (tSS X W H0 M0 (run1 b))
  | .set hd i e, X, k, W, H0, M0, xo, g, st, h => snd_set xo g h
  | .own hd i e, X, k, W, H0, M0, xo, g, st, h => snd_own xo g h
  | .unp hd is e, X, k, W, H0, M0, xo, g, st, h => snd_unp xo g h
  | .par hd ts as, X, k, W, H0, M0, xo, g, st, h => snd_par xo g h
  | .expr e, X, k, W, H0, M0, xo, g, st, h => snd_expr xo g h
  | .app hd i e, X, k, W, H0, M0, xo, g, st, h => snd_app xo g h
  | .extd hd i e, X, k, W, H0, M0, xo, g, st, h => snd_extd xo g h
  | .six hd i ix e, X, k, W, H0, M0, xo, g, st, h => snd_six xo g.1 g.2 h
  | .pop i, X, k, W, H0, M0, xo, g, st, h => snd_pop h
  | .ret e, X, k, W, H0, M0, xo, g, st, h => snd_ret xo g h
  | .ite c a b, X, k, W, H0, M0, xo, g, st, h => by
    obtain ⟨⟨x, y, z⟩, e1, hh⟩ := optM (o := asIf st) (f := fun t => chk X.N X.env.scope c t.1 && chkS X.N X.env.scope a t.2.1 && chkS X.N X.env.scope b t.2.2) h
    obtain ⟨pos, rfl⟩ := asIf_eq e1
    rw [Bool.and_eq_true, Bool.and_eq_true] at hh
    exact ps_weak (ps_if (snd_e c xo.toXOk g.1 x hh.1.1).pt (snd_S a xo g.2.1 y hh.1.2) (snd_S b xo g.2.2 z hh.2)) fun Dn σ H q => st_ite q
  | .for_ tg it b, X, k, W, H0, M0, xo, g, st, h => by
    obtain ⟨⟨t, i, body⟩, e1, hh⟩ := optM (o := asFor st) (f := fun t => chkTg X.N X.env.scope tg t.1 && chkI X.N X.env.scope it t.1 t.2.1 && chkS X.N X.env.scope b t.2.2) h
    obtain ⟨pos, rfl⟩ := asFor_eq e1
    rw [Bool.and_eq_true, Bool.and_eq_true] at hh
    obtain ⟨⟨h1, h2⟩, h3⟩ := hh
    exact ps_weak (ps_for xo.po xo.calm (snd_I it xo.toXOk g.1 t i h2) (pg_tg xo.calm rfl xo.nd xo.hf h1) (snd_S b xo g.2 body h3) (for_set h2)) fun Dn σ H q => st_for q
  | .while_ n c b, X, k, W, H0, M0, xo, g, st, h => by
    obtain ⟨⟨x, body⟩, e1, hh⟩ := optM (o := asWhile st) (f := fun t => chk X.N X.env.scope c t.1 && chkS X.N X.env.scope b t.2) h
    obtain ⟨pos, rfl⟩ := asWhile_eq e1
    rw [Bool.and_eq_true] at hh
    exact ps_weak (ps_while xo.po (snd_e c xo.toXOk g.1 x hh.1).pt (snd_S b xo g.2 body hh.2)) fun Dn σ H q => st_while q
  | .raise c, X, k, W, H0, M0, xo, g, st, h => snd_raise xo g h
  | .atom q, X, k, W, H0, M0, xo, g, st, h => by
    have g' : AtomSG (GoodX X k) (GC (gm X k)) (RaiseC X.K X.mg) q := g
    exact g' X k W H0 M0 xo rfl rfl rfl st h
  | .never, X, k, W, H0, M0, xo, g, st, h => by
    refine ps_weak ps_never fun Dn σ H q => ?_
    obtain ⟨A, s, r, o⟩ := q
    exact o.elim
end
end PL

namespace PL
open PySem PySem.Spec PyProof.Rows L2
/-! ## a def by its body -/
def startS (n : Nat) (ds : List D) : SE := ds.map Sl.ro ++ List.replicate (n - ds.length) .no
def outR : Out → Res D
  | .rt d => .ok d
  | .nx _ => .ok .non
  | .exc c => .exc c
  | .stuck => .stuck
def callD (n np : Nat) (b : S) : List D → Res D := fun ds => if ds.length = np then outR (run b (startS n ds)) else .stuck
theorem startS_no {n : Nat} {ds : List D} {i : Nat} {l : List D} : (startS n ds)[i]? ≠ some (.own l) := by
  unfold startS
  intro h
  by_cases hi : i < (ds.map Sl.ro).length
  · rw [List.getElem?_append_left hi, List.getElem?_map] at h
    cases e : ds[i]? with
    | none => rw [e] at h; cases h
    | some d => rw [e] at h; cases h
  · rw [List.getElem?_append_right (Nat.le_of_not_lt hi), List.getElem?_replicate] at h
    split at h <;> cases h
theorem startS_noG {n : Nat} {ds : List D} {i : Nat} {q : OP} : owAt (startS n ds) i ≠ some q := by
  unfold owAt startS
  intro h
  by_cases hi : i < (ds.map Sl.ro).length
  · rw [List.getElem?_append_left hi, List.getElem?_map] at h
    cases e : ds[i]? with
    | none => rw [e] at h; cases h
    | some d => rw [e] at h; cases h
  · rw [List.getElem?_append_right (Nat.le_of_not_lt hi), List.getElem?_replicate] at h
    split at h <;> cases h
theorem startS_ro {n : Nat} {ds : List D} {i : Nat} {d : D} (h : (startS n ds)[i]? = some (.ro d)) : ds[i]? = some d := by
  unfold startS at h
  by_cases hi : i < (ds.map Sl.ro).length
  · rw [List.getElem?_append_left hi, List.getElem?_map] at h
    cases e : ds[i]? with
    | none => rw [e] at h; cases h
    | some d' => rw [e] at h; cases h; rfl
  · rw [List.getElem?_append_right (Nat.le_of_not_lt hi), List.getElem?_replicate] at h
    split at h <;> cases h
theorem startV_get {N : List Str} {vs : List V} {i : Nat} {v : V} (h : vs[i]? = some v) : (L2.start N vs)[i]? = some (some v) := by
  unfold L2.start
  have hi : i < vs.length := (List.getElem?_eq_some_iff.mp h).1
  rw [List.getElem?_append_left (by rw [List.length_map]; exact hi), List.getElem?_map, h]
  rfl
section
variable {P : Program} {w : World} {K : PySem.W.Frag} {mg : Str → Option Value} {base : Heap}
theorem relS_start {N : List Str} {vs : List V} {ds : List D} {M : Mk} {H : Hp} (tb : TabsK K H) (dm : DomM M H) (r : RepAll K M H vs ds) : RelS K H M (fun _ => []) (L2.start N vs) H (startS N.length ds) := by
  refine ⟨?_, Same.refl H, dm, fun i j l l' a e => absurd e startS_noG, fun i l e => absurd e startS_noG, fun i d e => ?_, tb⟩
  · unfold L2.start startS
    rw [List.length_append, List.length_append, List.length_map, List.length_map, List.length_replicate, List.length_replicate, r.length]
  · obtain ⟨v, h1, h2⟩ := r.get (startS_ro e)
    refine ⟨v, startV_get h1, Rep.weak (fun a m => ?_) _ _ h2⟩
    rcases m with m | ⟨i, l, e, _⟩
    · exact m
    · exact absurd e startS_noG
theorem str_cancel {a b c : Str} (h : a ++ c = b ++ c) : a = b := by
  have e : a.cps ++ c.cps = b.cps ++ c.cps := congrArg Str.cps h
  cases a; cases b
  congr 1
  exact Array.append_left_inj c.cps |>.mp e
theorem code_is {name qual n : Str} {params : Arguments} {body : List Stmt} {scope : Scope} {f : Addr} {dV kV doc pm cdv ct oc : Value} {an od : Option Addr} {osl : Array (Option Value)} (hlam : qual ∈ lamNames → f = He.fAd K (qual, none))
    (lk : K.lookup f = some ⟨oc, od, .func (PySem.W.fnOf name qual params body scope dV kV doc pm an cdv ct), osl⟩) (hcd : PySem.W.codeIn K cdv qual = true) (hn : n ∈ lamNames) (e : qual ++ ".<locals>." = n ++ ".<locals>.") : cdv = .ref (He.cT K (n, none)).1 := by
  have q := str_cancel e
  subst q
  have hf := hlam hn
  subst hf
  obtain ⟨c, rfl⟩ := He.codeIn_ref hcd
  have := He.codeOf_eq lk (c := c) rfl
  show Value.ref c = .ref (He.codeOf K (qual, none))
  rw [this]
theorem fnOk_of {x qual : Str} {params : Arguments} {body : List Stmt} {scope : Scope} {kws : List (Str × V)} {f : Addr} {fd : FuncData} {N ps : List Str} {k : Nat} {b : S} (F : FunD K x qual params body scope [] kws f fd) (S : FnScope N ps scope)
    (bf : ∀ y ∈ bnames, mg y = none) (tb : TabBs K mg base) (hlam : qual ∈ lamNames → f = He.fAd K (qual, none)) (g : goodS (GoodF P w K mg base k) (GC ⟨P, w, K, mg, base, k, qual ++ ".<locals>."⟩) (RaiseC K mg) b) (hc : chkS N scope b body = true) : FnOk P w K mg base (L2.CX P w) (k + 1) f fd ps (spD K mg ps.length (callD N.length ps.length b)) := by
  obtain ⟨oc, od, dV, kV, doc, pm, an, cdv, ct, osl, rfl, lk, hcd, _, _⟩ := F.ex
  refine fn_of lk hcd S (fun vs H Q E h => h.1) (fun A outer s H vs Q E hr h => ?_)
  obtain ⟨hl, th, M, ds, dm, rs, o⟩ := h
  have xo : XOkS (cxOf (L2.CX P w) P w K mg base N qual scope f cdv A outer s H E) k (fun cls d _ H => E cls d H) :=
    { calm := rfl, nd := S.nd, room := hr, tk := takes_of rfl rfl rfl rfl, bf := bf, tb := tb, cd := fun n hn e => code_is hlam lk hcd hn e, fnA := fun _ => rfl, po := passes_of rfl, kind := S.kind, ex0 := rfl, stk := rfl, frm := rfl }
  refine ⟨_, snd_S b (H0 := H) (M0 := M) xo g body hc, (fun _ => []), startS N.length ds, relS_start th dm rs, ?_⟩
  unfold callD at o
  by_cases hd : ds.length = ps.length
  · rw [if_pos hd] at o
    cases e : run b (startS N.length ds) with
    | nx s' => rw [e] at o; exact fun σ' H' A' r' _ => o .non H' r'.same .non
    | rt d => rw [e] at o; exact fun v H' s' r' => o v H' s' r'
    | exc c => rw [e] at o; exact fun σ' H' s' _ => o H' s'
    | stuck => rw [e] at o; exact o
  · rw [if_neg hd] at o; exact o.elim
theorem goodF_of {x qual : Str} {params : Arguments} {body : List Stmt} {scope : Scope} {kws : List (Str × V)} {f : Addr} {fd : FuncData} {N ps : List Str} {k : Nat} {b : S} (F : FunD K x qual params body scope [] kws f fd) (S : FnScope N ps scope) (hm : mg x = some (.ref f)) (bd : Binds K fd ps [])
    (bf : ∀ y ∈ bnames, mg y = none) (tb : TabBs K mg base) (hlam : qual ∈ lamNames → f = He.fAd K (qual, none)) (g : goodS (GoodF P w K mg base k) (GC ⟨P, w, K, mg, base, k, qual ++ ".<locals>."⟩) (RaiseC K mg) b) (hc : chkS N scope b body = true) : GoodF P w K mg base (k + 1) x (callD N.length ps.length b) := by
  refine ⟨f, fd, ps, fnOk_of F S bf tb hlam g hc, hm, F.kp, bd, fun ds h => ?_⟩
  unfold callD at h
  by_cases hd : ds.length = ps.length
  · exact hd
  · rw [if_neg hd] at h; exact absurd rfl h
/-- the promise by another meaning: wherever that says something -/
theorem GoodF.ref {k : Nat} {x : Str} {sem sem' : List D → Res D} (g : GoodF P w K mg base k x sem) (h : ∀ ds, sem' ds ≠ .stuck → sem ds = sem' ds) : GoodF P w K mg base k x sem' := by
  obtain ⟨fa, fd, ps, F, hm, kp, bd, hl⟩ := g
  refine ⟨fa, fd, ps, F.imp (fun vs H Q E q => ?_), hm, kp, bd, fun ds hd => hl ds (by rw [h ds hd]; exact hd)⟩
  obtain ⟨l, th, M, ds, dm, rs, o⟩ := q
  refine ⟨l, th, M, ds, dm, rs, ?_⟩
  have hs : sem' ds ≠ .stuck := fun z => by rw [z] at o; exact o
  rw [h ds hs]
  exact o
theorem GoodF.mono {j k : Nat} {x : Str} {sem : List D → Res D} (g : GoodF P w K mg base j x sem) (h : j ≤ k) : GoodF P w K mg base k x sem := by
  obtain ⟨fa, fd, ps, F, r⟩ := g
  exact ⟨fa, fd, ps, F.mono h, r⟩
end
end PL

namespace PL
open PySem PySem.Spec PyProof.Rows L2
/-! ## primitives: two parts -/
def OpT (X : Cx) (f : Value → Value → Sem Value) (sem : D → D → Option D) : Prop := ∃ r : R2, OpR X f r ∧
  ∀ (M : Mk) (H : Hp) (x y : V) (d1 d2 d : D) (Q : VK), DomM M H → Rep X.K M H x d1 → Rep X.K M H y d2 → sem d1 d2 = some d → (∀ v H', Same X.K H H' → Rep X.K M H' v d → Q v H') → r x y H Q
def two (f : D → D → Option D) : List D → Option D
  | [a, b] => f a b
  | _ => none
def binSyn (op : Operator) (same : Operator → Bool) : Scope → Expr → Option (List Expr) := fun _ e => match e with
  | .BinOp a o b _ => if same o then some [a, b] else none
  | _ => none
section
variable {X : Cx} {W : WX}
theorem two_pes {a b : Expr} {ms : List (En → Res D)} (h : PEs X W [a, b] ms) : ∃ ma mb, ms = [ma, mb] ∧ PE X a (tS X W ma) ∧ PE X b (tS X W mb) ∧ notStar a = true ∧ notStar b = true := by
  cases h with
  | cons h1 n1 t =>
    cases t with
    | cons h2 n2 t =>
      cases t
      exact ⟨_, _, rfl, h1, h2, n1, n2⟩
theorem one_pes {a : Expr} {ms : List (En → Res D)} (h : PEs X W [a] ms) : ∃ ma, ms = [ma] ∧ PE X a (tS X W ma) ∧ notStar a = true := by
  cases h with
  | cons h1 n1 t =>
    cases t
    exact ⟨_, rfl, h1, n1⟩
theorem three_pes {a b c : Expr} {ms : List (En → Res D)} (h : PEs X W [a, b, c] ms) : ∃ ma mb mc, ms = [ma, mb, mc] ∧ PE X a (tS X W ma) ∧ PE X b (tS X W mb) ∧ PE X c (tS X W mc) := by
  cases h with
  | cons h1 n1 t =>
    cases t with
    | cons h2 n2 t =>
      cases t with
      | cons h3 n3 t =>
        cases t
        exact ⟨_, _, _, rfl, h1, h2, h3⟩
end
def isAdd : Operator → Bool | .Add => true | _ => false
def isSub : Operator → Bool | .Sub => true | _ => false
def isMul : Operator → Bool | .Mult => true | _ => false
def isFdv : Operator → Bool | .FloorDiv => true | _ => false
def isMod : Operator → Bool | .Mod => true | _ => false
def isPow : Operator → Bool | .Pow => true | _ => false
theorem prim_bin {op : Operator} {same : Operator → Bool} {f : D → D → Option D} (hs : ∀ o, same o = true → o = op) (ho : ∀ X k W, XOk X k W → OpT X (binaryOp op) f) : PrimG { syn := binSyn op same, sem := two f } := by
  intro X k W xo
  obtain ⟨r, hr, hw⟩ := ho X k W xo
  have main : ∀ {e : Expr} {es : List Expr} {ms : List (En → Res D)}, binSyn op same X.env.scope e = some es → PEs X W es ms → ∃ a b pos, e = .BinOp a op b pos ∧ PE X e (tS X W fun ρ => (seqM ms ρ).bind fun ds => ofO (two f ds)) := by
    intro e es ms h hp
    unfold binSyn at h
    split at h
    · rename_i a o b pos
      split at h
      · rename_i hso
        cases h
        obtain rfl := hs o hso
        obtain ⟨ma, mb, rfl, h1, h2, _, _⟩ := two_pes hp
        exact ⟨a, b, pos, rfl, pe_weak (pe_op hr h1 h2) fun σ H Q q => w_2 (fun M H x y d1 d2 d dm r1 r2 e k => hw M H x y d1 d2 d Q dm r1 r2 e k) q⟩
      · cases h
    · cases h
  refine ⟨fun h hp => (main h hp).choose_spec.choose_spec.choose_spec.2, (fun z => nomatch z), fun {e es ms} h hp => ?_⟩
  obtain ⟨a, b, pos, rfl, pe⟩ := main h hp
  exact pt_of_pe pe (fun _ => rfl)
theorem OpT.or {X : Cx} {g : Value → Value → Sem Value} {f f' : D → D → Option D} {F : D → D → Option D} (h : OpT X g f) (h' : OpT X g f') (hF : ∀ a b d, F a b = some d → f a b = some d ∨ f' a b = some d) : OpT X g F := by
  obtain ⟨r, o, w⟩ := h
  obtain ⟨r', o', w'⟩ := h'
  refine ⟨_, o.or o', fun M H x y d1 d2 d Q dm r1 r2 e k => ?_⟩
  rcases hF d1 d2 d e with e | e
  · exact .inl (w M H x y d1 d2 d Q dm r1 r2 e k)
  · exact .inr (w' M H x y d1 d2 d Q dm r1 r2 e k)
/-- two ints -/
def int2 (C : Int → Int → Bool) (g : Int → Int → D) : D → D → Option D
  | .int a, .int b => if C a b then some (g a b) else none
  | _, _ => none
theorem opT_int {X : Cx} {g : Value → Value → Sem Value} {C : Int → Int → Prop} {C' : Int → Int → Bool} {h : Int → Int → V} {h' : Int → Int → D} (o : OpR X g (rI C h)) (hC : ∀ a b, C' a b = true → C a b) (hh : ∀ M H a b, Rep X.K M H (h a b) (h' a b)) : OpT X g (int2 C' h') := by
  refine ⟨_, o, fun M H x y d1 d2 d Q dm r1 r2 e k => ?_⟩
  unfold int2 at e
  split at e
  · rename_i a b
    split at e
    · rename_i hc
      cases e
      cases r1
      cases r2
      exact ⟨a, b, rfl, rfl, hC a b hc, k _ H (Same.refl H) (hh M H a b)⟩
    · cases e
  · cases e
theorem rI_of {X : Cx} {g : Value → Value → Sem Value} {h : Int → Int → V} (o : OpR X g (rI0 h)) : OpR X g (rI (fun _ _ => True) h) := fun pins s σ H x y v u Q I rx ry q => by
  obtain ⟨i, j, e1, e2, _, q⟩ := q
  exact o pins s σ H x y v u Q I rx ry ⟨i, j, e1, e2, q⟩
def tt2 (_ _ : Int) : Bool := true
/-- + -/
def addT : D → D → Option D
  | .tup a, .tup b => if a.length + b.length ≤ sizeD then some (.tup (a ++ b)) else none
  | _, _ => none
def addL : D → D → Option D
  | .lst a, .lst b => if a.length + b.length ≤ sizeD then some (.lst (a ++ b)) else none
  | _, _ => none
def addS : D → D → Option D
  | .str a, .str b => if a.length + b.length ≤ sizeD then some (.str (a ++ b)) else none
  | _, _ => none
def opAdd : D → D → Option D
  | .int a, .int b => some (.int (a + b))
  | .tup a, .tup b => if a.length + b.length ≤ sizeD then some (.tup (a ++ b)) else none
  | .lst a, .lst b => if a.length + b.length ≤ sizeD then some (.lst (a ++ b)) else none
  | .str a, .str b => if a.length + b.length ≤ sizeD then some (.str (a ++ b)) else none
  | _, _ => none
theorem sizeD_le {n : Nat} (h : n ≤ sizeD) : n ≤ sizeLine := Nat.le_of_lt (Nat.lt_of_le_of_lt h sizeD_lt)
theorem opT_addT {X : Cx} : OpT X (binaryOp .Add) addT := by
  refine ⟨_, op_catA, fun M H x y d1 d2 d Q dm r1 r2 e k => ?_⟩
  unfold addT at e
  split at e
  · rename_i a b
    split at e
    · rename_i hc
      cases e
      cases r1 with
      | @tup p xs _ s1 n1 ra =>
        cases r2 with
        | @tup q ys _ s2 n2 rb =>
          refine ⟨p, q, xs, ys, rfl, rfl, SqT.of s1, SqT.of s2, by rw [ra.length, rb.length]; exact sizeD_le hc, fun z => ?_, fun _ z => ?_, fun _ _ t n => ?_⟩
          · subst z
            cases ra
            exact k _ H (Same.refl H) (.tup s2 n2 rb)
          · subst z
            cases rb
            rw [List.append_nil] at k
            exact k _ H (Same.refl H) (.tup s1 n1 ra)
          · exact k _ _ (same_new n) (.tup upd_same (dm.fresh n) ((ra.append rb).same (same_new n)))
    · cases e
  · cases e
theorem opT_addL {X : Cx} : OpT X (binaryOp .Add) addL := by
  refine ⟨_, op_cat, fun M H x y d1 d2 d Q dm r1 r2 e k => ?_⟩
  unfold addL at e
  split at e
  · rename_i a b
    split at e
    · rename_i hc
      cases e
      cases r1 with
      | @lst p xs _ s1 n1 ra =>
        cases r2 with
        | @lst q ys _ s2 n2 rb =>
          refine ⟨p, q, xs, ys, rfl, rfl, s1, s2, by rw [ra.length, rb.length]; exact sizeD_le hc, fun t n => ?_⟩
          exact k _ _ (same_new n) (.lst upd_same (dm.fresh n) ((ra.append rb).same (same_new n)))
    · cases e
  · cases e
theorem opT_addS {X : Cx} : OpT X (binaryOp .Add) addS := by
  refine ⟨_, op_add_str, fun M H x y d1 d2 d Q dm r1 r2 e k => ?_⟩
  unfold addS at e
  split at e
  · rename_i a b
    split at e
    · rename_i hc
      cases e
      cases r1
      cases r2
      exact ⟨a, b, rfl, rfl, sizeD_le hc, k _ H (Same.refl H) (.str _)⟩
    · cases e
  · cases e
theorem opT_add {X : Cx} : OpT X (binaryOp .Add) opAdd :=
  (opT_int (C' := tt2) (h' := fun a b => .int (a + b)) (rI_of op_add) (fun _ _ _ => trivial) (fun _ _ _ _ => .int _)).or
    (opT_addT.or (opT_addL.or opT_addS (F := fun a b => (addL a b).orElse fun _ => addS a b) (fun a b d h => by
      cases e : addL a b with
      | none => rw [e] at h; exact .inr h
      | some x => rw [e] at h; exact .inl h)) (F := fun a b => (addT a b).orElse fun _ => (addL a b).orElse fun _ => addS a b) (fun a b d h => by
      cases e : addT a b with
      | none => rw [e] at h; exact .inr h
      | some x => rw [e] at h; exact .inl h)) (fun a b d h => by
      unfold opAdd at h
      split at h
      · exact .inl h
      · rename_i a b; exact .inr (by
          show ((addT (.tup a) (.tup b)).orElse fun _ => _) = some d
          have : addT (.tup a) (.tup b) = some d := h
          rw [this]; rfl)
      · rename_i a b; exact .inr (by
          show ((addL (.lst a) (.lst b)).orElse fun _ => _) = some d
          have : addL (.lst a) (.lst b) = some d := h
          rw [this]; rfl)
      · exact .inr h
      · cases h)
def pAdd : Prim := { syn := binSyn .Add isAdd, sem := two opAdd }
def pSub : Prim := { syn := binSyn .Sub isSub, sem := two (int2 tt2 fun a b => .int (a - b)) }
def mulOk (a b : Int) : Bool := (decide (-(2 ^ 64) < a) && decide (a < 2 ^ 64)) || (decide (-(2 ^ 64) < b) && decide (b < 2 ^ 64)) || decide (a.natAbs.log2 + b.natAbs.log2 < 1000000)
def divOk (_ b : Int) : Bool := decide (0 < b) && decide (b.natAbs.log2 < 9000)
def modOk (_ b : Int) : Bool := decide (0 < b)
theorem addG : PrimG pAdd := prim_bin (fun o h => by cases o <;> first | rfl | cases h) fun X k W xo => opT_add
theorem subG : PrimG pSub := prim_bin (fun o h => by cases o <;> first | rfl | cases h) fun X k W xo => opT_int (rI_of op_sub) (fun _ _ _ => trivial) (fun _ _ _ _ => .int _)
def repL : D → D → Option D
  | .lst a, .int n => if 0 ≤ n ∧ n ≤ 1000 ∧ a.length ≤ 100 then some (.lst (List.replicate n.toNat a).flatten) else none
  | _, _ => none
def opMul : D → D → Option D
  | .int a, .int b => if mulOk a b then some (.int (a * b)) else none
  | _, _ => none
theorem opT_mul {X : Cx} : OpT X (binaryOp .Mult) opMul := by
  refine OpT.or (opT_int (C' := fun a b => (decide (-(2 ^ 64) < a) && decide (a < 2 ^ 64)) || (decide (-(2 ^ 64) < b) && decide (b < 2 ^ 64))) (h' := fun a b => .int (a * b)) op_mul (fun a b h => ?_) (fun _ _ _ _ => .int _))
    (opT_int (C' := fun a b => decide (a.natAbs.log2 + b.natAbs.log2 < 1000000)) (h' := fun a b => .int (a * b)) op_mulW (fun a b h => by unfold CMulW; exact of_decide_eq_true h) (fun _ _ _ _ => .int _)) fun a b d h => ?_
  · simp only [Bool.or_eq_true, Bool.and_eq_true, decide_eq_true_eq] at h
    exact h
  · unfold opMul at h
    split at h
    · rename_i a b
      split at h
      · rename_i hc
        unfold mulOk at hc
        rw [Bool.or_eq_true] at hc
        rcases hc with hc | hc
        · left; show (if _ then _ else _) = _; rw [if_pos hc]; exact h
        · right; show (if _ then _ else _) = _; rw [if_pos hc]; exact h
      · cases h
    · cases h
def pMul : Prim := { syn := binSyn .Mult isMul, sem := two opMul }
theorem mulG : PrimG pMul := prim_bin (fun o h => by cases o <;> first | rfl | cases h) fun X k W xo => opT_mul
def pFdv : Prim := { syn := binSyn .FloorDiv isFdv, sem := two (int2 divOk fun a b => .int (a / b)) }
theorem fdvG : PrimG pFdv := prim_bin (fun o h => by cases o <;> first | rfl | cases h) fun X k W xo => opT_int op_fdivW (fun a b h => by
  unfold divOk at h
  rw [Bool.and_eq_true, decide_eq_true_eq, decide_eq_true_eq] at h
  exact h) (fun _ _ _ _ => .int _)
def pMod : Prim := { syn := binSyn .Mod isMod, sem := two (int2 modOk fun a b => .int (a % b)) }
theorem modG : PrimG pMod := prim_bin (fun o h => by cases o <;> first | rfl | cases h) fun X k W xo => opT_int op_mod (fun a b h => of_decide_eq_true h) (fun _ _ _ _ => .int _)
end PL

namespace PL
open PySem PySem.Spec PyProof.Rows L2
/-! ## comparisons -/
def cmpSyn (same : CmpOp → Bool) : Scope → Expr → Option (List Expr) := fun _ e => match e with
  | .Compare a [o] [b] _ => if same o && !(behindInMarks o b) then some [a, b] else none
  | _ => none
theorem prim_cmp {op : CmpOp} {same : CmpOp → Bool} {f : D → D → Option D} (hs : ∀ o, same o = true → o = op) (ho : ∀ X k W, XOk X k W → OpT X (compareOp op) f) : PrimG { syn := cmpSyn same, sem := two f } := by
  intro X k W xo
  obtain ⟨r, hr, hw⟩ := ho X k W xo
  have main : ∀ {e : Expr} {es : List Expr} {ms : List (En → Res D)}, cmpSyn same X.env.scope e = some es → PEs X W es ms →
      PE X e (tS X W fun ρ => (seqM ms ρ).bind fun ds => ofO (two f ds)) ∧ PT X e (tST X W fun ρ => ((seqM ms ρ).bind fun ds => ofO (two f ds)).bind truth) := by
    intro e es ms h hp
    unfold cmpSyn at h
    split at h
    · rename_i a o b pos
      split at h
      · rename_i hso
        cases h
        rw [Bool.and_eq_true, Bool.not_eq_true'] at hso
        obtain rfl := hs o hso.1
        obtain ⟨ma, mb, rfl, h1, h2, _, _⟩ := two_pes hp
        refine ⟨pe_weak (pe_cmpR hr h1 h2 hso.2) fun σ H Q q => w_2 (fun M H x y d1 d2 d dm r1 r2 e k => hw M H x y d1 d2 d Q dm r1 r2 e k) q, pt_weak (pt_cmpR hr h1 h2 hso.2) fun σ H Q q => ?_⟩
        exact w_2 (fun M H x y d1 d2 d dm r1 r2 e k => hw M H x y d1 d2 d _ dm r1 r2 e k) (w_test q)
      · cases h
    · cases h
  exact ⟨fun h hp => (main h hp).1, (fun z => nomatch z), fun h hp => (main h hp).2⟩
def isEq : CmpOp → Bool | .Eq => true | _ => false
def isNe : CmpOp → Bool | .NotEq => true | _ => false
def isLt : CmpOp → Bool | .Lt => true | _ => false
def isLe : CmpOp → Bool | .LtE => true | _ => false
def isGt : CmpOp → Bool | .Gt => true | _ => false
def isGe : CmpOp → Bool | .GtE => true | _ => false
def isIn : CmpOp → Bool | .In => true | _ => false
def isNi : CmpOp → Bool | .NotIn => true | _ => false
def isIs : CmpOp → Bool | .Is => true | _ => false
def isIsn : CmpOp → Bool | .IsNot => true | _ => false
/-- data that can be compared -/
def shp (d : D) : Bool := d.pl && SeqAt.shaped d.py
def deq (a b : D) : Bool := PyData.eqv a.py b.py
def opEq (a b : D) : Option D := if shp a && shp b then some (.bl (deq a b)) else none
def opNe (a b : D) : Option D := if shp a && shp b then some (.bl (!deq a b)) else none
theorem opT_eq {X : Cx} (hu : X.A.units + 64 < cLine) : OpT X (compareOp .Eq) opEq := by
  refine ⟨_, op_eqD hu, fun M H x y d1 d2 d Q dm r1 r2 e k => ?_⟩
  unfold opEq at e
  split at e
  · rename_i hc
    cases e
    rw [Bool.and_eq_true] at hc
    unfold shp at hc
    rw [Bool.and_eq_true, Bool.and_eq_true] at hc
    exact ⟨d1.py, d2.py, Rep.dp _ _ hc.1.1 r1, Rep.dp _ _ hc.2.1 r2, hc.1.2, hc.2.2, k _ H (Same.refl H) (.bl _)⟩
  · cases e
theorem opT_ne {X : Cx} (hu : X.A.units + 64 < cLine) : OpT X (compareOp .NotEq) opNe := by
  refine ⟨_, op_neD hu, fun M H x y d1 d2 d Q dm r1 r2 e k => ?_⟩
  unfold opNe at e
  split at e
  · rename_i hc
    cases e
    rw [Bool.and_eq_true] at hc
    unfold shp at hc
    rw [Bool.and_eq_true, Bool.and_eq_true] at hc
    exact ⟨d1.py, d2.py, Rep.dp _ _ hc.1.1 r1, Rep.dp _ _ hc.2.1 r2, hc.1.2, hc.2.2, k _ H (Same.refl H) (.bl _)⟩
  · cases e
def opLt : D → D → Option D := int2 tt2 fun a b => .bl (decide (a < b))
def opLe : D → D → Option D := int2 tt2 fun a b => .bl (decide (a ≤ b))
def opGt : D → D → Option D := int2 tt2 fun a b => .bl (decide (b < a))
def opGe : D → D → Option D := int2 tt2 fun a b => .bl (decide (b ≤ a))
theorem opT_lt {X : Cx} : OpT X (compareOp .Lt) opLt := opT_int (rI_of op_lt) (fun _ _ _ => trivial) (fun _ _ _ _ => .bl _)
theorem opT_le {X : Cx} : OpT X (compareOp .LtE) opLe := opT_int (rI_of op_le) (fun _ _ _ => trivial) (fun _ _ _ _ => .bl _)
theorem opT_gt {X : Cx} : OpT X (compareOp .Gt) opGt := opT_int (rI_of op_gt) (fun _ _ _ => trivial) (fun _ _ _ _ => .bl _)
theorem opT_ge {X : Cx} : OpT X (compareOp .GtE) opGe := opT_int (rI_of op_ge) (fun _ _ _ => trivial) (fun _ _ _ _ => .bl _)
def pEq : Prim := { syn := cmpSyn isEq, sem := two opEq }
def pNe : Prim := { syn := cmpSyn isNe, sem := two opNe }
def pLt : Prim := { syn := cmpSyn isLt, sem := two opLt }
def pLe : Prim := { syn := cmpSyn isLe, sem := two opLe }
def pGt : Prim := { syn := cmpSyn isGt, sem := two opGt }
def pGe : Prim := { syn := cmpSyn isGe, sem := two opGe }
theorem eqG : PrimG pEq := prim_cmp (op := .Eq) (fun o h => by cases o <;> first | rfl | cases h) fun X k W xo => opT_eq xo.room.units
theorem neG : PrimG pNe := prim_cmp (op := .NotEq) (fun o h => by cases o <;> first | rfl | cases h) fun X k W xo => opT_ne xo.room.units
theorem ltG : PrimG pLt := prim_cmp (op := .Lt) (fun o h => by cases o <;> first | rfl | cases h) fun X k W xo => opT_lt
theorem leG : PrimG pLe := prim_cmp (op := .LtE) (fun o h => by cases o <;> first | rfl | cases h) fun X k W xo => opT_le
theorem gtG : PrimG pGt := prim_cmp (op := .Gt) (fun o h => by cases o <;> first | rfl | cases h) fun X k W xo => opT_gt
theorem geG : PrimG pGe := prim_cmp (op := .GtE) (fun o h => by cases o <;> first | rfl | cases h) fun X k W xo => opT_ge
theorem ltO : OpG .Lt opLt := fun X k W xo => opT_lt
theorem leO : OpG .LtE opLe := fun X k W xo => opT_le
theorem gtO : OpG .Gt opGt := fun X k W xo => opT_gt
theorem geO : OpG .GtE opGe := fun X k W xo => opT_ge
def isNon : D → Bool
  | .non => true
  | _ => false
/-- is None, is True .. -/
def opIs : D → D → Option D
  | a, .non => some (.bl (isNon a))
  | .bl a, .bl b => some (.bl (decide (a = b)))
  | _, _ => none
def opIsn : D → D → Option D
  | a, .non => some (.bl (!isNon a))
  | .bl a, .bl b => some (.bl (!decide (a = b)))
  | _, _ => none
theorem non_of {K : PySem.W.Frag} {M : Mk} {H : Hp} {x : V} {d : D} (r : Rep K M H x d) : decide (x = V.non) = isNon d := by
  cases r <;> rfl
theorem opT_is {X : Cx} : OpT X (compareOp .Is) opIs := by
  refine ⟨_, OpR.or op_isN op_isBl, fun M H x y d1 d2 d Q dm r1 r2 e k => ?_⟩
  unfold opIs at e
  split at e
  · cases e
    cases r2
    refine .inl ⟨rfl, k _ H (Same.refl H) ?_⟩
    rw [non_of r1]
    exact .bl _
  · cases e
    cases r1
    cases r2
    exact .inr ⟨_, _, rfl, rfl, k _ H (Same.refl H) (.bl _)⟩
  · cases e
theorem opT_isn {X : Cx} : OpT X (compareOp .IsNot) opIsn := by
  refine ⟨_, OpR.or op_notN op_notBl, fun M H x y d1 d2 d Q dm r1 r2 e k => ?_⟩
  unfold opIsn at e
  split at e
  · rename_i a
    cases e
    cases r2
    refine .inl ⟨rfl, k _ H (Same.refl H) ?_⟩
    rw [non_of r1]
    cases d1 <;> exact .bl _
  · cases e
    cases r1
    cases r2
    exact .inr ⟨_, _, rfl, rfl, k _ H (Same.refl H) (.bl _)⟩
  · cases e
def pIs : Prim := { syn := cmpSyn isIs, sem := two opIs }
def pIsn : Prim := { syn := cmpSyn isIsn, sem := two opIsn }
theorem isG : PrimG pIs := prim_cmp (op := .Is) (fun o h => by cases o <;> first | rfl | cases h) fun X k W xo => opT_is
theorem isnG : PrimG pIsn := prim_cmp (op := .IsNot) (fun o h => by cases o <;> first | rfl | cases h) fun X k W xo => opT_isn
/-! ## one part -/
def one1 (f : D → Option D) : List D → Option D
  | [a] => f a
  | _ => none
def negSyn : Scope → Expr → Option (List Expr) := fun _ e => match e with
  | .UnaryOp .USub a _ => some [a]
  | _ => none
def opNeg : D → Option D
  | .int a => some (.int (-a))
  | _ => none
def pNeg : Prim := { syn := negSyn, sem := one1 opNeg }
theorem negG : PrimG pNeg := by
  intro X k W xo
  have main : ∀ {e : Expr} {es : List Expr} {ms : List (En → Res D)}, negSyn X.env.scope e = some es → PEs X W es ms → ∃ a pos, e = .UnaryOp .USub a pos ∧ PE X e (tS X W fun ρ => (seqM ms ρ).bind fun ds => ofO (one1 opNeg ds)) := by
    intro e es ms h hp
    unfold negSyn at h
    split at h
    · rename_i a pos
      cases h
      obtain ⟨ma, rfl, h1, _⟩ := one_pes hp
      refine ⟨a, pos, rfl, pe_weak (pe_un un_neg h1) fun σ H Q q => w_1 (fun M H x d1 d dm r1 e k => ?_) q⟩
      cases d1 with
      | int i => cases r1; cases e; exact ⟨i, rfl, k _ H (Same.refl H) (.int _)⟩
      | _ => cases e
    · cases h
  refine ⟨fun h hp => (main h hp).choose_spec.choose_spec.2, (fun z => nomatch z), fun {e es ms} h hp => ?_⟩
  obtain ⟨a, pos, rfl, pe⟩ := main h hp
  exact pt_of_pe pe (fun _ => rfl)
/-! ## subscripts -/
def ixSyn : Scope → Expr → Option (List Expr) := fun _ e => match e with
  | .Subscript a b _ => if notSlice b then some [a, b] else none
  | _ => none
def opIx : D → D → Option D
  | .lst l, .int i => atI l i
  | .tup l, .int i => atI l i
  | .scr l, .int i => (atI l i).map D.int
  | .str s, .int i => if s.length ≤ sizeD then (atI s.cps.toList i).map fun c => .str ⟨#[c]⟩ else none
  | _, _ => none
theorem RepAll.at {K : PySem.W.Frag} {M : Mk} {H : Hp} {vs : List V} {ds : List D} {i : Int} {d : D} (r : RepAll K M H vs ds) (h : atI ds i = some d) : ∃ v, atI vs i = some v ∧ Rep K M H v d := by
  unfold atI at h ⊢
  rw [r.length]
  cases e : ixN ds.length i with
  | none => rw [e] at h; cases h
  | some j =>
    rw [e] at h
    obtain ⟨v, h1, h2⟩ := r.get (show ds[j]? = some d from h)
    exact ⟨v, h1, h2⟩
theorem atI_map {α β : Type} {f : α → β} {l : List α} {i : Int} {a : α} (h : atI l i = some a) : atI (l.map f) i = some (f a) := by
  unfold atI at h ⊢
  rw [List.length_map]
  cases e : ixN l.length i with
  | none => rw [e] at h; cases h
  | some j =>
    rw [e] at h
    have h' : l[j]? = some a := h
    show (l.map f)[j]? = _
    rw [List.getElem?_map, h']; rfl
theorem plainIx {b : Expr} (h : notSlice b = true) : PlainIx b := by
  intro o i
  cases b <;> first | rfl | cases h
def pIx : Prim := { syn := ixSyn, sem := two opIx }
theorem ixG : PrimG pIx := by
  intro X k W xo
  have main : ∀ {e : Expr} {es : List Expr} {ms : List (En → Res D)}, ixSyn X.env.scope e = some es → PEs X W es ms → ∃ a b pos, e = .Subscript a b pos ∧ PE X e (tS X W fun ρ => (seqM ms ρ).bind fun ds => ofO (two opIx ds)) := by
    intro e es ms h hp
    unfold ixSyn at h
    split at h
    · rename_i a b pos
      split at h
      · rename_i hns
        cases h
        obtain ⟨ma, mb, rfl, h1, h2, _, _⟩ := two_pes hp
        refine ⟨a, b, pos, rfl, pe_weak (pe_ix ix_seq h1 h2 (plainIx hns)) fun σ H Q q => w_2 (fun M H x y d1 d2 d dm r1 r2 e k => ?_) q⟩
        have e' : opIx d1 d2 = some d := e
        unfold opIx at e'
        split at e'
        · rename_i l i
          cases r1 with
          | lst s n ra =>
            cases r2
            obtain ⟨v, h3, h4⟩ := ra.at e'
            exact .inl ⟨_, _, i, v, rfl, rfl, SqL.of s, h3, k v H (Same.refl H) h4⟩
        · rename_i l i
          cases r1 with
          | tup s n ra =>
            cases r2
            obtain ⟨v, h3, h4⟩ := ra.at e'
            exact .inr (.inl ⟨_, _, i, v, rfl, rfl, SqT.of s, h3, k v H (Same.refl H) h4⟩)
        · rename_i l i
          cases r1 with
          | scr s =>
            cases r2
            cases e3 : atI l i with
            | none => rw [e3] at e'; cases e'
            | some j =>
              rw [e3] at e'
              cases e'
              exact .inl ⟨_, _, i, .int j, rfl, rfl, s.sq, atI_map e3, k _ H (Same.refl H) (.int j)⟩
        · rename_i s i
          split at e'
          · rename_i hl
            cases r1
            cases r2
            cases e3 : atI s.cps.toList i with
            | none => rw [e3] at e'; cases e'
            | some c =>
              rw [e3] at e'
              cases e'
              exact .inr (.inr ⟨s, i, c, rfl, rfl, sizeD_le hl, e3, k _ H (Same.refl H) (.str _)⟩)
          · cases e'
        · cases e'
      · cases h
    · cases h
  refine ⟨fun h hp => (main h hp).choose_spec.choose_spec.choose_spec.2, (fun z => nomatch z), fun {e es ms} h hp => ?_⟩
  obtain ⟨a, b, pos, rfl, pe⟩ := main h hp
  exact pt_of_pe pe (fun _ => rfl)
/-! ## displays -/
def tupSyn : Scope → Expr → Option (List Expr) := fun _ e => match e with
  | .Tuple es _ _ => some es
  | _ => none
def lstSyn : Scope → Expr → Option (List Expr) := fun _ e => match e with
  | .List es _ => some es
  | _ => none
def mkTup (ds : List D) : Option D := if ds.length ≤ 1000 then some (.tup ds) else none
def mkLst (ds : List D) : Option D := if ds.length ≤ 1000 then some (.lst ds) else none
def pTup : Prim := { syn := tupSyn, sem := mkTup }
def pLst : Prim := { syn := lstSyn, sem := mkLst, fresh := true }
theorem tupG : PrimG pTup := by
  intro X k W xo
  have main : ∀ {e : Expr} {es : List Expr} {ms : List (En → Res D)}, tupSyn X.env.scope e = some es → PEs X W es ms → ∃ es kk pos, e = .Tuple es kk pos ∧ PE X e (tS X W fun ρ => (seqM ms ρ).bind fun ds => ofO (mkTup ds)) := by
    intro e es ms h hp
    unfold tupSyn at h
    split at h
    · rename_i es' kk pos
      cases h
      refine ⟨_, kk, pos, rfl, pe_weak (pe_tup hp.pa) fun σ H Q q => w_n (r := fun xs H1 Q => xs.length ≤ sizeLine ∧ ∀ p, H1 p = none → Q (.ref p) (upd H1 p (.tup xs))) (fun M H xs ds d dm rs e k => ?_) q⟩
      unfold mkTup at e
      split at e
      · rename_i hl
        cases e
        exact ⟨by rw [rs.length]; exact Nat.le_of_lt (small1000 hl), fun p n => k _ _ (same_new n) (.tup upd_same (dm.fresh n) (rs.same (same_new n)))⟩
      · cases e
    · cases h
  refine ⟨fun h hp => (main h hp).choose_spec.choose_spec.choose_spec.2, (fun z => nomatch z), fun {e es ms} h hp => ?_⟩
  obtain ⟨a, b, pos, rfl, pe⟩ := main h hp
  exact pt_of_pe pe (fun _ => rfl)
theorem lstG : PrimG pLst := by
  intro X k W xo
  have main : ∀ {e : Expr} {es : List Expr} {ms : List (En → Res D)}, lstSyn X.env.scope e = some es → PEs X W es ms → ∃ es pos, e = .List es pos ∧ PE X e (tF X W fun ρ => (seqM ms ρ).bind fun ds => ofO (mkLst ds)) := by
    intro e es ms h hp
    unfold lstSyn at h
    split at h
    · rename_i es' pos
      cases h
      refine ⟨_, pos, rfl, pe_weak (pe_lst hp.pa) fun σ H Q q => w_nF (r := fun xs H1 Q => xs.length ≤ sizeLine ∧ ∀ p, H1 p = none → Q (.ref p) (upd H1 p (.lst xs))) (fun M H xs ds d dm rs e k => ?_) q⟩
      unfold mkLst at e
      split at e
      · rename_i hl
        cases e
        obtain ⟨es, ee, k⟩ := k
        cases ee
        exact ⟨by rw [rs.length]; exact Nat.le_of_lt (small1000 hl), fun p n => k p xs _ (same_new n) n upd_same ((RepAll.ext (Ext.mark n) _ _ rs).same (same_new n))⟩
      · cases e
    · cases h
  have lst : ∀ (ms : List (En → Res D)) ρ d, ((seqM ms ρ).bind fun ds => ofO (mkLst ds)) = .ok d → ∃ l, d = .lst l := fun ms ρ d e => by
    obtain ⟨ds, _, e⟩ := Res.bind_eq_ok e
    unfold mkLst at e
    split at e
    · cases e; exact ⟨_, rfl⟩
    · cases e
  refine ⟨fun {e es ms} h hp => ?_, fun _ {e es ms} h hp => ?_, fun {e es ms} h hp => ?_⟩
  · obtain ⟨a, pos, rfl, pe⟩ := main h hp
    exact tF_S pe (lst ms)
  · obtain ⟨a, pos, rfl, pe⟩ := main h hp
    exact pe
  · obtain ⟨a, pos, rfl, pe⟩ := main h hp
    exact pt_of_pe (tF_S pe (lst ms)) (fun _ => rfl)
/-! ## built-in functions -/
def callSyn (nm : Str) : Scope → Expr → Option (List Expr) := fun sc e => match e with
  | .Call (.Name x _) (a :: es) [] _ => if decide (x = nm) && glB sc x then some (a :: es) else none
  | _ => none
def CallT (X : Cx) (f : Value) (sem : List D → Option D) : Prop := ∃ r, CallR X f r ∧
  ∀ (M : Mk) (H : Hp) (xs : List V) (ds : List D) (d : D) (Q : VK), DomM M H → RepAll X.K M H xs ds → sem ds = some d → (∀ v H', Same X.K H H' → Rep X.K M H' v d → Q v H') → r xs H Q
theorem prim_blt {nm : Str} {id : String} {sem : List D → Option D} (hin : nm ∈ bnames) (hv : bootBuiltins nm = some (.builtin id)) (hn : nm ≠ "__name__") (hd : (nm == ("__debug__" : Str)) = false) (hc : ∀ X k W, XOk X k W → CallT X (.builtin id) sem) : PrimG { syn := callSyn nm, sem := sem } := by
  intro X k W xo
  obtain ⟨r, hr, hw⟩ := hc X k W xo
  have main : ∀ {e : Expr} {es : List Expr} {ms : List (En → Res D)}, callSyn nm X.env.scope e = some es → PEs X W es ms → ∃ x p es pos, e = .Call (.Name x p) es [] pos ∧ PE X e (tS X W fun ρ => (seqM ms ρ).bind fun ds => ofO (sem ds)) := by
    intro e es ms h hp
    unfold callSyn at h
    split at h
    · rename_i x p a es' pos
      split at h
      · rename_i hg
        cases h
        rw [Bool.and_eq_true, decide_eq_true_eq] at hg
        obtain ⟨rfl, hg⟩ := hg
        have ns : notStar a = true := by cases hp with | cons _ n _ => exact n
        have st : (backTo pos (starEach es' X.env)).any (·.1) = false := by cases hp with | cons _ _ t => exact stars_of t pos
        exact ⟨x, p, _, pos, rfl, pe_weak (pe_callB hr (gl_of hg) (xo.bf _ hin) hv hp.pa hn hd (star_of ns es' X.env) st) fun σ H Q q => w_n (fun M H xs ds d dm rs e k => hw M H xs ds d Q dm rs e k) q⟩
      · cases h
    · cases h
  refine ⟨fun h hp => (main h hp).choose_spec.choose_spec.choose_spec.choose_spec.2, (fun z => nomatch z), fun {e es ms} h hp => ?_⟩
  obtain ⟨x, p, es, pos, rfl, pe⟩ := main h hp
  exact pt_of_pe pe (fun _ => rfl)
theorem prim_ty {nm : Str} {T : String} {sem : List D → Option D} (hin : nm ∈ bnames) (hv : bootBuiltins nm = some (.type T)) (hn : nm ≠ "__name__") (hd : (nm == ("__debug__" : Str)) = false) (hc : ∀ X k W, XOk X k W → CallT X (.type T) sem) : PrimG { syn := callSyn nm, sem := sem } := by
  intro X k W xo
  obtain ⟨r, hr, hw⟩ := hc X k W xo
  have main : ∀ {e : Expr} {es : List Expr} {ms : List (En → Res D)}, callSyn nm X.env.scope e = some es → PEs X W es ms → ∃ x p es pos, e = .Call (.Name x p) es [] pos ∧ PE X e (tS X W fun ρ => (seqM ms ρ).bind fun ds => ofO (sem ds)) := by
    intro e es ms h hp
    unfold callSyn at h
    split at h
    · rename_i x p a es' pos
      split at h
      · rename_i hg
        cases h
        rw [Bool.and_eq_true, decide_eq_true_eq] at hg
        obtain ⟨rfl, hg⟩ := hg
        have ns : notStar a = true := by cases hp with | cons _ n _ => exact n
        have st : (backTo pos (starEach es' X.env)).any (·.1) = false := by cases hp with | cons _ _ t => exact stars_of t pos
        exact ⟨x, p, _, pos, rfl, pe_weak (pe_callTy hr (gl_of hg) (xo.bf _ hin) hv hp.pa hn hd (star_of ns es' X.env) st) fun σ H Q q => w_n (fun M H xs ds d dm rs e k => hw M H xs ds d Q dm rs e k) q⟩
      · cases h
    · cases h
  refine ⟨fun h hp => (main h hp).choose_spec.choose_spec.choose_spec.choose_spec.2, (fun z => nomatch z), fun {e es ms} h hp => ?_⟩
  obtain ⟨x, p, es, pos, rfl, pe⟩ := main h hp
  exact pt_of_pe pe (fun _ => rfl)
def opLen : D → Option D
  | .lst l => some (.int l.length)
  | .tup l => some (.int l.length)
  | .scr l => some (.int l.length)
  | .str s => if s.length ≤ sizeD then some (.int s.length) else none
  | _ => none
def pLen : Prim := { syn := callSyn "len", sem := one1 opLen }
theorem lenG : PrimG pLen := prim_blt (id := "len") (by decide) (by decide +kernel) (by decide) (by decide) fun X k W xo => by
  refine ⟨_, CallR.or call_len_seq call_len_str, fun M H xs ds d Q dm rs e k => ?_⟩
  match ds, rs, e with
  | [a], .cons r1 .nil, e =>
    have e' : opLen a = some d := e
    cases a with
    | lst l => cases e'; cases r1 with | lst s n ra => exact .inl ⟨_, _, rfl, .inl (SqL.of s), by rw [ra.length]; exact k _ H (Same.refl H) (.int _)⟩
    | tup l => cases e'; cases r1 with | tup s n ra => exact .inl ⟨_, _, rfl, .inr (SqT.of s), by rw [ra.length]; exact k _ H (Same.refl H) (.int _)⟩
    | scr l => cases e'; cases r1 with | scr s => exact .inl ⟨_, _, rfl, .inl s.sq, by rw [List.length_map]; exact k _ H (Same.refl H) (.int _)⟩
    | str s =>
      cases r1
      unfold opLen at e'
      dsimp only at e'
      split at e'
      · rename_i hl; cases e'; exact .inr ⟨s, rfl, sizeD_le hl, k _ H (Same.refl H) (.int _)⟩
      · cases e'
    | _ => cases e'
def opAbs : D → Option D
  | .int a => some (.int (if a < 0 then -a else a))
  | _ => none
def pAbs : Prim := { syn := callSyn "abs", sem := one1 opAbs }
theorem absG : PrimG pAbs := prim_blt (id := "abs") (by decide) (by decide +kernel) (by decide) (by decide) fun X k W xo => by
  refine ⟨_, call_abs, fun M H xs ds d Q dm rs e k => ?_⟩
  match ds, rs, e with
  | [a], .cons r1 .nil, e =>
    have e' : opAbs a = some d := e
    cases a with
    | int i => cases e'; cases r1; exact ⟨i, rfl, k _ H (Same.refl H) (.int _)⟩
    | _ => cases e'
end PL

namespace PL
open PySem PySem.Spec PyProof.Rows L2
/-! ## the end of a law -/
/-- a promise that lets nothing out -/
theorem fnOk_calm {P : Program} {w : World} {K : PySem.W.Frag} {mg : Str → Option Value} {base : Heap} {k : Nat} {f : Addr} {fd : FuncData} {ps : List Str} {sp : Sp} (F : FnOk P w K mg base (L2.CX P w) k f fd ps sp) :
    FnOk P w K mg base CX0 k f fd ps (fun vs H Q _ => sp vs H Q E0) := by
  refine ⟨fun vs H Q E h => F.len vs H Q E0 h, fun A outer s H args us vs Q E hr e0 hb r h => ?_⟩
  refine codeAny_mono (F.run A outer s H args us vs Q E0 hr e0 hb r h) fun res s' q => ?_
  cases res with
  | error e =>
    obtain ⟨_, _, _, _, _, _, _, _, _, _, _, _, z⟩ := (show L2.CX P w outer H s E0 e s' from q)
    exact z.elim
  | ok fl => cases fl <;> exact q
/-- the law's def keeps its word -/
theorem law_end {P : Program} {w : World} {K : PySem.W.Frag} {mg : Str → Option Value} {k : Nat} {sem : List D → Res D} {fa : Addr} {fd : FuncData} {params : Arguments} {body : List Stmt} {scope : Scope} {kws : List (Str × V)}
    (F : FunD K "law" "law" params body scope [] kws fa fd) (hb : ∀ (kV doc pm : Value) (an : Option Addr) (cdv ct : Value) (us : List Value), us.length = 1 → bindArgs (PySem.W.fnOf "law" "law" params body scope .none kV doc pm an cdv ct) ⟨us, []⟩ = pure ((["script"] : List Str).zip us))
    (h0 : lamNames = []) (g : ∀ base : Heap, TabBs K mg base → FnOk P w K mg base (L2.CX P w) k fa fd ["script"] (spD K mg 1 sem))
    (law : ∀ ns : List Int, ns.length ≤ 63 → sem [.scr ns] = .ok (.bl true)) :
    ∃ (fd : FuncData) (sp : Sp), (∀ (s : Shared) (u : Value), BindsTo s fd ⟨[u], []⟩ [("script", u)]) ∧
      (∀ (H : Hp) (a : Addr) (ns : List Int), ns.length ≤ 63 → Only H → SqL K H a (ns.map V.int) → sp [.ref a] H (fun v _ => v = .bl true) fun _ _ _ => False) ∧
        ∀ base : Heap, K.In base → base.Ns mainGlobals mg → FnOk P w K mg base CX0 k fa fd ["script"] sp := by
  refine ⟨fd, fun vs H Q _ => spD K mg 1 sem vs H Q E0, fun s u => FunD.bindsA (ps := ["script"]) F hb s [u] rfl, fun H a ns hl _ hS => ?_, fun base _ _ => fnOk_calm (g base fun n hn => by rw [h0] at hn; cases hn)⟩
  refine ⟨rfl, (fun p hp => by unfold TK at hp; rw [h0] at hp; cases hp), fun _ => False, [.scr ns], fun _ z => z.elim, .cons (.scr (ScrOk.of hS)) .nil, ?_⟩
  rw [law ns hl]
  intro v H' _ r
  cases r
  rfl
/-- .. with lambdas -/
theorem law_endT {l : PySem.W.OpenLaw} {w : World} {K : PySem.W.Frag} {mg : Str → Option Value} {k : Nat} {sem : List D → Res D} {fa : Addr} {fd : FuncData} {params : Arguments} {body : List Stmt} {scope : Scope} {kws : List (Str × V)} {h : Heap} (X : K.In h)
    (F : FunD K "law" "law" params body scope [] kws fa fd) (hb : ∀ (kV doc pm : Value) (an : Option Addr) (cdv ct : Value) (us : List Value), us.length = 1 → bindArgs (PySem.W.fnOf "law" "law" params body scope .none kV doc pm an cdv ct) ⟨us, []⟩ = pure ((["script"] : List Str).zip us))
    (hd : ∀ n ∈ lamNames, PySem.W.codeHdIn K (He.cT K (n, none)).1 (He.cT K (n, none)).2 = true) (out : ∀ n ∈ lamNames, K.lookup (He.cT K (n, none)).2 = none) (em : ∀ n ∈ lamNames, h.get? (He.cT K (n, none)).2 = some { cls := .none, data := .fields #[] })
    (g : ∀ base : Heap, TabBs K mg base → FnOk l.prog w K mg base (L2.CX l.prog w) k fa fd ["script"] (spD K mg 1 sem))
    (law : ∀ ns : List Int, ns.length ≤ 63 → sem [.scr ns] = .ok (.bl true)) : LamX.LawAtS l w K CX0 k 63 "script" mg fa h := by
  have mem : ∀ p ∈ lamNames.map (fun n => He.cT K (n, none)), ∃ n ∈ lamNames, He.cT K (n, none) = p := fun p hp => by
    obtain ⟨n, hn, e⟩ := List.mem_map.mp hp
    exact ⟨n, hn, e⟩
  refine ⟨fd, lamNames.map (fun n => He.cT K (n, none)), fun vs H Q _ => spD K mg 1 sem vs H Q E0, fun p hp => ?_, fun p hp => ?_, fun p hp => ?_, fun s u => FunD.bindsA (ps := ["script"]) F hb s [u] rfl, fun H a ns hl _ hT hS => ?_, fun base _ _ tb => fnOk_calm (g base fun n hn => ?_)⟩
  · obtain ⟨n, hn, rfl⟩ := mem p hp
    exact em n hn
  · obtain ⟨n, hn, rfl⟩ := mem p hp
    exact out n hn
  · obtain ⟨n, hn, rfl⟩ := mem p hp
    exact PySem.W.codeHd_of_K X (hd n hn)
  · refine ⟨rfl, fun p hp => ?_, fun _ => False, [.scr ns], fun _ z => z.elim, .cons (.scr (ScrOk.of hS)) .nil, ?_⟩
    · obtain ⟨n, hn, rfl⟩ := List.mem_map.mp hp
      exact LamX.TabS.nil (hT _ (List.mem_map.mpr ⟨n, hn, rfl⟩))
    · rw [law ns hl]
      intro v H' _ r
      cases r
      rfl
  · exact tb _ (List.mem_map.mpr ⟨n, hn, rfl⟩)
end PL

namespace PL
open PySem PySem.Spec PyProof.Rows L2
/-! ## reckoning with the language -/
theorem q_two (f : D → D → Option D) (a b : D) : two f [a, b] = f a b := rfl
theorem q_one (f : D → Option D) (a : D) : one1 f [a] = f a := rfl
theorem q_get0 (x : D) (r : En) : getE (some x :: r) 0 = .ok x := rfl
theorem q_getS (x : Option D) (r : En) (n : Nat) : getE (x :: r) (n + 1) = getE r n := by
  unfold getE
  rw [List.getElem?_cons_succ]
theorem q_pAdd : pAdd.sem = two opAdd := rfl
theorem q_pSub : pSub.sem = two (int2 tt2 fun a b => .int (a - b)) := rfl
theorem q_pMul : pMul.sem = two opMul := rfl
theorem q_pFdv : pFdv.sem = two (int2 divOk fun a b => .int (a / b)) := rfl
theorem q_pMod : pMod.sem = two (int2 modOk fun a b => .int (a % b)) := rfl
theorem q_pEq : pEq.sem = two opEq := rfl
theorem q_pNe : pNe.sem = two opNe := rfl
theorem q_pLt : pLt.sem = two opLt := rfl
theorem q_pLe : pLe.sem = two opLe := rfl
theorem q_pGt : pGt.sem = two opGt := rfl
theorem q_pGe : pGe.sem = two opGe := rfl
theorem q_pIs : pIs.sem = two opIs := rfl
theorem q_pIsn : pIsn.sem = two opIsn := rfl
theorem q_pNeg : pNeg.sem = one1 opNeg := rfl
theorem q_pIx : pIx.sem = two opIx := rfl
theorem q_pTup : pTup.sem = mkTup := rfl
theorem q_pLst : pLst.sem = mkLst := rfl
theorem q_pLen : pLen.sem = one1 opLen := rfl
theorem q_pAbs : pAbs.sem = one1 opAbs := rfl
/-! operations upon ints -/
theorem o_add (a b : Int) : opAdd (.int a) (.int b) = some (.int (a + b)) := rfl
theorem o_sub (a b : Int) : int2 tt2 (fun a b => .int (a - b)) (.int a) (.int b) = some (.int (a - b)) := rfl
theorem o_mul {a b : Int} (h : mulOk a b = true) : opMul (.int a) (.int b) = some (.int (a * b)) := by
  show (if mulOk a b = true then _ else _) = _
  rw [if_pos h]
theorem o_fdv {a b : Int} (h : divOk a b = true) : int2 divOk (fun a b => .int (a / b)) (.int a) (.int b) = some (.int (a / b)) := by
  show (if divOk a b = true then _ else _) = _
  rw [if_pos h]
theorem o_mod {a b : Int} (h : modOk a b = true) : int2 modOk (fun a b => .int (a % b)) (.int a) (.int b) = some (.int (a % b)) := by
  show (if modOk a b = true then _ else _) = _
  rw [if_pos h]
theorem o_lt (a b : Int) : opLt (.int a) (.int b) = some (.bl (decide (a < b))) := rfl
theorem o_le (a b : Int) : opLe (.int a) (.int b) = some (.bl (decide (a ≤ b))) := rfl
theorem o_gt (a b : Int) : opGt (.int a) (.int b) = some (.bl (decide (b < a))) := rfl
theorem o_ge (a b : Int) : opGe (.int a) (.int b) = some (.bl (decide (b ≤ a))) := rfl
theorem o_neg (a : Int) : opNeg (.int a) = some (.int (-a)) := rfl
theorem o_abs (a : Int) : opAbs (.int a) = some (.int (if a < 0 then -a else a)) := rfl
theorem o_lenL (l : List D) : opLen (.lst l) = some (.int l.length) := rfl
theorem o_lenT (l : List D) : opLen (.tup l) = some (.int l.length) := rfl
theorem o_lenS (l : List Int) : opLen (.scr l) = some (.int l.length) := rfl
theorem o_eqI (a b : Int) : opEq (.int a) (.int b) = some (.bl (decide (a = b))) := by
  show some (D.bl (a == b)) = _
  rw [Bool.beq_eq_decide_eq]
theorem o_neI (a b : Int) : opNe (.int a) (.int b) = some (.bl (!decide (a = b))) := by
  show some (D.bl (!(a == b))) = _
  rw [Bool.beq_eq_decide_eq]
theorem o_ixL (l : List D) (i : Int) : opIx (.lst l) (.int i) = atI l i := rfl
theorem o_ixT (l : List D) (i : Int) : opIx (.tup l) (.int i) = atI l i := rfl
theorem o_ixS (l : List Int) (i : Int) : opIx (.scr l) (.int i) = (atI l i).map D.int := rfl
theorem mul_small {a b : Int} (h : -(2 ^ 64) < a ∧ a < 2 ^ 64) : mulOk a b = true := by
  unfold mulOk
  rw [decide_eq_true h.1, decide_eq_true h.2]
  simp
theorem mul_smallR {a b : Int} (h : -(2 ^ 64) < b ∧ b < 2 ^ 64) : mulOk a b = true := by
  unfold mulOk
  rw [decide_eq_true h.1, decide_eq_true h.2]
  simp
theorem log2_lt {n k : Nat} (h : n < 2 ^ k) (hk : 0 < k) : n.log2 < k := by
  by_cases hn : n = 0
  · subst hn; simpa using hk
  · exact (Nat.log2_lt hn).mpr h
theorem div_small {a b : Int} (h : 0 < b) (h2 : b < 2 ^ 250) : divOk a b = true := by
  unfold divOk
  rw [decide_eq_true h, Bool.true_and, decide_eq_true_eq]
  have : b.natAbs < 2 ^ 250 := by omega
  exact Nat.lt_trans (log2_lt this (by decide)) (by decide : 250 < 9000)
theorem mul_wide {a b : Int} (h : a.natAbs < 2 ^ 250) (h2 : b.natAbs < 2 ^ 250) : mulOk a b = true := by
  unfold mulOk
  have h1 := log2_lt h (by decide)
  have h3 := log2_lt h2 (by decide)
  rw [decide_eq_true (show a.natAbs.log2 + b.natAbs.log2 < 1000000 by omega)]
  simp
theorem mod_small {a b : Int} (h : 0 < b) : modOk a b = true := decide_eq_true h
theorem at0 {α : Type} (a : α) (l : List α) : atI (a :: l) 0 = some a := by
  unfold atI ixN
  simp
theorem atN {α : Type} {l : List α} {i : Nat} : atI l (i : Int) = l[i]? := by
  unfold atI ixN
  by_cases h : i < l.length
  · rw [if_pos (by omega), if_pos (by omega)]; simp
  · rw [if_pos (by omega), if_neg (by omega)]; simp; omega
theorem at1 {α : Type} (a b : α) (l : List α) : atI (a :: b :: l) 1 = some b := atN (l := a :: b :: l) (i := 1)
theorem at2 {α : Type} (a b c : α) (l : List α) : atI (a :: b :: c :: l) 2 = some c := atN (l := a :: b :: c :: l) (i := 2)
end PL

namespace PL
open PySem PySem.Spec PyProof.Rows L2
/-! ## steps -/
section
variable {p : Prim} {a b c t : E} {ρ : En} {x y z d : D} {s s' : SE} {r : S} {i : Nat}
theorem e1 (h1 : ev a ρ = .ok x) (h : p.sem [x] = some d) : ev (.prim p (.cons a .nil)) ρ = .ok d := by
  show (((ev a ρ).bind fun d => Res.ok [d]).bind fun ds => ofO (p.sem ds)) = _
  rw [h1]; show ofO (p.sem [x]) = _; rw [h]; rfl
theorem e2 (h1 : ev a ρ = .ok x) (h2 : ev b ρ = .ok y) (h : p.sem [x, y] = some d) : ev (.prim p (.cons a (.cons b .nil))) ρ = .ok d := by
  show (((ev a ρ).bind fun d => (((ev b ρ).bind fun d => Res.ok [d]).bind fun ds => .ok (d :: ds))).bind fun ds => ofO (p.sem ds)) = _
  rw [h1, h2]; show ofO (p.sem [x, y]) = _; rw [h]; rfl
theorem e3 (h1 : ev a ρ = .ok x) (h2 : ev b ρ = .ok y) (h3 : ev c ρ = .ok z) (h : p.sem [x, y, z] = some d) : ev (.prim p (.cons a (.cons b (.cons c .nil)))) ρ = .ok d := by
  show (((ev a ρ).bind fun d => (((ev b ρ).bind fun d => ((ev c ρ).bind fun d => Res.ok [d]).bind fun ds => .ok (d :: ds)).bind fun ds => .ok (d :: ds))).bind fun ds => ofO (p.sem ds)) = _
  rw [h1, h2, h3]; show ofO (p.sem [x, y, z]) = _; rw [h]; rfl
theorem l0 : evL .nil ρ = .ok [] := rfl
theorem lc {as : EL} {ds : List D} (h1 : ev a ρ = .ok x) (h2 : evL as ρ = .ok ds) : evL (.cons a as) ρ = .ok (x :: ds) := by
  show (ev a ρ).bind (fun d => (evL as ρ).bind fun ds => .ok (d :: ds)) = _
  rw [h1, h2]; rfl
theorem en {as : EL} {ds : List D} (h1 : evL as ρ = .ok ds) (h : p.sem ds = some d) : ev (.prim p as) ρ = .ok d := by
  show (evL as ρ).bind (fun ds => ofO (p.sem ds)) = _
  rw [h1]; show ofO (p.sem ds) = _; rw [h]; rfl
theorem ec {f : Str} {sem : List D → Res D} {as : EL} {ds : List D} {o : Res D} (h1 : evL as ρ = .ok ds) (h : sem ds = o) : ev (.call f sem as) ρ = o := by
  show (evL as ρ).bind sem = _
  rw [h1]; exact h
theorem eand {k : Bool} (h1 : ev a ρ = .ok (.bl k)) (h : (if k then ev b ρ else .ok (.bl k)) = .ok d) : ev (.and a b) ρ = .ok d := by
  show (ev a ρ).bind (fun x => (truth x).bind fun t => if t then ev b ρ else .ok x) = _
  rw [h1]; exact h
theorem eor {k : Bool} (h1 : ev a ρ = .ok (.bl k)) (h : (if k then .ok (.bl k) else ev b ρ) = .ok d) : ev (.or a b) ρ = .ok d := by
  show (ev a ρ).bind (fun x => (truth x).bind fun t => if t then .ok x else ev b ρ) = _
  rw [h1]; exact h
theorem eandT (h1 : ev a ρ = .ok (.bl true)) (h : ev b ρ = .ok d) : ev (.and a b) ρ = .ok d := eand h1 h
theorem eandF (h1 : ev a ρ = .ok (.bl false)) : ev (.and a b) ρ = .ok (.bl false) := eand h1 rfl
theorem eorT (h1 : ev a ρ = .ok (.bl true)) : ev (.or a b) ρ = .ok (.bl true) := eor h1 rfl
theorem eorF (h1 : ev a ρ = .ok (.bl false)) (h : ev b ρ = .ok d) : ev (.or a b) ρ = .ok d := eor h1 h
theorem eandB {k l : Bool} (h1 : ev a ρ = .ok (.bl k)) (h : ev b ρ = .ok (.bl l)) : ev (.and a b) ρ = .ok (.bl (k && l)) := by
  cases k with
  | true => exact eandT h1 h
  | false => exact eandF h1
theorem eorB {k l : Bool} (h1 : ev a ρ = .ok (.bl k)) (h : ev b ρ = .ok (.bl l)) : ev (.or a b) ρ = .ok (.bl (k || l)) := by
  cases k with
  | true => exact eorT h1
  | false => exact eorF h1 h
theorem enot {k : Bool} (h1 : ev a ρ = .ok (.bl k)) : ev (.not a) ρ = .ok (.bl (!k)) := by
  show (ev a ρ).bind (fun x => (truth x).bind fun t => Res.ok (D.bl (!t))) = _
  rw [h1]; rfl
theorem eite {k : Bool} {o : Res D} (h1 : ev t ρ = .ok (.bl k)) (h : (if k then ev a ρ else ev b ρ) = o) : ev (.ite t a b) ρ = o := by
  show ((ev t ρ).bind truth).bind (fun k => if k then ev a ρ else ev b ρ) = _
  rw [h1]; exact h
theorem echain {o1 o2 : CmpOp} {f1 f2 : D → D → Option D} {k : Bool} (h1 : ev a ρ = .ok x) (h2 : ev b ρ = .ok y) (h3 : ev c ρ = .ok z) (e1 : f1 x y = some (.bl k)) {l : Bool} (e2 : f2 y z = some (.bl l)) : ev (.chain o1 o2 f1 f2 a b c) ρ = .ok (.bl (k && l)) := by
  show (ev a ρ).bind (fun x => (ev b ρ).bind fun y => (ofO (f1 x y)).bind fun z => (truth z).bind fun t => if t then (ev c ρ).bind fun u => ofO (f2 y u) else .ok (.bl false)) = _
  rw [h1]
  show (ev b ρ).bind (fun y => (ofO (f1 x y)).bind fun z => (truth z).bind fun t => if t then (ev c ρ).bind fun u => ofO (f2 y u) else .ok (.bl false)) = _
  rw [h2]
  show (ofO (f1 x y)).bind (fun z => (truth z).bind fun t => if t then (ev c ρ).bind fun u => ofO (f2 y u) else .ok (.bl false)) = _
  rw [e1]
  cases k with
  | true =>
    show (ev c ρ).bind (fun u => ofO (f2 y u)) = _
    rw [h3]
    show ofO (f2 y z) = _
    rw [e2]; rfl
  | false => rfl
/-! statements -/
theorem rc {q : S1} {o : Out} (h : run1 q s = .nx s') (h2 : run r s' = o) : run (.cons q r) s = o := by
  show seqO (run1 q s) (fun s => run r s) = _
  rw [h]; exact h2
theorem rr {q : S1} (h : run1 q s = .rt d) : run (.cons q r) s = .rt d := by
  show seqO (run1 q s) (fun s => run r s) = _
  rw [h]; rfl
theorem rset {h : Bool} {e : E} {o : Out} (h1 : ev e (see h s) = .ok d) (ho : okFor h d = true) (h2 : run r (s.set i (.ro d)) = o) : run (.cons (.set h i e) r) s = o := by
  refine rc (s' := s.set i (.ro d)) ?_ h2
  show outE (ev e (see h s)) (fun d => if okFor h d then .nx (s.set i (.ro d)) else .stuck) = _
  rw [h1]; show (if okFor h d = true then _ else _) = _; rw [if_pos ho]
theorem rret {e : E} (h1 : ev e (full s) = .ok d) : run (.cons (.ret e) r) s = .rt d := by
  refine rr ?_
  show outE (ev e (full s)) (fun d => .rt d) = _
  rw [h1]; rfl
theorem rite {u v : S} {k : Bool} {o : Out} (h1 : ev t (full s) = .ok (.bl k)) (h : seqO (if k then run u s else run v s) (fun s => run r s) = o) : run (.cons (.ite t u v) r) s = o := by
  show seqO (outE ((ev t (full s)).bind truth) fun t => if t then run u s else run v s) (fun s => run r s) = _
  rw [h1]; exact h
/-- if .. return: the way on -/
theorem riteF {u : S} {o : Out} (h1 : ev t (full s) = .ok (.bl false)) (h : run r s = o) : run (.cons (.ite t u .nil) r) s = o := rite h1 h
theorem riteT {u v : S} (h1 : ev t (full s) = .ok (.bl true)) (h : run u s = .rt d) : run (.cons (.ite t u v) r) s = .rt d := rite h1 (by rw [if_pos rfl, h]; rfl)
theorem rite2 {u v : S} {k : Bool} {o : Out} (h1 : ev t (full s) = .ok (.bl k)) (hT : k = true → run u s = .nx s') (hF : k = false → run v s = .nx s') (h : run r s' = o) : run (.cons (.ite t u v) r) s = o := by
  refine rite h1 ?_
  cases k with
  | true => rw [if_pos rfl, hT rfl]; exact h
  | false => rw [if_neg Bool.false_ne_true, hF rfl]; exact h
theorem rown {h : Bool} {e : E} {l : List D} {o : Out} (h1 : ev e (see h s) = .ok (.lst l)) (ho : (h || flatAll l) = true) (h2 : run r (s.set i (.own l)) = o) : run (.cons (.own h i e) r) s = o := by
  refine rc (s' := s.set i (.own l)) ?_ h2
  show outE (ev e (see h s)) (fun d => ownS h i s d) = _
  rw [h1]; show (if (h || flatAll l) = true then _ else _) = _; rw [if_pos ho]
theorem rapp {h : Bool} {e : E} {l : List D} {o : Out} (hs : s[i]? = some (.own l)) (h1 : ev e (see h s) = .ok d) (ho : okFor h d = true) (hl : l.length < sizeD) (h2 : run r (s.set i (.own (l ++ [d]))) = o) : run (.cons (.app h i e) r) s = o := by
  refine rc (s' := s.set i (.own (l ++ [d]))) ?_ h2
  show withOwn s i (fun l => outE (ev e (see h s)) fun d => appD h i s l d) = _
  unfold withOwn
  rw [hs]
  show outE (ev e (see h s)) (fun d => appD h i s l d) = _
  rw [h1]
  show appD h i s l d = _
  unfold appD
  rw [ho, decide_eq_true hl]; rfl
theorem rpar {h : Bool} {ts : List (Bool × Nat)} {as : EL} {ds : List D} {o : Out} (h1 : evL as (see h s) = .ok ds) (ho : parS h ts ds s = .nx s') (h2 : run r s' = o) : run (.cons (.par h ts as) r) s = o := by
  refine rc ?_ h2
  show outE (noExc (evL as (see h s))) (fun ds => parS h ts ds s) = _
  rw [h1]; exact ho
theorem runp {h : Bool} {is : List Nat} {e : E} {o : Out} (h1 : ev e (see h s) = .ok d) (ho : unpS h is s d = .nx s') (h2 : run r s' = o) : run (.cons (.unp h is e) r) s = o := by
  refine rc ?_ h2
  show outE (ev e (see h s)) (fun d => unpS h is s d) = _
  rw [h1]; exact ho
theorem rfor {tg : Tg} {it : IT} {u : S} {ds : List D} {o : Out} (h1 : evI it (hid s) = .ok ds) (ho : forM (fun s => run u s) tg ds s = .nx s') (h2 : run r s' = o) : run (.cons (.for_ tg it u) r) s = o := by
  refine rc ?_ h2
  show outE (evI it (hid s)) (fun ds => forM (fun s => run u s) tg ds s) = _
  rw [h1]; exact ho
theorem rexpr {e : E} {o : Out} (h1 : ev e (full s) = .ok d) (h2 : run r s = o) : run (.cons (.expr e) r) s = o := by
  refine rc ?_ h2
  show outE (ev e (full s)) (fun _ => .nx s) = _
  rw [h1]; rfl
theorem rcall {n np : Nat} {bd : S} {ds : List D} (hl : ds.length = np) (h : run bd (startS n ds) = .rt d) : callD n np bd ds = .ok d := by
  unfold callD
  rw [if_pos hl, h]; rfl
/-! whole numbers -/
theorem ki {k : Int} : ev (.c (.int k)) ρ = .ok (.int k) := rfl
theorem eadd {x y : Int} (h1 : ev a ρ = .ok (.int x)) (h2 : ev b ρ = .ok (.int y)) : ev (.prim pAdd (.cons a (.cons b .nil))) ρ = .ok (.int (x + y)) := e2 h1 h2 rfl
theorem esub {x y : Int} (h1 : ev a ρ = .ok (.int x)) (h2 : ev b ρ = .ok (.int y)) : ev (.prim pSub (.cons a (.cons b .nil))) ρ = .ok (.int (x - y)) := e2 h1 h2 rfl
theorem emul {x y : Int} (h1 : ev a ρ = .ok (.int x)) (h2 : ev b ρ = .ok (.int y)) (h : mulOk x y = true) : ev (.prim pMul (.cons a (.cons b .nil))) ρ = .ok (.int (x * y)) := e2 h1 h2 (o_mul h)
theorem efdv {x y : Int} (h1 : ev a ρ = .ok (.int x)) (h2 : ev b ρ = .ok (.int y)) (h : divOk x y = true) : ev (.prim pFdv (.cons a (.cons b .nil))) ρ = .ok (.int (x / y)) := e2 h1 h2 (o_fdv h)
theorem emod {x y : Int} (h1 : ev a ρ = .ok (.int x)) (h2 : ev b ρ = .ok (.int y)) (h : 0 < y) : ev (.prim pMod (.cons a (.cons b .nil))) ρ = .ok (.int (x % y)) := e2 h1 h2 (o_mod (mod_small h))
theorem elt {x y : Int} (h1 : ev a ρ = .ok (.int x)) (h2 : ev b ρ = .ok (.int y)) : ev (.prim pLt (.cons a (.cons b .nil))) ρ = .ok (.bl (decide (x < y))) := e2 h1 h2 rfl
theorem ele {x y : Int} (h1 : ev a ρ = .ok (.int x)) (h2 : ev b ρ = .ok (.int y)) : ev (.prim pLe (.cons a (.cons b .nil))) ρ = .ok (.bl (decide (x ≤ y))) := e2 h1 h2 rfl
theorem egt {x y : Int} (h1 : ev a ρ = .ok (.int x)) (h2 : ev b ρ = .ok (.int y)) : ev (.prim pGt (.cons a (.cons b .nil))) ρ = .ok (.bl (decide (x > y))) := e2 h1 h2 rfl
theorem ege {x y : Int} (h1 : ev a ρ = .ok (.int x)) (h2 : ev b ρ = .ok (.int y)) : ev (.prim pGe (.cons a (.cons b .nil))) ρ = .ok (.bl (decide (x ≥ y))) := e2 h1 h2 rfl
end
end PL

namespace PL
open PySem PySem.Spec PyProof.Rows L2
/-! ## fractions: plain -/
def gd (n d : Int) : Int := (Int.gcd n d : Int)
def fr (n d : Int) : D := .tup [.int (n / gd n d), .int (d / gd n d)]
theorem gd_pos {n d : Int} (h : 0 < d) : 0 < gd n d := by
  have := Int.gcd_pos_of_ne_zero_right n (b := d) (by omega)
  unfold gd; omega
theorem gd_n (n d : Int) : n = gd n d * (n / gd n d) := (Int.mul_ediv_cancel' (Int.gcd_dvd_left n d)).symm
theorem gd_d (n d : Int) : d = gd n d * (d / gd n d) := (Int.mul_ediv_cancel' (Int.gcd_dvd_right n d)).symm
theorem fr_scale {k n d : Int} (hk : 0 < k) : fr (k * n) (k * d) = fr n d := by
  have e : gd (k * n) (k * d) = k * gd n d := by
    unfold gd
    rw [Int.gcd_mul_left]
    have : (k.natAbs : Int) = k := by omega
    rw [Int.natCast_mul, this]
  unfold fr
  rw [e, Int.mul_ediv_mul_of_pos _ _ hk, Int.mul_ediv_mul_of_pos _ _ hk]
theorem fr_cross {n d n' d' : Int} (h : 0 < d) (h' : 0 < d') (e : n * d' = n' * d) : fr n d = fr n' d' := by
  rw [← fr_scale (k := d') (n := n) (d := d) h', ← fr_scale (k := d) (n := n') (d := d') h]
  rw [Int.mul_comm d' n, e, Int.mul_comm n' d, Int.mul_comm d' d]
def num (n d : Int) : Int := n / gd n d
def den (n d : Int) : Int := d / gd n d
theorem fr_eq (n d : Int) : fr n d = .tup [.int (num n d), .int (den n d)] := rfl
theorem den_pos {n d : Int} (h : 0 < d) : 0 < den n d := by
  have g := gd_pos (n := n) h
  have e := gd_d n d
  unfold den
  rcases Int.lt_trichotomy 0 (d / gd n d) with z | z | z
  · exact z
  · rw [← z] at e; omega
  · have := Int.mul_neg_of_pos_of_neg g z
    omega
theorem den_le {n d : Int} (h : 0 < d) : den n d ≤ d := by
  have g := gd_pos (n := n) h
  have q := den_pos (n := n) h
  have e := gd_d n d
  have : 1 * den n d ≤ gd n d * den n d := Int.mul_le_mul_of_nonneg_right (by omega) (by omega)
  unfold den at *
  omega
theorem num_le {n d : Int} (h : 0 < d) : (num n d).natAbs ≤ n.natAbs := by
  have g := gd_pos (n := n) h
  have e := gd_n n d
  unfold num
  have e2 : n.natAbs = (gd n d).natAbs * (n / gd n d).natAbs := by rw [← Int.natAbs_mul, ← e]
  rw [e2]
  exact Nat.le_mul_of_pos_left _ (by omega)
theorem num_den {n d : Int} : n * den n d = num n d * d := by
  have e1 := gd_n n d
  have e2 := gd_d n d
  have a : n * den n d = gd n d * num n d * den n d := by unfold num; rw [← e1]
  have b : num n d * d = num n d * (gd n d * den n d) := by unfold den; rw [← e2]
  rw [a, b, Int.mul_comm (gd n d) (num n d), Int.mul_assoc]
/-- the fraction of a fraction's parts -/
theorem fr_nd {n d : Int} (h : 0 < d) : fr (num n d) (den n d) = fr n d := fr_cross (den_pos h) h num_den.symm
theorem fr_inj {n d n' d' : Int} (h : 0 < d) (h' : 0 < d') (e1 : num n d = num n' d') (e2 : den n d = den n' d') : n * d' = n' * d := by
  have a := gd_n n d
  have b := gd_d n d
  have a' := gd_n n' d'
  have b' := gd_d n' d'
  have e1' : n / gd n d = n' / gd n' d' := e1
  have e2' : d / gd n d = d' / gd n' d' := e2
  generalize gd n d = g at *
  generalize gd n' d' = g' at *
  generalize n / g = p at *
  generalize d / g = q at *
  rw [← e1'] at a'
  rw [← e2'] at b'
  rw [a, b, a', b']
  grind
/-! ## what the program reckons -/
def big : Int := 100000000000000000000000000000000000000000000000000000000000000000000000000000000000000000000000000000000000000000000000000000000000000000000000000000000000000000000000000000000000000000000000000000000000000000000000000000000000000000000000000000000000000000000000000000000000000000000000000000000000000000000000000000000000000000000000000000000000000000000000000000000000000000000000000000000000000000000000000000000000000000000000000000000000000000000000000000000000000000000000000000000000000000000000000000000000000000000000000000000000000000000000000000000000000000000000000000000000000000000000000000000000000000000000000000000000000000000000000000000000000000000000000000000000000000000000000000000000000000000000000000000000000000000000000000000000000000000000000000000000000000000000000000000
def bnd (a : Int) : Bool := decide (-big < a) && decide (a < big)
theorem bnd_iff {a : Int} : bnd a = true ↔ -big < a ∧ a < big := by
  unfold bnd; rw [Bool.and_eq_true, decide_eq_true_eq, decide_eq_true_eq]
def topD : Int := 100000000000000000000000000000000000000000000000000000000000000000000000000000000000000000000000000000000000000000000000000000000000000000000000000000000000000000000000000000000000000000000000000000000000000000000000000000000000000000000000000000000000000000000000000000000000000000000000000000000000000000000000000000000000000000000000000000000000000000000000000000000000000000000000000000000000000000000000000000000000000000000000000000000000000000000000000000000000000000000000000000000000000000000000000000000000000000000000000000000000000000000000000000000000000000000000000000000000000000000000000000000000000000000000000000000000000000000000000000000000000000000000000000000000000000000000000000000000000000000000000000000000000000000000000000000000000000000000000000000000000000000000000000000000000000000000000000000000000000000000000000000000000000000000000000000000000000000000000000000000000000000000000000000000000000000000000000000000000000000000000000000000000000000000000000000000000000000000000000000000000000000000000000000000000000000000000000000000000000000000000000000000000000000000000000000000000000000000000000000000000000000000000000000000000000000000000000000000000000000000000000000000000000000000000000000000000000000000000000000000000000000000000000000000000000000000000000000000000000000000000000000000000000000000000000000000000000000000000000000000000000000000000000000000000000000000000000000000000000000000000000000000000000000000000000000000000000000000000000000000000000000000000000000000000000000000000000000000000000000000000000000000000000000000000000000000000000
def fShare : List D → Res D
  | [.int n, .int d] => if decide (0 < d) && decide (d < topD) then .ok (fr n d) else .stuck
  | _ => .stuck
def frOp (f g : Int → Int → Int → Int → Int) : List D → Res D
  | [.tup [.int a, .int b], .tup [.int c, .int d]] => if bnd a && bnd b && bnd c && bnd d && decide (0 < b) && decide (0 < d) then .ok (fr (f a b c d) (g a b c d)) else .stuck
  | _ => .stuck
def fPlus : List D → Res D := frOp (fun a b c d => a * d + c * b) fun a b c d => b * d
def fMinus : List D → Res D := frOp (fun a b c d => a * d - c * b) fun a b c d => b * d
def fTimes : List D → Res D := frOp (fun a b c d => a * c) fun a b c d => b * d
def fLess : List D → Res D
  | [.tup [.int a, .int b], .tup [.int c, .int d]] => if bnd a && bnd b && bnd c && bnd d then .ok (.bl (decide (a * d < c * b))) else .stuck
  | _ => .stuck
theorem share_ok {n d : Int} (h : 0 < d) (h2 : d < topD) : fShare [.int n, .int d] = .ok (fr n d) := by
  show (if _ then _ else _) = _
  rw [decide_eq_true h, decide_eq_true h2]; rfl
theorem vast {n : Nat} (h : n < 100000000000000000000000000000000000000000000000000000000000000000000000000000000000000000000000000000000000000000000000000000000000000000000000000000000000000000000000000000000000000000000000000000000000000000000000000000000000000000000000000000000000000000000000000000000000000000000000000000000000000000000000000000000000000000000000000000000000000000000000000000000000000000000000000000000000000000000000000000000000000000000000000000000000000000000000000000000000000000000000000000000000000000000000000000000000000000000000000000000000000000000000000000000000000000000000000000000000000000000000000000000000000000000000000000000000000000000000000000000000000000000000000000000000000000000000000000000000000000000000000000000000000000000000000000000000000000000000000000000000000000000000000000000000000000000000000000000000000000000000000000000000000000000000000000000000000000000000000000000000000000000000000000000000000000000000000000000000000000000000000000000000000000000000000000000000000000000000000000000000000000000000000000000000000000000000000000000000000000000000000000000000000000000000000000000000000000000000000000000000000000000000000000000000000000000000000000000000000000000000000000000000000000000000000000000000000000000000000000000000000000000000000000000000000000000000000000000000000000000000000000000000000000000000000000000000000000000000000000000000000000000000000000000000000000000000000000000000000000000000000000000000000000000000000000000000000000000000000000000000000000000000000000000000000000000000000000000000000000000000000000000000000000000000000000000000000000) : n.log2 < 5400 := log2_lt (Nat.lt_of_lt_of_le h (by decide +kernel)) (by decide)
theorem mul_vast {a b : Int} (h : a.natAbs < 100000000000000000000000000000000000000000000000000000000000000000000000000000000000000000000000000000000000000000000000000000000000000000000000000000000000000000000000000000000000000000000000000000000000000000000000000000000000000000000000000000000000000000000000000000000000000000000000000000000000000000000000000000000000000000000000000000000000000000000000000000000000000000000000000000000000000000000000000000000000000000000000000000000000000000000000000000000000000000000000000000000000000000000000000000000000000000000000000000000000000000000000000000000000000000000000000000000000000000000000000000000000000000000000000000000000000000000000000000000000000000000000000000000000000000000000000000000000000000000000000000000000000000000000000000000000000000000000000000000000000000000000000000000000000000000000000000000000000000000000000000000000000000000000000000000000000000000000000000000000000000000000000000000000000000000000000000000000000000000000000000000000000000000000000000000000000000000000000000000000000000000000000000000000000000000000000000000000000000000000000000000000000000000000000000000000000000000000000000000000000000000000000000000000000000000000000000000000000000000000000000000000000000000000000000000000000000000000000000000000000000000000000000000000000000000000000000000000000000000000000000000000000000000000000000000000000000000000000000000000000000000000000000000000000000000000000000000000000000000000000000000000000000000000000000000000000000000000000000000000000000000000000000000000000000000000000000000000000000000000000000000000000000000000000000000000000000) (h2 : b.natAbs < 100000000000000000000000000000000000000000000000000000000000000000000000000000000000000000000000000000000000000000000000000000000000000000000000000000000000000000000000000000000000000000000000000000000000000000000000000000000000000000000000000000000000000000000000000000000000000000000000000000000000000000000000000000000000000000000000000000000000000000000000000000000000000000000000000000000000000000000000000000000000000000000000000000000000000000000000000000000000000000000000000000000000000000000000000000000000000000000000000000000000000000000000000000000000000000000000000000000000000000000000000000000000000000000000000000000000000000000000000000000000000000000000000000000000000000000000000000000000000000000000000000000000000000000000000000000000000000000000000000000000000000000000000000000000000000000000000000000000000000000000000000000000000000000000000000000000000000000000000000000000000000000000000000000000000000000000000000000000000000000000000000000000000000000000000000000000000000000000000000000000000000000000000000000000000000000000000000000000000000000000000000000000000000000000000000000000000000000000000000000000000000000000000000000000000000000000000000000000000000000000000000000000000000000000000000000000000000000000000000000000000000000000000000000000000000000000000000000000000000000000000000000000000000000000000000000000000000000000000000000000000000000000000000000000000000000000000000000000000000000000000000000000000000000000000000000000000000000000000000000000000000000000000000000000000000000000000000000000000000000000000000000000000000000000000000000000000000) : mulOk a b = true := by
  unfold mulOk
  have h1 := vast h
  have h3 := vast h2
  rw [decide_eq_true (show a.natAbs.log2 + b.natAbs.log2 < 1000000 by omega)]
  simp
theorem div_vast {a b : Int} (h : 0 < b) (h2 : b < 100000000000000000000000000000000000000000000000000000000000000000000000000000000000000000000000000000000000000000000000000000000000000000000000000000000000000000000000000000000000000000000000000000000000000000000000000000000000000000000000000000000000000000000000000000000000000000000000000000000000000000000000000000000000000000000000000000000000000000000000000000000000000000000000000000000000000000000000000000000000000000000000000000000000000000000000000000000000000000000000000000000000000000000000000000000000000000000000000000000000000000000000000000000000000000000000000000000000000000000000000000000000000000000000000000000000000000000000000000000000000000000000000000000000000000000000000000000000000000000000000000000000000000000000000000000000000000000000000000000000000000000000000000000000000000000000000000000000000000000000000000000000000000000000000000000000000000000000000000000000000000000000000000000000000000000000000000000000000000000000000000000000000000000000000000000000000000000000000000000000000000000000000000000000000000000000000000000000000000000000000000000000000000000000000000000000000000000000000000000000000000000000000000000000000000000000000000000000000000000000000000000000000000000000000000000000000000000000000000000000000000000000000000000000000000000000000000000000000000000000000000000000000000000000000000000000000000000000000000000000000000000000000000000000000000000000000000000000000000000000000000000000000000000000000000000000000000000000000000000000000000000000000000000000000000000000000000000000000000000000000000000000000000000000000000000000000000) : divOk a b = true := by
  unfold divOk
  rw [decide_eq_true h, Bool.true_and, decide_eq_true_eq]
  exact Nat.lt_trans (vast (show b.natAbs < 100000000000000000000000000000000000000000000000000000000000000000000000000000000000000000000000000000000000000000000000000000000000000000000000000000000000000000000000000000000000000000000000000000000000000000000000000000000000000000000000000000000000000000000000000000000000000000000000000000000000000000000000000000000000000000000000000000000000000000000000000000000000000000000000000000000000000000000000000000000000000000000000000000000000000000000000000000000000000000000000000000000000000000000000000000000000000000000000000000000000000000000000000000000000000000000000000000000000000000000000000000000000000000000000000000000000000000000000000000000000000000000000000000000000000000000000000000000000000000000000000000000000000000000000000000000000000000000000000000000000000000000000000000000000000000000000000000000000000000000000000000000000000000000000000000000000000000000000000000000000000000000000000000000000000000000000000000000000000000000000000000000000000000000000000000000000000000000000000000000000000000000000000000000000000000000000000000000000000000000000000000000000000000000000000000000000000000000000000000000000000000000000000000000000000000000000000000000000000000000000000000000000000000000000000000000000000000000000000000000000000000000000000000000000000000000000000000000000000000000000000000000000000000000000000000000000000000000000000000000000000000000000000000000000000000000000000000000000000000000000000000000000000000000000000000000000000000000000000000000000000000000000000000000000000000000000000000000000000000000000000000000000000000000000000000000000000000 by omega)) (by decide)
theorem mul_bnd {a b : Int} (ha : bnd a = true) (hb : bnd b = true) : mulOk a b = true := by
  rw [bnd_iff] at ha hb
  unfold big at ha hb
  exact mul_vast (by omega) (by omega)
theorem mul_top {b d : Int} (hb : bnd b = true) (hd : bnd d = true) (h : 0 < b) (h' : 0 < d) : 0 < b * d ∧ b * d < topD := by
  rw [bnd_iff] at hb hd
  refine ⟨Int.mul_pos h h', ?_⟩
  have h1 : b * d ≤ big * d := Int.mul_le_mul_of_nonneg_right (by omega) (by omega)
  have h2 : big * d < big * big := Int.mul_lt_mul_of_pos_left hd.2 (by decide)
  have h3 : big * big < topD := by decide
  omega
/-- two fractions handed on -/
theorem bnd_num {n d : Int} (h : 0 < d) (hn : bnd n = true) : bnd (num n d) = true := by
  have := num_le (n := n) h
  rw [bnd_iff] at *
  omega
theorem bnd_den {n d : Int} (h : 0 < d) (hd : bnd d = true) : bnd (den n d) = true := by
  have := den_le (n := n) h
  have := den_pos (n := n) h
  rw [bnd_iff] at *
  omega
theorem frOp_fr {f g : Int → Int → Int → Int → Int} {n d n' d' : Int} (h : 0 < d) (h' : 0 < d') (hn : bnd n = true) (hd : bnd d = true) (hn' : bnd n' = true) (hd' : bnd d' = true) :
    frOp f g [fr n d, fr n' d'] = .ok (fr (f (num n d) (den n d) (num n' d') (den n' d')) (g (num n d) (den n d) (num n' d') (den n' d'))) := by
  rw [fr_eq, fr_eq]
  show (if _ then _ else _) = _
  rw [bnd_num h hn, bnd_den h hd, bnd_num h' hn', bnd_den h' hd', decide_eq_true (den_pos h), decide_eq_true (den_pos h')]
  rfl
theorem plus_fr {n d n' d' : Int} (h : 0 < d) (h' : 0 < d') (hn : bnd n = true) (hd : bnd d = true) (hn' : bnd n' = true) (hd' : bnd d' = true) : fPlus [fr n d, fr n' d'] = .ok (fr (n * d' + n' * d) (d * d')) := by
  unfold fPlus
  rw [frOp_fr h h' hn hd hn' hd']
  have e1 := num_den (n := n) (d := d)
  have e2 := num_den (n := n') (d := d')
  rw [fr_cross (Int.mul_pos (den_pos h) (den_pos h')) (Int.mul_pos h h') ?_]
  grind
theorem minus_fr {n d n' d' : Int} (h : 0 < d) (h' : 0 < d') (hn : bnd n = true) (hd : bnd d = true) (hn' : bnd n' = true) (hd' : bnd d' = true) : fMinus [fr n d, fr n' d'] = .ok (fr (n * d' - n' * d) (d * d')) := by
  unfold fMinus
  rw [frOp_fr h h' hn hd hn' hd']
  have e1 := num_den (n := n) (d := d)
  have e2 := num_den (n := n') (d := d')
  rw [fr_cross (Int.mul_pos (den_pos h) (den_pos h')) (Int.mul_pos h h') ?_]
  grind
theorem times_fr {n d n' d' : Int} (h : 0 < d) (h' : 0 < d') (hn : bnd n = true) (hd : bnd d = true) (hn' : bnd n' = true) (hd' : bnd d' = true) : fTimes [fr n d, fr n' d'] = .ok (fr (n * n') (d * d')) := by
  unfold fTimes
  rw [frOp_fr h h' hn hd hn' hd']
  have e1 := num_den (n := n) (d := d)
  have e2 := num_den (n := n') (d := d')
  rw [fr_cross (Int.mul_pos (den_pos h) (den_pos h')) (Int.mul_pos h h') ?_]
  grind
theorem lt_cross {n d n' d' p q p' q' : Int} (h : 0 < d) (h' : 0 < d') (hq : 0 < q) (hq' : 0 < q') (e1 : n * q = p * d) (e2 : n' * q' = p' * d') : p * q' < p' * q ↔ n * d' < n' * d := by
  have a : (p * q') * (d * d') = (n * d') * (q * q') := by grind
  have b : (p' * q) * (d * d') = (n' * d) * (q * q') := by grind
  have c : 0 < d * d' := Int.mul_pos h h'
  have c' : 0 < q * q' := Int.mul_pos hq hq'
  constructor
  · intro z
    have := Int.mul_lt_mul_of_pos_right z c
    rw [a, b] at this
    exact Int.lt_of_mul_lt_mul_right this (Int.le_of_lt c')
  · intro z
    have := Int.mul_lt_mul_of_pos_right z c'
    rw [← a, ← b] at this
    exact Int.lt_of_mul_lt_mul_right this (Int.le_of_lt c)
theorem less_fr {n d n' d' : Int} (h : 0 < d) (h' : 0 < d') (hn : bnd n = true) (hd : bnd d = true) (hn' : bnd n' = true) (hd' : bnd d' = true) : fLess [fr n d, fr n' d'] = .ok (.bl (decide (n * d' < n' * d))) := by
  rw [fr_eq, fr_eq]
  show (if _ then _ else _) = _
  rw [bnd_num h hn, bnd_den h hd, bnd_num h' hn', bnd_den h' hd']
  show Res.ok (D.bl (decide _)) = _
  congr 2
  exact decide_eq_decide.mpr (lt_cross h h' (den_pos h) (den_pos h') num_den num_den)
/-- fractions compared -/
theorem fr_shp (n d : Int) : shp (fr n d) = true := rfl
theorem fr_deq {n d n' d' : Int} (h : 0 < d) (h' : 0 < d') : deq (fr n d) (fr n' d') = decide (n * d' = n' * d) := by
  rw [fr_eq, fr_eq]
  show ((num n d == num n' d') && ((den n d == den n' d') && true)) = _
  rw [Bool.and_true]
  by_cases e : n * d' = n' * d
  · have := fr_cross h h' e
    rw [fr_eq, fr_eq] at this
    injection this with this
    injection this with t1 t2
    injection t2 with t2 _
    injection t1 with t1
    injection t2 with t2
    rw [t1, t2, decide_eq_true e]; simp
  · rw [decide_eq_false e]
    rw [Bool.and_eq_false_iff]
    by_cases e1 : num n d = num n' d'
    · right
      rw [beq_eq_false_iff_ne]
      exact fun e2 => e (fr_inj h h' e1 e2)
    · left; rw [beq_eq_false_iff_ne]; exact e1
theorem ne_fr {n d n' d' : Int} (h : 0 < d) (h' : 0 < d') : opNe (fr n d) (fr n' d') = some (.bl (!decide (n * d' = n' * d))) := by
  unfold opNe
  rw [fr_shp, fr_shp, fr_deq h h']; rfl
theorem eq_fr {n d n' d' : Int} (h : 0 < d) (h' : 0 < d') : opEq (fr n d) (fr n' d') = some (.bl (decide (n * d' = n' * d))) := by
  unfold opEq
  rw [fr_shp, fr_shp, fr_deq h h']; rfl
theorem one_fr (n : Int) : fr n 1 = .tup [.int n, .int 1] := by
  unfold fr gd
  simp
/-! ## their texts -/
def b_share : S :=
  (.cons (.par true [(false, 2), (false, 3)] (.cons (.prim pAbs (.cons (.v 0) .nil)) (.cons (.v 1) .nil)))
  (.cons (.while_ 100000000000000000000000000000000000000000000000000000000000000000000000000000000000000000000000000000000000000000000000000000000000000000000000000000000000000000000000000000000000000000000000000000000000000000000000000000000000000000000000000000000000000000000000000000000000000000000000000000000000000000000000000000000000000000000000000000000000000000000000000000000000000000000000000000000000000000000000000000000000000000000000000000000000000000000000000000000000000000000000000000000000000000000000000000000000000000000000000000000000000000000000000000000000000000000000000000000000000000000000000000000000000000000000000000000000000000000000000000000000000000000000000000000000000000000000000000000000000000000000000000000000000000000000000000000000000000000000000000000000000000000000000000000000000000000000000000000000000000000000000000000000000000000000000000000000000000000000000000000000000000000000000000000000000000000000000000000000000000000000000000000000000000000000000000000000000000000000000000000000000000000000000000000000000000000000000000000000000000000000000000000000000000000000000000000000000000000000000000000000000000000000000000000000000000000000000000000000000000000000000000000000000000000000000000000000000000000000000000000000000000000000000000000000000000000000000000000000000000000000000000000000000000000000000000000000000000000000000000000000000000000000000000000000000000000000000000000000000000000000000000000000000000000000000000000000000000000000000000000000000000000000000000000000000000000000000000000000000000000000000000000000000000000000000000000000000000 (.prim pNe (.cons (.v 3) (.cons (.c (.int 0)) .nil)))
  (.cons (.par true [(false, 2), (false, 3)] (.cons (.v 3) (.cons (.prim pMod (.cons (.v 2) (.cons (.v 3) .nil))) .nil)))
  .nil))
  (.cons (.ret (.prim pTup (.cons (.prim pFdv (.cons (.v 0) (.cons (.v 2) .nil))) (.cons (.prim pFdv (.cons (.v 1) (.cons (.v 2) .nil))) .nil))))
  .nil)))
theorem gcd_step {x y : Int} (hx : 0 ≤ x) (hy : 0 ≤ y) : Int.gcd y (x % y) = Int.gcd x y := by
  obtain ⟨a, rfl⟩ := Int.eq_ofNat_of_zero_le hx
  obtain ⟨b, rfl⟩ := Int.eq_ofNat_of_zero_le hy
  rw [← Int.natCast_emod, Int.gcd_natCast_natCast, Int.gcd_natCast_natCast, Nat.gcd_comm a b, Nat.gcd_rec b a, Nat.gcd_comm]
theorem w_share (A B : Sl) (m : Nat) : ∀ (x y : Int), 0 ≤ x → 0 ≤ y → y.toNat < m →
    whileM (fun s => (ev (.prim pNe (.cons (.v 3) (.cons (.c (.int 0)) .nil))) (full s)).bind truth) (fun s => PL.run (.cons (.par true [(false, 2), (false, 3)] (.cons (.v 3) (.cons (.prim pMod (.cons (.v 2) (.cons (.v 3) .nil))) .nil))) .nil) s) m [A, B, .ro (.int x), .ro (.int y)]
      = .nx [A, B, .ro (.int (Int.gcd x y)), .ro (.int 0)] := by
  induction m with
  | zero => intro x y _ _ h; exact absurd h (Nat.not_lt_zero _)
  | succ m ih =>
    intro x y hx hy hm
    have hc : (ev (.prim pNe (.cons (.v 3) (.cons (.c (.int 0)) .nil))) (full [A, B, .ro (.int x), .ro (.int y)])).bind truth = .ok (!decide (y = 0)) := by
      show (ofO (opNe (.int y) (.int 0))).bind truth = _
      rw [o_neI]; rfl
    unfold whileM
    rw [hc]
    by_cases h0 : y = 0
    · subst h0
      have e : (Int.gcd x 0 : Int) = x := by rw [Int.gcd_zero_right]; omega
      rw [e]
      rfl
    · have hb : PL.run (.cons (.par true [(false, 2), (false, 3)] (.cons (.v 3) (.cons (.prim pMod (.cons (.v 2) (.cons (.v 3) .nil))) .nil))) .nil) [A, B, .ro (.int x), .ro (.int y)] = .nx [A, B, .ro (.int y), .ro (.int (x % y))] := by
        have e : ev (.prim pMod (.cons (.v 2) (.cons (.v 3) .nil))) (see true [A, B, .ro (.int x), .ro (.int y)]) = .ok (.int (x % y)) := by
          show ofO (int2 modOk (fun a b => .int (a % b)) (.int x) (.int y)) = _
          rw [o_mod (mod_small (by omega))]; rfl
        show seqO (outE (noExc (((ev (.v 3) (see true [A, B, .ro (.int x), .ro (.int y)])).bind fun d => ((ev (.prim pMod (.cons (.v 2) (.cons (.v 3) .nil))) (see true [A, B, .ro (.int x), .ro (.int y)])).bind fun d2 => Res.ok [d2]).bind fun ds => .ok (d :: ds)))) fun ds => parS true [(false, 2), (false, 3)] ds [A, B, .ro (.int x), .ro (.int y)]) (fun s => .nx s) = _
        rw [e]
        rfl
      have hmod := Int.emod_lt_of_pos x (show 0 < y by omega)
      have hnn := Int.emod_nonneg x h0
      have key := ih y (x % y) hy hnn (by omega)
      rw [gcd_step hx hy] at key
      rw [← key]
      show (if (!decide (y = 0)) = true then seqO (PL.run _ [A, B, .ro (.int x), .ro (.int y)]) _ else _) = _
      rw [hb, if_pos (by simp [h0])]
      rfl
theorem gd_abs {n d : Int} : gd (if n < 0 then -n else n) d = gd n d := by
  unfold gd
  split
  · rw [Int.neg_gcd]
  · rfl
theorem r_share (ds : List D) (h : fShare ds ≠ .stuck) : callD 4 2 b_share ds = fShare ds := by
  unfold fShare at h ⊢
  split at h
  · rename_i n d
    split at h
    · rename_i hd
      rw [Bool.and_eq_true, decide_eq_true_eq, decide_eq_true_eq] at hd
      obtain ⟨h1, h2⟩ := hd
      have e1 : (if (decide (0 < d) && decide (d < topD)) = true then Res.ok (fr n d) else .stuck) = .ok (fr n d) := by
        rw [decide_eq_true h1, decide_eq_true h2]; rfl
      rw [e1]
      have hw := w_share (.ro (.int n)) (.ro (.int d)) 100000000000000000000000000000000000000000000000000000000000000000000000000000000000000000000000000000000000000000000000000000000000000000000000000000000000000000000000000000000000000000000000000000000000000000000000000000000000000000000000000000000000000000000000000000000000000000000000000000000000000000000000000000000000000000000000000000000000000000000000000000000000000000000000000000000000000000000000000000000000000000000000000000000000000000000000000000000000000000000000000000000000000000000000000000000000000000000000000000000000000000000000000000000000000000000000000000000000000000000000000000000000000000000000000000000000000000000000000000000000000000000000000000000000000000000000000000000000000000000000000000000000000000000000000000000000000000000000000000000000000000000000000000000000000000000000000000000000000000000000000000000000000000000000000000000000000000000000000000000000000000000000000000000000000000000000000000000000000000000000000000000000000000000000000000000000000000000000000000000000000000000000000000000000000000000000000000000000000000000000000000000000000000000000000000000000000000000000000000000000000000000000000000000000000000000000000000000000000000000000000000000000000000000000000000000000000000000000000000000000000000000000000000000000000000000000000000000000000000000000000000000000000000000000000000000000000000000000000000000000000000000000000000000000000000000000000000000000000000000000000000000000000000000000000000000000000000000000000000000000000000000000000000000000000000000000000000000000000000000000000000000000000000000000000000000000000000 (if n < 0 then -n else n) d (by split <;> omega) (by omega) (by unfold topD at h2; omega)
      have hg : ((Int.gcd (if n < 0 then -n else n) d : Nat) : Int) = gd n d := gd_abs
      rw [hg] at hw
      have gp := gd_pos (n := n) h1
      have gl : gd n d ≤ d := by
        have q := den_pos (n := n) h1
        have e := gd_d n d
        have : gd n d * 1 ≤ gd n d * den n d := Int.mul_le_mul_of_nonneg_left (by omega) (by omega)
        unfold den at this
        omega
      have hdv : ∀ a, divOk a (gd n d) = true := fun a => div_vast gp (by unfold topD at h2; omega)
      show outR (seqO (run1 _ [.ro (.int n), .ro (.int d), .no, .no]) _) = _
      have hp : run1 (.par true [(false, 2), (false, 3)] (.cons (.prim pAbs (.cons (.v 0) .nil)) (.cons (.v 1) .nil))) [.ro (.int n), .ro (.int d), .no, .no] = .nx [.ro (.int n), .ro (.int d), .ro (.int (if n < 0 then -n else n)), .ro (.int d)] := rfl
      rw [hp]
      show outR (seqO (whileM _ _ _ [.ro (.int n), .ro (.int d), .ro (.int (if n < 0 then -n else n)), .ro (.int d)]) _) = _
      rw [hw]
      show outR (seqO (outE (((ofO (int2 divOk (fun a b => .int (a / b)) (.int n) (.int (gd n d)))).bind fun x => (((ofO (int2 divOk (fun a b => .int (a / b)) (.int d) (.int (gd n d)))).bind fun y => Res.ok [y])).bind fun ys => .ok (x :: ys)).bind fun ds => ofO (mkTup ds)) fun d => .rt d) _) = _
      rw [o_fdv (hdv n), o_fdv (hdv d)]
      rfl
    · exact absurd rfl h
  · exact absurd rfl h
/-! ## plus, minus, times, is_less -/
def eIx (i : Nat) (k : Int) : E := .prim pIx (.cons (.v i) (.cons (.c (.int k)) .nil))
theorem ix0 (a b : Int) : ofO (opIx (.tup [.int a, .int b]) (.int 0)) = .ok (.int a) := rfl
theorem ix1 (a b : Int) : ofO (opIx (.tup [.int a, .int b]) (.int 1)) = .ok (.int b) := rfl
def b_plus : S :=
  (.cons (.ret (.call "share" fShare (.cons (.prim pAdd (.cons (.prim pMul (.cons (.prim pIx (.cons (.v 0) (.cons (.c (.int 0)) .nil))) (.cons (.prim pIx (.cons (.v 1) (.cons (.c (.int 1)) .nil))) .nil))) (.cons (.prim pMul (.cons (.prim pIx (.cons (.v 1) (.cons (.c (.int 0)) .nil))) (.cons (.prim pIx (.cons (.v 0) (.cons (.c (.int 1)) .nil))) .nil))) .nil))) (.cons (.prim pMul (.cons (.prim pIx (.cons (.v 0) (.cons (.c (.int 1)) .nil))) (.cons (.prim pIx (.cons (.v 1) (.cons (.c (.int 1)) .nil))) .nil))) .nil))))
  .nil)
def b_minus : S :=
  (.cons (.ret (.call "share" fShare (.cons (.prim pSub (.cons (.prim pMul (.cons (.prim pIx (.cons (.v 0) (.cons (.c (.int 0)) .nil))) (.cons (.prim pIx (.cons (.v 1) (.cons (.c (.int 1)) .nil))) .nil))) (.cons (.prim pMul (.cons (.prim pIx (.cons (.v 1) (.cons (.c (.int 0)) .nil))) (.cons (.prim pIx (.cons (.v 0) (.cons (.c (.int 1)) .nil))) .nil))) .nil))) (.cons (.prim pMul (.cons (.prim pIx (.cons (.v 0) (.cons (.c (.int 1)) .nil))) (.cons (.prim pIx (.cons (.v 1) (.cons (.c (.int 1)) .nil))) .nil))) .nil))))
  .nil)
def b_times : S :=
  (.cons (.ret (.call "share" fShare (.cons (.prim pMul (.cons (.prim pIx (.cons (.v 0) (.cons (.c (.int 0)) .nil))) (.cons (.prim pIx (.cons (.v 1) (.cons (.c (.int 0)) .nil))) .nil))) (.cons (.prim pMul (.cons (.prim pIx (.cons (.v 0) (.cons (.c (.int 1)) .nil))) (.cons (.prim pIx (.cons (.v 1) (.cons (.c (.int 1)) .nil))) .nil))) .nil))))
  .nil)
def b_is_less : S :=
  (.cons (.ret (.prim pLt (.cons (.prim pMul (.cons (.prim pIx (.cons (.v 0) (.cons (.c (.int 0)) .nil))) (.cons (.prim pIx (.cons (.v 1) (.cons (.c (.int 1)) .nil))) .nil))) (.cons (.prim pMul (.cons (.prim pIx (.cons (.v 1) (.cons (.c (.int 0)) .nil))) (.cons (.prim pIx (.cons (.v 0) (.cons (.c (.int 1)) .nil))) .nil))) .nil))))
  .nil)
theorem fr_guard {a b c d : Int} {x : Res D} (h : (if (bnd a && bnd b && bnd c && bnd d && decide (0 < b) && decide (0 < d)) = true then x else .stuck) ≠ .stuck) : (bnd a = true ∧ bnd b = true ∧ bnd c = true ∧ bnd d = true ∧ 0 < b ∧ 0 < d) ∧ (if (bnd a && bnd b && bnd c && bnd d && decide (0 < b) && decide (0 < d)) = true then x else .stuck) = x := by
  split at h
  · rename_i hc
    rw [if_pos hc]
    simp only [Bool.and_eq_true, decide_eq_true_eq] at hc
    exact ⟨⟨hc.1.1.1.1.1, hc.1.1.1.1.2, hc.1.1.1.2, hc.1.1.2, hc.1.2, hc.2⟩, rfl⟩
  · exact absurd rfl h
theorem r_plus (ds : List D) (h : fPlus ds ≠ .stuck) : callD 2 2 b_plus ds = fPlus ds := by
  unfold fPlus frOp at h ⊢
  split at h
  · rename_i a b c d
    obtain ⟨⟨h1, h2, h3, h4, h5, h6⟩, e⟩ := fr_guard h
    rw [e]
    obtain ⟨t1, t2⟩ := mul_top h2 h4 h5 h6
    show outR (seqO (outE ((((((ofO (opMul (.int a) (.int d))).bind fun x => (((ofO (opMul (.int c) (.int b))).bind fun y => Res.ok [y])).bind fun ys => .ok (x :: ys)).bind fun ds => ofO (two opAdd ds)).bind fun x => (((ofO (opMul (.int b) (.int d))).bind fun y => Res.ok [y])).bind fun ys => .ok (x :: ys)).bind fShare)) fun d => .rt d) _) = _
    rw [o_mul (mul_bnd h1 h4), o_mul (mul_bnd h3 h2), o_mul (mul_bnd h2 h4)]
    show outR (seqO (outE (fShare [.int (a * d + c * b), .int (b * d)]) fun d => .rt d) _) = _
    rw [share_ok t1 t2]
    rfl
  · exact absurd rfl h
theorem r_minus (ds : List D) (h : fMinus ds ≠ .stuck) : callD 2 2 b_minus ds = fMinus ds := by
  unfold fMinus frOp at h ⊢
  split at h
  · rename_i a b c d
    obtain ⟨⟨h1, h2, h3, h4, h5, h6⟩, e⟩ := fr_guard h
    rw [e]
    obtain ⟨t1, t2⟩ := mul_top h2 h4 h5 h6
    show outR (seqO (outE ((((((ofO (opMul (.int a) (.int d))).bind fun x => (((ofO (opMul (.int c) (.int b))).bind fun y => Res.ok [y])).bind fun ys => .ok (x :: ys)).bind fun ds => ofO (two (int2 tt2 fun a b => .int (a - b)) ds)).bind fun x => (((ofO (opMul (.int b) (.int d))).bind fun y => Res.ok [y])).bind fun ys => .ok (x :: ys)).bind fShare)) fun d => .rt d) _) = _
    rw [o_mul (mul_bnd h1 h4), o_mul (mul_bnd h3 h2), o_mul (mul_bnd h2 h4)]
    show outR (seqO (outE (fShare [.int (a * d - c * b), .int (b * d)]) fun d => .rt d) _) = _
    rw [share_ok t1 t2]
    rfl
  · exact absurd rfl h
theorem r_times (ds : List D) (h : fTimes ds ≠ .stuck) : callD 2 2 b_times ds = fTimes ds := by
  unfold fTimes frOp at h ⊢
  split at h
  · rename_i a b c d
    obtain ⟨⟨h1, h2, h3, h4, h5, h6⟩, e⟩ := fr_guard h
    rw [e]
    obtain ⟨t1, t2⟩ := mul_top h2 h4 h5 h6
    show outR (seqO (outE ((((ofO (opMul (.int a) (.int c))).bind fun x => (((ofO (opMul (.int b) (.int d))).bind fun y => Res.ok [y])).bind fun ys => .ok (x :: ys)).bind fShare)) fun d => .rt d) _) = _
    rw [o_mul (mul_bnd h1 h3), o_mul (mul_bnd h2 h4)]
    show outR (seqO (outE (fShare [.int (a * c), .int (b * d)]) fun d => .rt d) _) = _
    rw [share_ok t1 t2]
    rfl
  · exact absurd rfl h
theorem r_is_less (ds : List D) (h : fLess ds ≠ .stuck) : callD 2 2 b_is_less ds = fLess ds := by
  unfold fLess at h ⊢
  split at h
  · rename_i a b c d
    split at h
    · rename_i hc
      have hc' := hc
      simp only [Bool.and_eq_true] at hc'
      obtain ⟨⟨⟨h1, h2⟩, h3⟩, h4⟩ := hc'
      rw [if_pos hc]
      show outR (seqO (outE ((((ofO (opMul (.int a) (.int d))).bind fun x => (((ofO (opMul (.int c) (.int b))).bind fun y => Res.ok [y])).bind fun ys => .ok (x :: ys)).bind fun ds => ofO (two opLt ds))) fun d => .rt d) _) = _
      rw [o_mul (mul_bnd h1 h4), o_mul (mul_bnd h3 h2)]
      rfl
    · exact absurd rfl h
  · exact absurd rfl h
end PL

namespace PL
open PySem PySem.Spec PyProof.Rows L2
/-! ## a law's draws -/
def cellI (ns : List Int) (k : Int) : Int := if k < ns.length then ns.getD k.toNat 0 else if ns = [] then 0 else ns.getD (k % ns.length).toNat 0 * 31 + k
def drawI (ns : List Int) (k : Int) : Int := (cellI ns k + 6151 * (k + 1)) * 40692 % 2147483399
def pickI (ns : List Int) (k m : Int) : Int := (drawI ns k * drawI ns k + drawI ns k / 31) % 2147483629 % m
theorem pickI_nn (ns : List Int) (k : Int) {m : Int} (h : 0 < m) : 0 ≤ pickI ns k m := Int.emod_nonneg _ (by omega)
theorem pickI_lt (ns : List Int) (k : Int) {m : Int} (h : 0 < m) : pickI ns k m < m := Int.emod_lt_of_pos _ h
def fCell : List D → Res D
  | [.scr ns, .int k] => if decide (0 ≤ k) then .ok (.int (cellI ns k)) else .stuck
  | _ => .stuck
def fPick : List D → Res D
  | [.scr ns, .int k, .int m] => if decide (0 ≤ k) && decide (k < 1000000) && decide (0 < m) then .ok (.int (pickI ns k m)) else .stuck
  | _ => .stuck
def b__law_cell : S :=
  (.cons (.ite (.prim pLt (.cons (.v 1) (.cons (.prim pLen (.cons (.v 0) .nil)) .nil)))
  (.cons (.ret (.prim pIx (.cons (.v 0) (.cons (.v 1) .nil))))
  .nil)
  .nil)
  (.cons (.ite (.prim pEq (.cons (.v 0) (.cons (.prim pLst .nil) .nil)))
  (.cons (.ret (.c (.int 0)))
  .nil)
  .nil)
  (.cons (.ret (.prim pAdd (.cons (.prim pMul (.cons (.prim pIx (.cons (.v 0) (.cons (.prim pMod (.cons (.v 1) (.cons (.prim pLen (.cons (.v 0) .nil)) .nil))) .nil))) (.cons (.c (.int 31)) .nil))) (.cons (.v 1) .nil))))
  .nil)))
def b__law_pick : S :=
  (.cons (.set true 3 (.prim pMod (.cons (.prim pMul (.cons (.prim pAdd (.cons (.call "_law_cell" fCell (.cons (.v 0) (.cons (.v 1) .nil))) (.cons (.prim pMul (.cons (.c (.int 6151)) (.cons (.prim pAdd (.cons (.v 1) (.cons (.c (.int 1)) .nil))) .nil))) .nil))) (.cons (.c (.int 40692)) .nil))) (.cons (.c (.int 2147483399)) .nil))))
  (.cons (.ret (.prim pMod (.cons (.prim pMod (.cons (.prim pAdd (.cons (.prim pMul (.cons (.v 3) (.cons (.v 3) .nil))) (.cons (.prim pFdv (.cons (.v 3) (.cons (.c (.int 31)) .nil))) .nil))) (.cons (.c (.int 2147483629)) .nil))) (.cons (.v 2) .nil))))
  .nil))
theorem atI_nn {α : Type} {l : List α} {i : Int} (h : 0 ≤ i) : atI l i = l[i.toNat]? := by
  obtain ⟨n, e⟩ := Int.eq_ofNat_of_zero_le h
  rw [e, atN]
  rfl
theorem ix_scr {ns : List Int} {k : Int} (h : 0 ≤ k) (h2 : k < ns.length) : opIx (.scr ns) (.int k) = some (.int (ns.getD k.toNat 0)) := by
  show (atI ns k).map D.int = _
  rw [atI_nn h]
  have hl : k.toNat < ns.length := by omega
  rw [List.getElem?_eq_getElem hl]
  show some (D.int ns[k.toNat]) = _
  rw [List.getD_eq_getElem?_getD, List.getElem?_eq_getElem hl]; rfl
theorem scr_depth : ∀ ns : List Int, PyData.depthAll (ns.map PyData.int) = 0
  | [] => rfl
  | _ :: ns => by
    show max (PyData.depth (.int _)) (PyData.depthAll (ns.map PyData.int)) = 0
    rw [scr_depth ns]; rfl
theorem scr_lay : ∀ ns : List Int, PyData.canLayAll0 (ns.map PyData.int) = true
  | [] => rfl
  | _ :: ns => by
    show (PyData.canLay0 (.int _) && PyData.canLayAll0 (ns.map PyData.int)) = true
    rw [scr_lay ns]; rfl
theorem eq_scr (ns : List Int) : opEq (.scr ns) (.lst []) = some (.bl (decide (ns = []))) := by
  have s1 : shp (.scr ns) = true := by
    show (true && (PyData.canLayAll0 (ns.map PyData.int) && decide (PyData.depthAll (ns.map PyData.int) + 1 ≤ 64))) = true
    rw [scr_lay, scr_depth]; rfl
  unfold opEq
  rw [s1]
  cases ns with
  | nil => rfl
  | cons a b => rfl
theorem r__law_cell (ds : List D) (h : fCell ds ≠ .stuck) : callD 2 2 b__law_cell ds = fCell ds := by
  unfold fCell at h ⊢
  split at h
  · rename_i ns k
    split at h
    · rename_i hk
      rw [if_pos hk]
      rw [decide_eq_true_eq] at hk
      unfold cellI
      refine rcall rfl ?_
      have t1 : ev (.prim pLt (.cons (.v 1) (.cons (.prim pLen (.cons (.v 0) .nil)) .nil))) (full (startS 2 [.scr ns, .int k])) = .ok (.bl (decide (k < ns.length))) := e2 rfl (e1 rfl rfl) rfl
      by_cases h1 : k < ns.length
      · rw [decide_eq_true h1] at t1
        rw [if_pos h1]
        exact riteT t1 (rret (e2 rfl rfl (ix_scr hk h1)))
      · rw [decide_eq_false h1] at t1
        rw [if_neg h1]
        refine riteF t1 ?_
        have t2 : ev (.prim pEq (.cons (.v 0) (.cons (.prim pLst .nil) .nil))) (full (startS 2 [.scr ns, .int k])) = .ok (.bl (decide (ns = []))) := e2 rfl rfl (eq_scr ns)
        by_cases h2 : ns = []
        · rw [decide_eq_true h2] at t2
          rw [if_pos h2]
          exact riteT t2 (rret rfl)
        · rw [decide_eq_false h2] at t2
          rw [if_neg h2]
          refine riteF t2 ?_
          have hl : 0 < (ns.length : Int) := by
            cases ns with
            | nil => exact absurd rfl h2
            | cons a b => simp
          exact rret (e2 (e2 (e2 rfl (e2 rfl (e1 rfl rfl) (o_mod (mod_small hl))) (ix_scr (Int.emod_nonneg _ (by omega)) (Int.emod_lt_of_pos _ hl))) rfl (o_mul (mul_smallR (by decide)))) rfl rfl)
    · exact absurd rfl h
  · exact absurd rfl h
theorem cell_ok {ns : List Int} {k : Int} (h : 0 ≤ k) : fCell [.scr ns, .int k] = .ok (.int (cellI ns k)) := by
  show (if decide (0 ≤ k) = true then _ else _) = _
  rw [decide_eq_true h]; rfl
theorem r__law_pick (ds : List D) (h : fPick ds ≠ .stuck) : callD 4 3 b__law_pick ds = fPick ds := by
  unfold fPick at h ⊢
  split at h
  · rename_i ns k m
    split at h
    · rename_i hk
      rw [if_pos hk]
      simp only [Bool.and_eq_true, decide_eq_true_eq] at hk
      obtain ⟨⟨hk, hk2⟩, hm⟩ := hk
      have hd0 : 0 ≤ drawI ns k := Int.emod_nonneg _ (by decide)
      have hd1 : drawI ns k < 2147483399 := Int.emod_lt_of_pos _ (by decide)
      refine rcall rfl ?_
      refine rset (d := .int (drawI ns k)) ?_ rfl ?_
      · exact emod (emul (eadd (ec (lc rfl (lc rfl l0)) (cell_ok hk)) (emul ki (eadd rfl ki) (mul_small (by decide)))) ki (mul_smallR (by decide))) ki (by decide)
      · exact rret (emod (emod (eadd (emul rfl rfl (mul_small (by omega))) (efdv rfl ki (div_small (by decide) (by decide)))) ki (by decide)) rfl hm)
    · exact absurd rfl h
  · exact absurd rfl h
theorem pick_ok {ns : List Int} {k m : Int} (h1 : 0 ≤ k) (h2 : k < 1000000) (h3 : 0 < m) : fPick [.scr ns, .int k, .int m] = .ok (.int (pickI ns k m)) := by
  show (if _ then _ else _) = _
  rw [decide_eq_true h1, decide_eq_true h2, decide_eq_true h3]; rfl
end PL

namespace PL
open PySem PySem.Spec PyProof.Rows L2
/-! ## texts picked apart -/
def S.drop : S → Nat → S
  | s, 0 => s
  | .cons _ r, n + 1 => S.drop r n
  | _, _ => .nil
def S.loop : S → S
  | .cons (.for_ _ _ u) _ => u
  | .cons (.while_ _ _ u) _ => u
  | _ => .nil
def S.yes : S → S
  | .cons (.ite _ u _) _ => u
  | _ => .nil
/-! ## fractions with bounds -/
theorem bm {A B : Nat} {a b : Int} (ha : a.natAbs ≤ A) (hb : b.natAbs ≤ B) : (a * b).natAbs ≤ A * B := by
  rw [Int.natAbs_mul]; exact Nat.mul_le_mul ha hb
theorem ba {A B : Nat} {a b : Int} (ha : a.natAbs ≤ A) (hb : b.natAbs ≤ B) : (a + b).natAbs ≤ A + B := by omega
theorem bs {A B : Nat} {a b : Int} (ha : a.natAbs ≤ A) (hb : b.natAbs ≤ B) : (a - b).natAbs ≤ A + B := by omega
theorem bndN {A : Nat} {a : Int} (h : a.natAbs ≤ A) (hA : A < 10000000000000000000000000000000000000) : bnd a = true := by
  rw [bnd_iff]; unfold big; omega
structure Q (N : Nat) (n d : Int) : Prop where
  p : 0 < d
  n : n.natAbs ≤ N
  d : d.natAbs ≤ N
section
variable {N M : Nat} {n d n' d' : Int}
theorem Q.num (q : Q N n d) : (PL.num n d).natAbs ≤ N := Nat.le_trans (num_le q.p) q.n
theorem Q.den (q : Q N n d) : (PL.den n d).natAbs ≤ N := by
  have := den_le (n := n) q.p
  have := den_pos (n := n) q.p
  have := q.d
  omega
theorem Q.plus (q : Q N n d) (q' : Q M n' d') : Q (N * M + M * N) (n * d' + n' * d) (d * d') := ⟨Int.mul_pos q.p q'.p, ba (bm q.n q'.d) (bm q'.n q.d), Nat.le_trans (bm q.d q'.d) (by omega)⟩
theorem Q.minus (q : Q N n d) (q' : Q M n' d') : Q (N * M + M * N) (n * d' - n' * d) (d * d') := ⟨Int.mul_pos q.p q'.p, bs (bm q.n q'.d) (bm q'.n q.d), Nat.le_trans (bm q.d q'.d) (by omega)⟩
theorem Q.times (q : Q N n d) (q' : Q M n' d') : Q (N * M) (n * n') (d * d') := ⟨Int.mul_pos q.p q'.p, bm q.n q'.n, bm q.d q'.d⟩
variable (q : Q N n d) (q' : Q M n' d') (hN : N < 10000000000000000000000000000000000000) (hM : M < 10000000000000000000000000000000000000)
include q q' hN hM
theorem qplus : fPlus [fr n d, fr n' d'] = .ok (fr (n * d' + n' * d) (d * d')) := plus_fr q.p q'.p (bndN q.n hN) (bndN q.d hN) (bndN q'.n hM) (bndN q'.d hM)
theorem qminus : fMinus [fr n d, fr n' d'] = .ok (fr (n * d' - n' * d) (d * d')) := minus_fr q.p q'.p (bndN q.n hN) (bndN q.d hN) (bndN q'.n hM) (bndN q'.d hM)
theorem qtimes : fTimes [fr n d, fr n' d'] = .ok (fr (n * n') (d * d')) := times_fr q.p q'.p (bndN q.n hN) (bndN q.d hN) (bndN q'.n hM) (bndN q'.d hM)
theorem qless : fLess [fr n d, fr n' d'] = .ok (.bl (decide (n * d' < n' * d))) := less_fr q.p q'.p (bndN q.n hN) (bndN q.d hN) (bndN q'.n hM) (bndN q'.d hM)
end
theorem ne_same {n d n' d' : Int} (h : 0 < d) (h' : 0 < d') (e : n * d' = n' * d) : opNe (fr n d) (fr n' d') = some (.bl false) := by
  rw [ne_fr h h', decide_eq_true e]; rfl
theorem eq_same {n d n' d' : Int} (h : 0 < d) (h' : 0 < d') (e : n * d' = n' * d) : opEq (fr n d) (fr n' d') = some (.bl true) := by
  rw [eq_fr h h', decide_eq_true e]
theorem fr0 (n d : Int) : opIx (fr n d) (.int 0) = some (.int (num n d)) := rfl
theorem fr1 (n d : Int) : opIx (fr n d) (.int 1) = some (.int (den n d)) := rfl
section
variable {a b : E} {ρ : En} {n d : Int}
theorem ex0 (h : ev a ρ = .ok (fr n d)) : ev (.prim pIx (.cons a (.cons (.c (.int 0)) .nil))) ρ = .ok (.int (num n d)) := e2 h ki (fr0 n d)
theorem ex1 (h : ev a ρ = .ok (fr n d)) : ev (.prim pIx (.cons a (.cons (.c (.int 1)) .nil))) ρ = .ok (.int (den n d)) := e2 h ki (fr1 n d)
end
theorem neB (a b : Bool) : opNe (.bl a) (.bl b) = some (.bl (a != b)) := by cases a <;> cases b <;> rfl
theorem num_neg {n d : Int} (h : 0 < d) : num n d < 0 ↔ n < 0 := by
  have e := num_den (n := n) (d := d)
  have p := den_pos (n := n) h
  constructor
  · intro z
    have : num n d * d < 0 := Int.mul_neg_of_neg_of_pos z h
    rw [← e] at this
    exact Int.neg_of_mul_neg_left this (by omega)
  · intro z
    have : n * den n d < 0 := Int.mul_neg_of_neg_of_pos z p
    rw [e] at this
    exact Int.neg_of_mul_neg_left this (by omega)
end PL

namespace PL
open PySem PySem.Spec PyProof.Rows L2
/-! ## more built-in functions -/
def intsD : List D → Option (List Int)
  | [] => some []
  | .int i :: r => (intsD r).map (i :: ·)
  | _ => none
def blsD : List D → Option (List Bool)
  | [] => some []
  | .bl i :: r => (blsD r).map (i :: ·)
  | _ => none
theorem intsD_rep {K : PySem.W.Frag} {M : Mk} {H : Hp} : ∀ {ds : List D} {vs : List V} {ns : List Int}, RepAll K M H vs ds → intsD ds = some ns → vs = ns.map V.int
  | [], _, ns, r, e => by cases r; cases e; rfl
  | d :: ds, _, ns, r, e => by
    cases r with
    | cons r1 r2 =>
      cases d with
      | int i =>
        cases r1
        cases e1 : intsD ds with
        | none => unfold intsD at e; rw [e1] at e; cases e
        | some m =>
          unfold intsD at e; rw [e1] at e; cases e
          rw [intsD_rep r2 e1]; rfl
      | _ => cases e
theorem blsD_rep {K : PySem.W.Frag} {M : Mk} {H : Hp} : ∀ {ds : List D} {vs : List V} {ns : List Bool}, RepAll K M H vs ds → blsD ds = some ns → vs = ns.map V.bl
  | [], _, ns, r, e => by cases r; cases e; rfl
  | d :: ds, _, ns, r, e => by
    cases r with
    | cons r1 r2 =>
      cases d with
      | bl i =>
        cases r1
        cases e1 : blsD ds with
        | none => unfold blsD at e; rw [e1] at e; cases e
        | some m =>
          unfold blsD at e; rw [e1] at e; cases e
          rw [blsD_rep r2 e1]; rfl
      | _ => cases e
theorem intsD_map : ∀ ns : List Int, intsD (ns.map D.int) = some ns
  | [] => rfl
  | n :: ns => by show (intsD (ns.map D.int)).map (n :: ·) = _; rw [intsD_map ns]; rfl
theorem blsD_map : ∀ ns : List Bool, blsD (ns.map D.bl) = some ns
  | [] => rfl
  | n :: ns => by show (blsD (ns.map D.bl)).map (n :: ·) = _; rw [blsD_map ns]; rfl
def opMax2 : D → D → Option D := int2 tt2 fun a b => .int (if b > a then b else a)
def opMin2 : D → D → Option D := int2 tt2 fun a b => .int (if b < a then b else a)
def pMax2 : Prim := { syn := callSyn "max", sem := two opMax2 }
def pMin2 : Prim := { syn := callSyn "min", sem := two opMin2 }
theorem max2G : PrimG pMax2 := prim_blt (id := "max") (by decide) (by decide +kernel) (by decide) (by decide) fun X k W xo => by
  refine ⟨_, call_max2 xo.calm, fun M H xs ds d Q dm rs e k => ?_⟩
  match ds, rs, e with
  | [a, b], .cons r1 (.cons r2 .nil), e =>
    have e' : opMax2 a b = some d := e
    unfold opMax2 int2 at e'
    split at e'
    · cases r1; cases r2; cases e'; exact ⟨_, _, rfl, k _ H (Same.refl H) (.int _)⟩
    · cases e'
theorem min2G : PrimG pMin2 := prim_blt (id := "min") (by decide) (by decide +kernel) (by decide) (by decide) fun X k W xo => by
  refine ⟨_, call_min2 xo.calm, fun M H xs ds d Q dm rs e k => ?_⟩
  match ds, rs, e with
  | [a, b], .cons r1 (.cons r2 .nil), e =>
    have e' : opMin2 a b = some d := e
    unfold opMin2 int2 at e'
    split at e'
    · cases r1; cases r2; cases e'; exact ⟨_, _, rfl, k _ H (Same.refl H) (.int _)⟩
    · cases e'
def opAll : D → Option D
  | .lst l => (blsD l).map fun bs => .bl (bs.all id)
  | _ => none
def opAny : D → Option D
  | .lst l => (blsD l).map fun bs => .bl (bs.any id)
  | _ => none
def opSum : D → Option D
  | .lst l => (intsD l).map fun ns => .int ns.sum
  | _ => none
def topI : List Int → Int
  | [] => 0
  | [a] => a
  | a :: r => if a ≤ topI r then topI r else a
def botI : List Int → Int
  | [] => 0
  | [a] => a
  | a :: r => if botI r ≤ a then botI r else a
theorem topI_ge : ∀ (l : List Int) (y : Int), y ∈ l → y ≤ topI l
  | [a], y, h => by rw [List.mem_singleton] at h; rw [h]; exact Int.le_refl a
  | a :: b :: r, y, h => by
    have ih := topI_ge (b :: r)
    show y ≤ if a ≤ topI (b :: r) then topI (b :: r) else a
    rcases List.mem_cons.mp h with rfl | h
    · split <;> omega
    · have := ih y h
      split <;> omega
theorem topI_mem : ∀ (l : List Int), l ≠ [] → topI l ∈ l
  | [], h => absurd rfl h
  | [a], _ => List.mem_singleton.mpr rfl
  | a :: b :: r, _ => by
    show (if a ≤ topI (b :: r) then topI (b :: r) else a) ∈ _
    split
    · exact List.mem_cons_of_mem _ (topI_mem (b :: r) (by simp))
    · exact List.mem_cons_self
theorem botI_le : ∀ (l : List Int) (y : Int), y ∈ l → botI l ≤ y
  | [a], y, h => by rw [List.mem_singleton] at h; rw [h]; exact Int.le_refl a
  | a :: b :: r, y, h => by
    have ih := botI_le (b :: r)
    show (if botI (b :: r) ≤ a then botI (b :: r) else a) ≤ y
    rcases List.mem_cons.mp h with rfl | h
    · split <;> omega
    · have := ih y h
      split <;> omega
theorem botI_mem : ∀ (l : List Int), l ≠ [] → botI l ∈ l
  | [], h => absurd rfl h
  | [a], _ => List.mem_singleton.mpr rfl
  | a :: b :: r, _ => by
    show (if botI (b :: r) ≤ a then botI (b :: r) else a) ∈ _
    split
    · exact List.mem_cons_of_mem _ (botI_mem (b :: r) (by simp))
    · exact List.mem_cons_self
theorem top_is {l : List Int} {m : Int} (h1 : m ∈ l) (h2 : ∀ y, y ∈ l → y ≤ m) : m = topI l := by
  have a := topI_ge l m h1
  have b := h2 _ (topI_mem l (List.ne_nil_of_mem h1))
  omega
theorem bot_is {l : List Int} {m : Int} (h1 : m ∈ l) (h2 : ∀ y, y ∈ l → m ≤ y) : m = botI l := by
  have a := botI_le l m h1
  have b := h2 _ (botI_mem l (List.ne_nil_of_mem h1))
  omega
def opMax1 : D → Option D
  | .lst l => (intsD l).bind fun ns => if 0 < ns.length then some (.int (topI ns)) else none
  | _ => none
def opMin1 : D → Option D
  | .lst l => (intsD l).bind fun ns => if 0 < ns.length then some (.int (botI ns)) else none
  | _ => none
def pAll : Prim := { syn := callSyn "all", sem := one1 opAll }
def pAny : Prim := { syn := callSyn "any", sem := one1 opAny }
def pSum : Prim := { syn := callSyn "sum", sem := one1 opSum }
def pMax1 : Prim := { syn := callSyn "max", sem := one1 opMax1 }
def pMin1 : Prim := { syn := callSyn "min", sem := one1 opMin1 }
theorem one_lst {K : PySem.W.Frag} {M : Mk} {H : Hp} {xs : List V} {ds : List D} {f : D → Option D} {d : D} (rs : RepAll K M H xs ds) (e : one1 f ds = some d) (hf : ∀ a d, f a = some d → ∃ l, a = .lst l) :
    ∃ a vs l, xs = [.ref a] ∧ ds = [.lst l] ∧ f (.lst l) = some d ∧ H a = some (.lst vs) ∧ ¬ M a ∧ RepAll K M H vs l := by
  match ds, rs, e with
  | [x], .cons r1 .nil, e =>
    obtain ⟨l, rfl⟩ := hf x d e
    cases r1 with
    | lst s n ra => exact ⟨_, _, l, rfl, rfl, e, s, n, ra⟩
theorem allG : PrimG pAll := prim_blt (id := "all") (by decide) (by decide +kernel) (by decide) (by decide) fun X k W xo => by
  refine ⟨_, cr_all xo.calm, fun M H xs ds d Q dm rs e k => ?_⟩
  obtain ⟨a, vs, l, rfl, rfl, e, s, n, ra⟩ := one_lst rs e (fun a d h => by cases a <;> first | exact ⟨_, rfl⟩ | cases h)
  have e' : (blsD l).map (fun bs => D.bl (bs.all id)) = some d := e
  cases e1 : blsD l with
  | none => rw [e1] at e'; cases e'
  | some bs =>
    rw [e1] at e'; cases e'
    exact ⟨a, bs, rfl, SqL.of (by rw [← blsD_rep ra e1]; exact s), k _ H (Same.refl H) (.bl _)⟩
theorem anyG : PrimG pAny := prim_blt (id := "any") (by decide) (by decide +kernel) (by decide) (by decide) fun X k W xo => by
  refine ⟨_, cr_any xo.calm, fun M H xs ds d Q dm rs e k => ?_⟩
  obtain ⟨a, vs, l, rfl, rfl, e, s, n, ra⟩ := one_lst rs e (fun a d h => by cases a <;> first | exact ⟨_, rfl⟩ | cases h)
  have e' : (blsD l).map (fun bs => D.bl (bs.any id)) = some d := e
  cases e1 : blsD l with
  | none => rw [e1] at e'; cases e'
  | some bs =>
    rw [e1] at e'; cases e'
    exact ⟨a, bs, rfl, SqL.of (by rw [← blsD_rep ra e1]; exact s), k _ H (Same.refl H) (.bl _)⟩
theorem sumG : PrimG pSum := prim_blt (id := "sum") (by decide) (by decide +kernel) (by decide) (by decide) fun X k W xo => by
  refine ⟨_, cr_sum xo.calm, fun M H xs ds d Q dm rs e k => ?_⟩
  obtain ⟨a, vs, l, rfl, rfl, e, s, n, ra⟩ := one_lst rs e (fun a d h => by cases a <;> first | exact ⟨_, rfl⟩ | cases h)
  have e' : (intsD l).map (fun ns => D.int ns.sum) = some d := e
  cases e1 : intsD l with
  | none => rw [e1] at e'; cases e'
  | some bs =>
    rw [e1] at e'; cases e'
    exact ⟨a, bs, rfl, SqL.of (by rw [← intsD_rep ra e1]; exact s), k _ H (Same.refl H) (.int _)⟩
theorem max1G : PrimG pMax1 := prim_blt (id := "max") (by decide) (by decide +kernel) (by decide) (by decide) fun X k W xo => by
  refine ⟨_, cr_max xo.calm, fun M H xs ds d Q dm rs e k => ?_⟩
  obtain ⟨a, vs, l, rfl, rfl, e, s, n, ra⟩ := one_lst rs e (fun a d h => by cases a <;> first | exact ⟨_, rfl⟩ | cases h)
  have e' : ((intsD l).bind fun ns => if 0 < ns.length then some (D.int (topI ns)) else none) = some d := e
  cases e1 : intsD l with
  | none => rw [e1] at e'; cases e'
  | some bs =>
    rw [e1] at e'
    have e2 : (if 0 < bs.length then some (D.int (topI bs)) else none) = some d := e'
    split at e2
    · rename_i hl
      cases e2
      exact ⟨a, bs, rfl, SqL.of (by rw [← intsD_rep ra e1]; exact s), hl, fun m h1 h2 => k _ H (Same.refl H) (by rw [top_is h1 h2]; exact .int _)⟩
    · cases e2
theorem min1G : PrimG pMin1 := prim_blt (id := "min") (by decide) (by decide +kernel) (by decide) (by decide) fun X k W xo => by
  refine ⟨_, cr_min xo.calm, fun M H xs ds d Q dm rs e k => ?_⟩
  obtain ⟨a, vs, l, rfl, rfl, e, s, n, ra⟩ := one_lst rs e (fun a d h => by cases a <;> first | exact ⟨_, rfl⟩ | cases h)
  have e' : ((intsD l).bind fun ns => if 0 < ns.length then some (D.int (botI ns)) else none) = some d := e
  cases e1 : intsD l with
  | none => rw [e1] at e'; cases e'
  | some bs =>
    rw [e1] at e'
    have e2 : (if 0 < bs.length then some (D.int (botI bs)) else none) = some d := e'
    split at e2
    · rename_i hl
      cases e2
      exact ⟨a, bs, rfl, SqL.of (by rw [← intsD_rep ra e1]; exact s), hl, fun m h1 h2 => k _ H (Same.refl H) (by rw [bot_is h1 h2]; exact .int _)⟩
    · cases e2
def opTup : D → Option D
  | .lst l => some (.tup l)
  | .tup l => some (.tup l)
  | _ => none
def pTupleOf : Prim := { syn := callSyn "tuple", sem := one1 opTup }
theorem tupleOfG : PrimG pTupleOf := prim_ty (T := "tuple") (by decide) (by decide +kernel) (by decide) (by decide) fun X k W xo => by
  refine ⟨_, call_tuple_of, fun M H xs ds d Q dm rs e k => ?_⟩
  match ds, rs, e with
  | [x], .cons r1 .nil, e =>
    have e' : opTup x = some d := e
    cases x with
    | lst l => cases e'; cases r1 with | lst s n ra => exact ⟨_, _, rfl, .inl ⟨SqL.of s, fun p hp => k _ _ (same_new hp) (.tup upd_same (dm.fresh hp) (ra.same (same_new hp)))⟩⟩
    | tup l => cases e'; cases r1 with | tup s n ra => exact ⟨_, _, rfl, .inr ⟨SqT.of s, k _ H (Same.refl H) (.tup s n ra)⟩⟩
    | _ => cases e'
end PL

namespace PL
open PySem PySem.Spec PyProof.Rows L2
/-! ## slices -/
def cutG {α : Type} (xs : List α) (lo hi : Option Int) : List α := (xs.drop (HT.sIx xs.length 0 lo)).take (HT.sIx xs.length xs.length hi - HT.sIx xs.length 0 lo)
section
variable {K : PySem.W.Frag} {M : Mk} {H : Hp}
theorem RepAll.cut {vs : List V} {ds : List D} (lo hi : Option Int) (r : RepAll K M H vs ds) : RepAll K M H (cutV vs lo hi) (cutG ds lo hi) := by
  unfold cutV cutG
  rw [r.length]
  exact RepAll.take _ (RepAll.drop _ r)
theorem RepAll.app : ∀ {vs : List V} {ds : List D} {vs' : List V} {ds' : List D}, RepAll K M H vs ds → RepAll K M H vs' ds' → RepAll K M H (vs ++ vs') (ds ++ ds')
  | [], [], _, _, _, r' => r'
  | _ :: _, _ :: _, _, _, .cons a r, r' => .cons a (RepAll.app r r')
theorem RepAll.rev : ∀ {vs : List V} {ds : List D}, RepAll K M H vs ds → RepAll K M H vs.reverse ds.reverse
  | [], [], r => r
  | _ :: _, _ :: _, .cons a r => by rw [List.reverse_cons, List.reverse_cons]; exact RepAll.app (RepAll.rev r) (.cons a .nil)
end
theorem cut_whole {α : Type} {xs : List α} {lo hi : Option Int} (h : HT.sIx xs.length 0 lo = 0 ∧ HT.sIx xs.length xs.length hi = xs.length) : cutG xs lo hi = xs := by
  unfold cutG
  rw [h.1, h.2, Nat.sub_zero, List.drop_zero, List.take_length]
def opSl (lo hi : Option Int) : D → Option D
  | .lst l => some (.lst (cutG l lo hi))
  | .tup l => some (.tup (cutG l lo hi))
  | .str s => if s.length ≤ sizeD then some (.str (cutS s lo hi)) else none
  | _ => none
def rSlD (K : PySem.W.Frag) : V → Option Int → Option Int → Hp → VK → Prop := fun x lo hi H Q => rSlL K x lo hi H Q ∨ (rSlA K x lo hi H Q ∨ rSlS x lo hi H Q)
theorem sl_D {X : Cx} : SlR X (rSlD X.K) := SlR.or sl_list (SlR.or sl_tupA sl_str)
theorem sl_w {X : Cx} {M : Mk} {H : Hp} {x : V} {d1 d : D} {lo hi : Option Int} {Q : VK} (dm : DomM M H) (r1 : Rep X.K M H x d1) (e : opSl lo hi d1 = some d) (k : ∀ v H', Same X.K H H' → Rep X.K M H' v d → Q v H') : rSlD X.K x lo hi H Q := by
  cases d1 with
  | lst l =>
    cases e
    cases r1 with
    | lst s n ra => exact .inl ⟨_, _, rfl, SqL.of s, fun p hp => k _ _ (same_new hp) (.lst upd_same (dm.fresh hp) ((RepAll.cut lo hi ra).same (same_new hp)))⟩
  | tup l =>
    cases e
    cases r1 with
    | tup s n ra =>
      refine .inr (.inl ⟨_, _, rfl, SqT.of s, fun hw => ?_, fun hw p hp => k _ _ (same_new hp) (.tup upd_same (dm.fresh hp) ((RepAll.cut lo hi ra).same (same_new hp)))⟩)
      rw [ra.length] at hw
      refine k _ H (Same.refl H) ?_
      rw [cut_whole hw]
      exact .tup s n ra
  | str s =>
    unfold opSl at e
    dsimp only at e
    split at e
    · rename_i hl
      cases e
      cases r1
      exact .inr (.inr ⟨s, rfl, sizeD_le hl, k _ H (Same.refl H) (.str _)⟩)
    · cases e
  | _ => cases e
def slLSyn : Scope → Expr → Option (List Expr) := fun _ e => match e with
  | .Subscript a (.Slice (some lo) none none _) _ => some [a, lo]
  | _ => none
def slUSyn : Scope → Expr → Option (List Expr) := fun _ e => match e with
  | .Subscript a (.Slice none (some hi) none _) _ => some [a, hi]
  | _ => none
def opSlL : D → D → Option D
  | a, .int i => opSl (some i) none a
  | _, _ => none
def opSlU : D → D → Option D
  | a, .int i => opSl none (some i) a
  | _, _ => none
def pSlL : Prim := { syn := slLSyn, sem := two opSlL }
def pSlU : Prim := { syn := slUSyn, sem := two opSlU }
theorem slLG : PrimG pSlL := by
  intro X k W xo
  have main : ∀ {e : Expr} {es : List Expr} {ms : List (En → Res D)}, slLSyn X.env.scope e = some es → PEs X W es ms → ∃ a b pos, e = .Subscript a b pos ∧ PE X e (tS X W fun ρ => (seqM ms ρ).bind fun ds => ofO (two opSlL ds)) := by
    intro e es ms h hp
    unfold slLSyn at h
    split at h
    · rename_i a lo p2 pos
      cases h
      obtain ⟨ma, mb, rfl, h1, h2, _, _⟩ := two_pes hp
      refine ⟨a, _, pos, rfl, pe_weak (pe_slice sl_D h1 (po_some h2) po_none) fun σ H Q q => w_2 (r := fun x y H Q => ∃ i, y = .int i ∧ rSlD X.K x (some i) none H Q) (fun M H x y d1 d2 d dm r1 r2 e k => ?_) q⟩
      have e' : opSlL d1 d2 = some d := e
      cases d2 with
      | int i => cases r2; exact ⟨i, rfl, sl_w dm r1 e' k⟩
      | _ => cases d1 <;> cases e'
    · cases h
  refine ⟨fun h hp => (main h hp).choose_spec.choose_spec.choose_spec.2, (fun z => nomatch z), fun {e es ms} h hp => ?_⟩
  obtain ⟨a, b, pos, rfl, pe⟩ := main h hp
  exact pt_of_pe pe (fun _ => rfl)
theorem slUG : PrimG pSlU := by
  intro X k W xo
  have main : ∀ {e : Expr} {es : List Expr} {ms : List (En → Res D)}, slUSyn X.env.scope e = some es → PEs X W es ms → ∃ a b pos, e = .Subscript a b pos ∧ PE X e (tS X W fun ρ => (seqM ms ρ).bind fun ds => ofO (two opSlU ds)) := by
    intro e es ms h hp
    unfold slUSyn at h
    split at h
    · rename_i a hi p2 pos
      cases h
      obtain ⟨ma, mb, rfl, h1, h2, _, _⟩ := two_pes hp
      refine ⟨a, _, pos, rfl, pe_weak (pe_slice sl_D h1 po_none (po_some h2)) fun σ H Q q => w_2 (r := fun x y H Q => ∃ i, y = .int i ∧ rSlD X.K x none (some i) H Q) (fun M H x y d1 d2 d dm r1 r2 e k => ?_) q⟩
      have e' : opSlU d1 d2 = some d := e
      cases d2 with
      | int i => cases r2; exact ⟨i, rfl, sl_w dm r1 e' k⟩
      | _ => cases d1 <;> cases e'
    · cases h
  refine ⟨fun h hp => (main h hp).choose_spec.choose_spec.choose_spec.2, (fun z => nomatch z), fun {e es ms} h hp => ?_⟩
  obtain ⟨a, b, pos, rfl, pe⟩ := main h hp
  exact pt_of_pe pe (fun _ => rfl)
/-! ## isinstance -/
def D.ty : D → Option String
  | .non => some "NoneType"
  | .bl _ => some "bool"
  | .int _ => some "int"
  | .str _ => some "str"
  | .tup _ => some "tuple"
  | .lst _ => some "list"
  | .scr _ => some "list"
  | .dct _ _ => some "dict"
  | .dcT _ _ => some "dict"
  | .exc _ => none
def isiSyn (T : Str) : Scope → Expr → Option (List Expr) := fun sc e => match e with
  | .Call (.Name x _) [a, .Name t _] [] _ => if decide (x = "isinstance") && glB sc x && (decide (t = T) && glB sc t) then some [a] else none
  | _ => none
def subTy (a b : String) : Bool := a == b || (a == "bool" && b == "int")
def opIsi (T : String) (d : D) : Option D := d.ty.map fun t => .bl (subTy t T)
theorem tyX_of {K : PySem.W.Frag} {M : Mk} {H : Hp} {x : V} {d : D} {t : String} (r : Rep K M H x d) (e : d.ty = some t) : TyX K H x (.type t) := by
  cases r with
  | non => cases e; exact .base .non
  | bl b => cases e; exact .base (.bl b)
  | int b => cases e; exact .base (.int b)
  | str b => cases e; exact .base (.str b)
  | lst s n ra => cases e; exact .base (.lst s)
  | tup s n ra => cases e; exact .base (.tup s)
  | scr s =>
    cases e
    rcases s with ⟨h | ⟨o, h⟩, n⟩ | ⟨o, its, n, h1, h2, _⟩
    · exact .base (.lst h)
    · exact .base (.frz h)
    · exact .kList h1 h2
  | dct s l n ra => cases e; exact .base (.dK s)
  | dcT s l n ra => cases e; exact .base (.dT s)
  | exc _ _ _ => cases e
def isiP (T : Str) (t : String) : Prim := { syn := isiSyn T, sem := one1 (opIsi t) }
theorem prim_isi {T : Str} {t : String} (hin : T ∈ bnames) (hv : bootBuiltins T = some (.type t)) (hn : T ≠ "__name__") (hd : (T == ("__debug__" : Str)) = false) (hk : ∀ (K : PySem.W.Frag) (d : D) (u : String), d.ty = some u → PySem.W.kitOne K (.type u) (.type t) = some (subTy u t)) : PrimG (isiP T t) := by
  intro X k W xo
  have main : ∀ {e : Expr} {es : List Expr} {ms : List (En → Res D)}, isiSyn T X.env.scope e = some es → PEs X W es ms → ∃ x p es pos, e = .Call (.Name x p) es [] pos ∧ PE X e (tS X W fun ρ => (seqM ms ρ).bind fun ds => ofO (one1 (opIsi t) ds)) := by
    intro e es ms h hp
    unfold isiSyn at h
    split at h
    · rename_i x p a y p2 pos
      split at h
      · rename_i hg
        cases h
        rw [Bool.and_eq_true, Bool.and_eq_true, Bool.and_eq_true, decide_eq_true_eq, decide_eq_true_eq] at hg
        obtain ⟨⟨rfl, hg1⟩, rfl, hg2⟩ := hg
        obtain ⟨ma, rfl, h1, n1⟩ := one_pes hp
        refine ⟨_, p, _, pos, rfl, pe_weak (pe_callB call_isi (gl_of hg1) (xo.bf _ (by decide)) (by decide +kernel) (pa_cons h1 (pa_cons (pe_bltn (v := .ty t) (gl_of hg2) (xo.bf _ hin) hv rfl hn hd) pa_nil) (star_of n1 _ X.env)) (by decide) (by decide) (star_of n1 _ X.env)) fun σ H Q q => w_1 (r := fun v H Q => rIsi X.K [v, .ty t] H Q) (fun M H v d1 d dm r1 e k => ?_) q⟩
        have e' : (d1.ty.map fun u => D.bl (subTy u t)) = some d := e
        cases et : d1.ty with
        | none => rw [et] at e'; cases e'
        | some u =>
          rw [et] at e'
          cases e'
          exact ⟨v, .ty t, .type u, .type t, _, rfl, .ty t, tyX_of r1 et, hk X.K d1 u et, k _ H (Same.refl H) (.bl _)⟩
      · cases h
    · cases h
  refine ⟨fun h hp => (main h hp).choose_spec.choose_spec.choose_spec.choose_spec.2, (fun z => nomatch z), fun {e es ms} h hp => ?_⟩
  obtain ⟨x, p, es, pos, rfl, pe⟩ := main h hp
  exact pt_of_pe pe (fun _ => rfl)
abbrev pIsInt : Prim := isiP "int" "int"
abbrev pIsBool : Prim := isiP "bool" "bool"
abbrev pIsTuple : Prim := isiP "tuple" "tuple"
abbrev pIsStr : Prim := isiP "str" "str"
abbrev pIsList : Prim := isiP "list" "list"
theorem isIntG : PrimG pIsInt := prim_isi (by decide) (by decide +kernel) (by decide) (by decide) fun K d u e => by
  cases d <;> cases e <;> kernel_rfl
theorem isBoolG : PrimG pIsBool := prim_isi (by decide) (by decide +kernel) (by decide) (by decide) fun K d u e => by
  cases d <;> cases e <;> kernel_rfl
theorem isTupleG : PrimG pIsTuple := prim_isi (by decide) (by decide +kernel) (by decide) (by decide) fun K d u e => by
  cases d <;> cases e <;> kernel_rfl
theorem isStrG : PrimG pIsStr := prim_isi (by decide) (by decide +kernel) (by decide) (by decide) fun K d u e => by
  cases d <;> cases e <;> kernel_rfl
theorem isListG : PrimG pIsList := prim_isi (by decide) (by decide +kernel) (by decide) (by decide) fun K d u e => by
  cases d <;> cases e <;> kernel_rfl
end PL

namespace PL
open PySem PySem.Spec PyProof.Rows L2
/-! ## turned about: x[::-1] of a list, of a tuple -/
section
variable {prog : Program} {w : World} {A : Around} {E : Value → Shared → Prop} {s : Shared}
theorem fm_congr {α β : Type} {f g : α → Option β} : ∀ {l : List α}, (∀ a ∈ l, f a = g a) → l.filterMap f = l.filterMap g
  | [], _ => rfl
  | a :: l, h => by
    rw [List.filterMap_cons, List.filterMap_cons, h a List.mem_cons_self, fm_congr fun b hb => h b (List.mem_cons_of_mem _ hb)]
theorem pick_back (xs : Array Value) : ((List.range xs.size).filterMap fun (m : Nat) => xs[(((xs.size : Int) - 1) + (m : Int) * (-1)).toNat]?) = xs.toList.reverse := by
  rw [← PySem.W.krv_all xs, ← List.filterMap_reverse, ← PySem.W.krv_range, List.filterMap_map]
  refine fm_congr fun m hm => ?_
  have h := List.mem_range.mp hm
  show xs[_]? = xs[xs.size - 1 - m]?
  have : (((xs.size : Int) - 1) + (m : Int) * (-1)).toNat = xs.size - 1 - m := by omega
  rw [this]
theorem applied_back {sl : Addr} {vl vu vs : Value} {n : Nat} {Q : Int × Int × Nat → Shared → Prop} (hs : s.heap.IsSliceOf sl vl vu vs) (pl : IsPart vl none) (pu : IsPart vu none) (ps : IsPart vs (some (-1)))
    (h : Q ((n : Int) - 1, -1, n) s) : wpAny (model prog w) A (Builtin.Slice.sliceApplied (.ref sl) (pure (n : Int))) Q E s := by
  obtain ⟨os, hos, hcs, hds⟩ := id hs
  unfold Builtin.Slice.sliceApplied Builtin.Slice.sliceFields; refine wpAny_bind (wpAny_bind (wpAny_field hos hds (x := vl) rfl (wpAny_bind (wpAny_field hos hds (x := vu) rfl (wpAny_bind (wpAny_field hos hds (x := vs) rfl (wpAny_pure ?_)))))))
  refine wpAny_bind (HT.slicePart_ ps ?_)
  show wpAny _ _ (if ((-1 : Int) == 0) = true then _ else _) _ _ s
  rw [if_neg (by decide)]; refine wpAny_bind (HT.slicePart_ pl (wpAny_bind (HT.slicePart_ pu (wpAny_bind (wpAny_pure ?_)))))
  have e : Builtin.Slice.slicePlaces ((n : Int) - 1) (-1) (-1) = n := by
    unfold Builtin.Slice.slicePlaces
    rw [if_neg (by decide)]
    rw [show (- -1 : Int) = 1 from rfl, Int.ediv_one]
    split
    · omega
    · omega
  show wpAny _ _ (pure ((n : Int) - 1, (-1 : Int), Builtin.Slice.slicePlaces ((n : Int) - 1) (-1) (-1))) _ _ s
  rw [e]; exact wpAny_pure h
theorem getItem_back {t sl : Addr} {items : Array Value} {vl vu vs : Value} {Q : Value → Shared → Prop} (ht : IsTup s.heap t items) (hs : s.heap.IsSliceOf sl vl vu vs) (pl : IsPart vl none) (pu : IsPart vu none) (ps : IsPart vs (some (-1)))
    (h : Q (.ref s.heap.objs.size) { s with heap := s.heap.push { cls := .type "tuple", data := .seq items.toList.reverse.toArray } }) (hsz : items.size ≤ sizeLine) :
    wpAny (model prog w) A (getItem (.ref t) (.ref sl)) Q E s := by
  have hok : sizeOk (.seq items.toList.reverse.toArray) := by
    show items.toList.reverse.toArray.size ≤ sizeLine
    rw [List.size_toArray, List.length_reverse, Array.length_toList]; exact hsz
  obtain ⟨os, hos, hcs, hds⟩ := id hs
  have hT : s.TypeIs (.ref sl) "slice" := ⟨os, hos, hcs⟩
  unfold getItem; (try with_reducible refine wpAny_holding ?_); (first | refine wpAny_bind (wpAny_pure ?_) | skip); refine wpAny_bind (wpAny_sequenceKey ht.typeIs (by decide) ?_)
  refine wpAny_bind (wpAny_callSpecial?_slot (name := Str.ofString "__getitem__") ht.typeIs PyProof.Rows.slot_tuple_getitem (wpAny_call_entry PyProof.Rows.slot_tuple_getitem ht.typeIs entry_tuple_getitem ?_ (args_tuple_getitem _ _)))
  show wpAny (model prog w) A.in1 (Builtin.Tuple.tupleItemsOf (.ref t) >>= _) _ _ s
  refine wpAny_bind (tupleItemsOf_ ht (wpAny_bind (wpAny_typeOf hT ?_))); rw [if_pos (by decide)]
  refine wpAny_bind (applied_back hs pl pu ps ?_)
  have hno : ¬ ((((items.size : Int) - 1) == 0 && (-1 : Int) == 1 && items.size == items.size) = true) := by
    rw [show ((-1 : Int) == 1) = false from rfl, Bool.and_false, Bool.false_and]; exact Bool.false_ne_true
  show wpAny _ _ (if (((items.size : Int) - 1) == 0 && (-1 : Int) == 1 && items.size == items.size) = true then _ else _) _ _ s
  rw [if_neg hno, pick_back]
  first
    | exact wpAny_bind (m := Builtin.Tuple.tupleExact _) (wpAny_newObj_type (wpAny_pure ⟨_, rfl, wpAny_pure h⟩) hok)
    | exact wpAny_bind (m := Builtin.Tuple.tupleExact _) (wpAny_newObj_type (wpAny_bind (wpAny_pure (wpAny_pure ⟨_, rfl, wpAny_pure h⟩))) hok)
    | exact wpAny_bind (wpAny_bind (m := Builtin.Tuple.tupleExact _) (wpAny_newObj_type (wpAny_pure (wpAny_pure ⟨_, rfl, wpAny_pure h⟩)) hok))
    | exact wpAny_bind (wpAny_bind (m := Builtin.Tuple.tupleExact _) (wpAny_newObj_type (wpAny_pure ⟨_, rfl, wpAny_pure h⟩) hok))
end
def rBack (K : PySem.W.Frag) : V → Hp → VK → Prop := fun x H Q => ∃ a xs, x = .ref a ∧ ((SqL K H a xs ∧ ∀ p, H p = none → Q (.ref p) (upd H p (.lst xs.reverse))) ∨ (SqT K H a xs ∧ ∀ p, H p = none → Q (.ref p) (upd H p (.tup xs.reverse))))
theorem pe_back {X : Cx} {e : Expr} {te : TE} {k : Nat} {p1 p2 p3 pos : Pos} (he : PE X e te) : PE X (.Subscript e (.Slice none none (some (.UnaryOp .USub (.Constant (.int 1) k p1) p2)) p3) pos) (fun σ H Q => te σ H fun x H1 => rBack X.K x H1 Q) := by
  refine ⟨fun pins s σ H Q I h => Subscript_ (thn (he.run pins s σ H _ I h) fun v s1 ⟨x, H1, I1, r1, q1⟩ => ?_)⟩
  obtain ⟨a, xs, ex, q⟩ := q1
  subst ex
  cases r1
  have hst : PO X (some (.UnaryOp .USub (.Constant (.int 1) k p1) p2)) (tPart (tUn (rU fun i => .int (-i)) (tC (.int 1)))) := by exact po_some (pe_un un_neg pe_int)
  refine wpAny_Slice (thn (po_none.run pins s1 σ H1 (fun o H2 => o = none ∧ H2 = H1) I1 ⟨rfl, rfl⟩) fun vl s2 ⟨l, H2, I2, pl, el, f2⟩ => ?_)
  subst el f2
  refine thn (po_none.run pins s2 σ H2 (fun o H3 => o = none ∧ H3 = H2) I2 ⟨rfl, rfl⟩) fun vu s3 ⟨u, H3, I3, pu, eu, f3⟩ => ?_
  subst eu f3
  refine thn (hst.run pins s3 σ H3 (fun o H4 => o = some (-1) ∧ H4 = H3) I3 ⟨1, rfl, -1, rfl, rfl, rfl⟩) fun vs s4 ⟨o, H4, I4, ps, eo, f4⟩ => ?_
  subst eo f4
  generalize hsp : { s4 with heap := s4.heap.push { cls := .type "slice", data := .fields #[vl, vu, vs] } } = sp
  have I5 : Inv X pins σ H4 sp := by rw [← hsp]; exact I4.kept (t' := s4.toks) fun b ob q => Heap.get?_push_of_some _ q
  have hsl : sp.heap.IsSliceOf s4.heap.objs.size vl vu vs := by rw [← hsp]; exact Heap.IsSliceOf.new _ vl vu vs
  show wpAny (model X.prog X.w) X.A (subscriptTail e (.Slice none none (some (.UnaryOp .USub (.Constant (.int 1) k p1) p2)) p3) (.ref a) (.ref s4.heap.objs.size)) (EP X pins σ Q) X.xe _
  rcases q with ⟨hx, q⟩ | ⟨hx, q⟩
  · obtain ⟨its, r, ht, hz⟩ := I5.list hx
    have hlen := r.length
    refine tail_any (ops := [.ref a, .ref s4.heap.objs.size]) ht.isList.typeIs (PySem.slot_list_getitem.lookup) (wpAny_getItem_list_slice ht.isList hsl pl pu ps (by decide) ?_ (by rw [List.size_toArray]; omega)) (by with_unfolding_all rfl)
    rw [PySem.W.krv_pick]
    refine ⟨.ref _, _, I5.laid (t' := sp.toks) (o := .lst xs.reverse) (fun b ob q => Heap.get?_push_of_some _ q) (Nat.le_refl _) ⟨by rw [List.length_reverse]; exact hz, _, 0, r.reverse, Heap.get?_push_size _ rfl⟩, rfl, q _ (I5.hok.fresh (Nat.le_refl _))⟩
  · obtain ⟨its, r, ht, hz⟩ := I5.tuple hx
    have hlen := r.length
    refine tail_any (ops := [.ref a, .ref s4.heap.objs.size]) ht.typeIs (PyProof.Rows.slot_tuple_getitem.lookup) (getItem_back ht hsl pl pu ps ?_ (by rw [List.size_toArray]; omega)) (by with_unfolding_all rfl)
    refine ⟨.ref _, _, I5.laid (t' := sp.toks) (o := .tup xs.reverse) (fun b ob q => Heap.get?_push_of_some _ q) (Nat.le_refl _) ⟨by rw [List.length_reverse]; exact hz, _, r.reverse, IsTup.new _ _⟩, rfl, q _ (I5.hok.fresh (Nat.le_refl _))⟩
def revSyn : Scope → Expr → Option (List Expr) := fun _ e => match e with
  | .Subscript a (.Slice none none (some (.UnaryOp .USub (.Constant (.int 1) _ _) _)) _) _ => some [a]
  | _ => none
def opRev : D → Option D
  | .lst l => some (.lst l.reverse)
  | .tup l => some (.tup l.reverse)
  | _ => none
def pRev : Prim := { syn := revSyn, sem := one1 opRev }
theorem revG : PrimG pRev := by
  intro X k W xo
  have main : ∀ {e : Expr} {es : List Expr} {ms : List (En → Res D)}, revSyn X.env.scope e = some es → PEs X W es ms → ∃ a b pos, e = .Subscript a b pos ∧ PE X e (tS X W fun ρ => (seqM ms ρ).bind fun ds => ofO (one1 opRev ds)) := by
    intro e es ms h hp
    unfold revSyn at h
    split at h
    · rename_i a kk p1 p2 p3 pos
      cases h
      obtain ⟨ma, rfl, h1, _⟩ := one_pes hp
      refine ⟨a, _, pos, rfl, pe_weak (pe_back h1) fun σ H Q q => w_1 (r := fun x H Q => rBack X.K x H Q) (fun M H x d1 d dm r1 e k => ?_) q⟩
      have e' : opRev d1 = some d := e
      cases d1 with
      | lst l => cases e'; cases r1 with | lst s n ra => exact ⟨_, _, rfl, .inl ⟨SqL.of s, fun p hp => k _ _ (same_new hp) (.lst upd_same (dm.fresh hp) ((RepAll.rev ra).same (same_new hp)))⟩⟩
      | tup l => cases e'; cases r1 with | tup s n ra => exact ⟨_, _, rfl, .inr ⟨SqT.of s, fun p hp => k _ _ (same_new hp) (.tup upd_same (dm.fresh hp) ((RepAll.rev ra).same (same_new hp)))⟩⟩
      | _ => cases e'
    · cases h
  refine ⟨fun h hp => (main h hp).choose_spec.choose_spec.choose_spec.2, (fun z => nomatch z), fun {e es ms} h hp => ?_⟩
  obtain ⟨a, b, pos, rfl, pe⟩ := main h hp
  exact pt_of_pe pe (fun _ => rfl)
end PL

namespace PL
open PySem PySem.Spec PyProof.Rows L2
/-! ## in -/
def rInT (K : PySem.W.Frag) (f : Bool → Bool) : R2 := fun x y H Q => ∃ d ds, Dp K H x d ∧ Dp K H y (.tuple ds) ∧ SeqAt.shaped d = true ∧ SeqAt.shaped (.tuple ds) = true ∧ Q (.bl (f (ds.any fun z => PyData.eqv z d))) H
theorem op_inT {X : Cx} (hu : X.A.units + 65 < cLine) : OpR X (compareOp .In) (rInT X.K id) := by
  intro pins s σ H x y v u Q I rx ry h
  obtain ⟨d, ds, hd, he, sd, se, q⟩ := h
  obtain ⟨as, r1⟩ := Dp.reads I d x v hd rx
  obtain ⟨bs, r2⟩ := Dp.reads I (.tuple ds) y u he ry
  exact SeqAt.in_tuple_reads r2 r1 (SeqAt.canLay_of_shaped se) (SeqAt.canLay_of_shaped sd) (room_in_shaped sd hu) ⟨.bl _, H, I, rfl, q⟩
theorem op_notInT {X : Cx} (hu : X.A.units + 65 < cLine) : OpR X (compareOp .NotIn) (rInT X.K not) := by
  intro pins s σ H x y v u Q I rx ry h
  obtain ⟨d, ds, hd, he, sd, se, q⟩ := h
  obtain ⟨as, r1⟩ := Dp.reads I d x v hd rx
  obtain ⟨bs, r2⟩ := Dp.reads I (.tuple ds) y u he ry
  exact SeqAt.notIn_tuple_reads r2 r1 (SeqAt.canLay_of_shaped se) (SeqAt.canLay_of_shaped sd) (room_in_shaped sd hu) ⟨.bl _, H, I, rfl, q⟩
theorem py_any (a : D) : ∀ l : List D, (pyAll l).any (fun z => PyData.eqv z a.py) = l.any fun z => deq z a
  | [] => rfl
  | d :: l => by show (PyData.eqv d.py a.py || (pyAll l).any _) = _; rw [py_any a l]; rfl
def opInF (f : Bool → Bool) (a b : D) : Option D := if shp a && shp b then (match b with
  | .lst l => some (.bl (f (l.any fun z => deq z a)))
  | .tup l => some (.bl (f (l.any fun z => deq z a)))
  | _ => none) else none
theorem opT_in {X : Cx} (hu : X.A.units + 65 < cLine) : OpT X (compareOp .In) (opInF id) := by
  refine ⟨_, OpR.or (op_inD hu) (op_inT hu), fun M H x y d1 d2 d Q dm r1 r2 e k => ?_⟩
  unfold opInF at e
  split at e
  · rename_i hc
    rw [Bool.and_eq_true] at hc
    unfold shp at hc
    rw [Bool.and_eq_true, Bool.and_eq_true] at hc
    split at e
    · rename_i l
      cases e
      exact .inl ⟨d1.py, pyAll l, Rep.dp _ _ hc.1.1 r1, Rep.dp _ _ hc.2.1 r2, hc.1.2, hc.2.2, by rw [py_any]; exact k _ H (Same.refl H) (.bl _)⟩
    · rename_i l
      cases e
      exact .inr ⟨d1.py, pyAll l, Rep.dp _ _ hc.1.1 r1, Rep.dp _ _ hc.2.1 r2, hc.1.2, hc.2.2, by rw [py_any]; exact k _ H (Same.refl H) (.bl _)⟩
    · cases e
  · cases e
theorem opT_ni {X : Cx} (hu : X.A.units + 65 < cLine) : OpT X (compareOp .NotIn) (opInF not) := by
  refine ⟨_, OpR.or (op_notInD hu) (op_notInT hu), fun M H x y d1 d2 d Q dm r1 r2 e k => ?_⟩
  unfold opInF at e
  split at e
  · rename_i hc
    rw [Bool.and_eq_true] at hc
    unfold shp at hc
    rw [Bool.and_eq_true, Bool.and_eq_true] at hc
    split at e
    · rename_i l
      cases e
      exact .inl ⟨d1.py, pyAll l, Rep.dp _ _ hc.1.1 r1, Rep.dp _ _ hc.2.1 r2, hc.1.2, hc.2.2, by rw [py_any]; exact k _ H (Same.refl H) (.bl _)⟩
    · rename_i l
      cases e
      exact .inr ⟨d1.py, pyAll l, Rep.dp _ _ hc.1.1 r1, Rep.dp _ _ hc.2.1 r2, hc.1.2, hc.2.2, by rw [py_any]; exact k _ H (Same.refl H) (.bl _)⟩
    · cases e
  · cases e
def pIn : Prim := { syn := cmpSyn isIn, sem := two (opInF id) }
def pNi : Prim := { syn := cmpSyn isNi, sem := two (opInF not) }
theorem inG : PrimG pIn := prim_cmp (op := .In) (fun o h => by cases o <;> first | rfl | cases h) fun X k W xo => opT_in (by have := xo.room.un; omega)
theorem niG : PrimG pNi := prim_cmp (op := .NotIn) (fun o h => by cases o <;> first | rfl | cases h) fun X k W xo => opT_ni (by have := xo.room.un; omega)
/-! ## a dict of constants, its get -/
def matchKV : List (Str × Str) → List (Option Expr) → List Expr → Bool
  | [], [], [] => true
  | (a, b) :: r, some (.Constant (.str x) _ _) :: ks, .Constant (.str y) _ _ :: vs => decide (a = x) && decide (b = y) && matchKV r ks vs
  | _, _, _ => false
def dctSyn (kvs : List (Str × Str)) : Scope → Expr → Option (List Expr) := fun _ e => match e with
  | .Dict keys values _ => if matchKV kvs keys values then some [] else none
  | _ => none
def keysC (kvs : List (Str × Str)) : List Key := kvs.map fun p => Sum.inr p.1
def pDictC (kvs : List (Str × Str)) : Prim := { syn := dctSyn kvs, sem := fun ds => match ds with | [] => some (.dct (keysC kvs) (kvs.map fun p => .str p.2)) | _ => none }
theorem matchKV_facts {X : Cx} {pos : Pos} : ∀ {kvs : List (Str × Str)} {ks : List (Option Expr)} {vs : List Expr}, matchKV kvs ks vs = true →
    PPs X pos ks vs (kvs.map fun p => (tC (.str p.1), tC (.str p.2))) ∧ ks.all (·.isSome) = true ∧ ks.length = vs.length ∧ ks.length = kvs.length
  | [], [], [], _ => ⟨pps_nil, rfl, rfl, rfl⟩
  | [], _ :: _, _, h => by cases h
  | [], [], _ :: _, h => by cases h
  | (a, b) :: r, [], _, h => by cases h
  | (a, b) :: r, none :: _, _, h => by cases h
  | (a, b) :: r, some k :: ks, [], h => by
    unfold matchKV at h
    split at h
    · rename_i e _ _; cases e
    · rename_i e; cases e
    · cases h
  | (a, b) :: r, some k :: ks, v :: vs, h => by
    cases k with
    | Constant c1 _ _ =>
      cases c1 with
      | str x =>
        cases v with
        | Constant c2 _ _ =>
          cases c2 with
          | str y =>
            have h' : (decide (a = x) && decide (b = y) && matchKV r ks vs) = true := h
            rw [Bool.and_eq_true, Bool.and_eq_true, decide_eq_true_eq, decide_eq_true_eq] at h'
            obtain ⟨⟨rfl, rfl⟩, h'⟩ := h'
            obtain ⟨h1, h2, h3, h4⟩ := matchKV_facts (X := X) (pos := pos) h'
            exact ⟨pps_cons pe_str pe_str h1, by rw [List.all_cons, h2]; rfl, by rw [List.length_cons, List.length_cons, h3], by rw [List.length_cons, List.length_cons, h4]⟩
          | _ => cases h
        | _ => cases h
      | _ => cases h
    | _ => cases h
theorem pairs_const {σ : L2.St} : ∀ (kvs : List (Str × Str)) {H : Hp} {Q : List (V × V) → Hp → Prop}, Q (kvs.map fun p => (.str p.1, .str p.2)) H → tPairs (kvs.map fun p => (tC (.str p.1), tC (.str p.2))) σ H Q
  | [], _, _, h => h
  | p :: r, H, Q, h => pairs_const r (Q := fun ps H => Q ((.str p.1, .str p.2) :: ps) H) h
theorem rep_strs {K : PySem.W.Frag} {M : Mk} {H : Hp} : ∀ kvs : List (Str × Str), RepAll K M H (kvs.map fun p => V.str p.2) (kvs.map fun p => D.str p.2)
  | [] => .nil
  | _ :: r => .cons (.str _) (rep_strs r)
theorem zip_keys : ∀ kvs : List (Str × Str), (keysC kvs).zip (kvs.map fun p => V.str p.2) = kvs.map fun p => (Sum.inr p.1, V.str p.2)
  | [] => rfl
  | p :: r => by
    show (Sum.inr p.1, V.str p.2) :: (keysC r).zip (r.map fun p => V.str p.2) = _
    rw [zip_keys r]; rfl
theorem dictCG {kvs : List (Str × Str)} (h0 : kvs ≠ []) (h15 : kvs.length ≤ 15) (hm : mergeK [] (kvs.map fun p => ((Sum.inr p.1 : Key), V.str p.2)) = kvs.map fun p => ((Sum.inr p.1 : Key), V.str p.2)) : PrimG (pDictC kvs) := by
  intro X k W xo
  have main : ∀ {e : Expr} {es : List Expr} {ms : List (En → Res D)}, dctSyn kvs X.env.scope e = some es → PEs X W es ms → ∃ ks vs pos, e = .Dict ks vs pos ∧ PE X e (tS X W fun ρ => (seqM ms ρ).bind fun ds => ofO ((pDictC kvs).sem ds)) := by
    intro e es ms h hp
    unfold dctSyn at h
    split at h
    · rename_i ks vs pos
      split at h
      · rename_i hg
        cases h
        cases hp
        obtain ⟨h1, h2, h3, h4⟩ := matchKV_facts (X := X) (pos := pos) hg
        refine ⟨ks, vs, pos, rfl, pe_weak (pe_disp h1 h2 h3 (fun z => h0 (List.length_eq_zero_iff.mp (by rw [← h4, z]; rfl))) (by rw [h4]; exact h15)) fun σ H Q q => ?_⟩
        obtain ⟨M, ρ, dm, re, o⟩ := q
        have o' : ∀ v H', Same X.K H H' → Rep X.K M H' v (.dct (keysC kvs) (kvs.map fun p => .str p.2)) → Q v H' := o
        intro p hn
        refine pairs_const kvs ⟨upd_same, kvs.map fun p => ((Sum.inr p.1 : Key), V.str p.2), ?_, by rw [List.length_map]; exact h15, ?_⟩
        · rw [List.map_map]; rfl
        · rw [hm]
          refine o' _ _ (Same.of fun a ob e => ?_) (.dct (xs := kvs.map fun p => V.str p.2) ?_ (by rw [List.length_map, keysC, List.length_map]) (dm.fresh hn) (rep_strs kvs))
          · have : a ≠ p := fun z => by rw [z, hn] at e; cases e
            rw [upd_ne this, upd_ne this]; exact e
          · rw [zip_keys]; exact upd_same
      · cases h
    · cases h
  refine ⟨fun h hp => (main h hp).choose_spec.choose_spec.choose_spec.2, (fun z => nomatch z), fun {e es ms} h hp => ?_⟩
  obtain ⟨x, p, es, rfl, pe⟩ := main h hp
  exact pt_of_pe pe (fun _ => rfl)
def lookD : List Key → List D → Key → Option D
  | k :: ks, d :: ds, q => if decide (k = q) then some d else lookD ks ds q
  | _, _, _ => none
def opGet2 : List D → Option D
  | [.dct ks ds, .str w, z] => some ((lookD ks ds (Sum.inr w)).getD z)
  | _ => none
theorem look_rep {K : PySem.W.Frag} {M : Mk} {H : Hp} {q : Key} : ∀ {ks : List Key} {vs : List V} {ds : List D}, RepAll K M H vs ds → ks.length = vs.length →
    (lookD ks ds q = none ∧ valV (ks.zip vs) q = none) ∨ ∃ v d, lookD ks ds q = some d ∧ valV (ks.zip vs) q = some v ∧ Rep K M H v d
  | [], [], [], _, _ => .inl ⟨rfl, rfl⟩
  | [], _ :: _, _, _, h => by cases h
  | _ :: _, [], _, _, h => by cases h
  | k :: ks, v :: vs, d :: ds, .cons r rs, h => by
    by_cases e : k = q
    · exact .inr ⟨v, d, by unfold lookD; rw [decide_eq_true e]; rfl, by unfold valV; rw [List.zip_cons_cons, List.find?_cons, decide_eq_true e]; rfl, r⟩
    · have e1 : lookD (k :: ks) (d :: ds) q = lookD ks ds q := by show (if decide (k = q) = true then _ else _) = _; rw [decide_eq_false e]; rfl
      have e2 : valV ((k :: ks).zip (v :: vs)) q = valV (ks.zip vs) q := by unfold valV; rw [List.zip_cons_cons, List.find?_cons, decide_eq_false e]
      rw [e1, e2]
      exact look_rep rs (Nat.succ.inj h)
/-- x.get(y, z), three names -/
def nmB (N : List Str) (sc : Scope) (i : Nat) (x : Str) : Bool := decide (N[i]? = some x) && visB sc x && okName x
def getChk (i j k : Nat) (N : List Str) (sc : Scope) (e : Expr) : Bool := match e with
  | .Call (.Attribute (.Name x _) m ap) [.Name y _, .Name z _] [] cp => decide (m = "get") && (ap.endLine == cp.line) && nmB N sc i x && nmB N sc j y && nmB N sc k z
  | _ => false
def aGet (i j k : Nat) : Atom := ⟨getChk i j k, fun ρ => (getE ρ i).bind fun d => (getE ρ j).bind fun w => (getE ρ k).bind fun z => ofO (opGet2 [d, w, z])⟩
theorem nm_pe {X : Cx} {i : Nat} {x : Str} {p : Pos} (h : nmB X.N X.env.scope i x = true) : PE X (.Name x p) (tVar i) := by
  unfold nmB at h
  rw [Bool.and_eq_true, Bool.and_eq_true, decide_eq_true_eq] at h
  obtain ⟨h4, h5⟩ := okName_of h.2
  exact pe_var h.1.1 (vis_of h.1.2) h4 h5
theorem getE_ok {ρ : En} {i : Nat} {d : D} (h : getE ρ i = .ok d) : ρ[i]? = some (some d) := by
  unfold getE at h
  split at h
  · rename_i e; cases h; exact e
  · cases h
theorem getE_two (ρ : En) (i : Nat) : (∃ d, getE ρ i = .ok d) ∨ getE ρ i = .stuck := by
  unfold getE
  split
  · exact .inl ⟨_, rfl⟩
  · exact .inr rfl
theorem getA {P : Str → (List D → Res D) → Prop} {C : Str → Cn → Prop} {i j k : Nat} : AtomG P C (aGet i j k) := by
  intro X kk W xo _ _ x h
  have main : ∃ a es pos, x = .Call a es [] pos ∧ PE X x (tS X W (aGet i j k).sem) := by
    have h' : getChk i j k X.N X.env.scope x = true := h
    unfold getChk at h'
    split at h'
    · rename_i x p m ap y p1 z p2 cp
      rw [Bool.and_eq_true, Bool.and_eq_true, Bool.and_eq_true, Bool.and_eq_true, decide_eq_true_eq] at h'
      obtain ⟨⟨⟨⟨rfl, hl⟩, n0⟩, n1⟩, n2⟩ := h'
      refine ⟨_, _, cp, rfl, pe_weak (pe_dget2 (by have := xo.room.un; omega) (nm_pe n0) (nm_pe n1) (nm_pe n2) ⟨rfl, rfl, hl, rfl⟩) fun σ H Q q => ?_⟩
      obtain ⟨M, ρ, dm, re, o⟩ := q
      have o' : OutE X W M σ H Q ((getE ρ i).bind fun d => (getE ρ j).bind fun w => (getE ρ k).bind fun z => ofO (opGet2 [d, w, z])) := o
      rcases getE_two ρ i with ⟨d1, e1⟩ | e1
      · rw [e1] at o'
        have o1 : OutE X W M σ H Q ((getE ρ j).bind fun w => (getE ρ k).bind fun z => ofO (opGet2 [d1, w, z])) := o'
        rcases getE_two ρ j with ⟨d2, e2⟩ | e2
        · rw [e2] at o1
          have o2 : OutE X W M σ H Q ((getE ρ k).bind fun z => ofO (opGet2 [d1, d2, z])) := o1
          rcases getE_two ρ k with ⟨d3, e3⟩ | e3
          · rw [e3] at o2
            have o3 : OutE X W M σ H Q (ofO (opGet2 [d1, d2, d3])) := o2
            obtain ⟨v1, f1, r1⟩ := re.get i d1 (getE_ok e1)
            obtain ⟨v2, f2, r2⟩ := re.get j d2 (getE_ok e2)
            obtain ⟨v3, f3, r3⟩ := re.get k d3 (getE_ok e3)
            cases e4 : opGet2 [d1, d2, d3] with
            | none => rw [e4] at o3; exact o3.elim
            | some d =>
              rw [e4] at o3
              unfold opGet2 at e4
              split at e4
              · rename_i ks ds w z el
                cases el
                cases e4
                cases r1 with
                | @dct a _ vs _ hh hkl hm ra =>
                  cases r2
                  refine ⟨_, f1, a, rfl, .inl ⟨_, .inl hh⟩, _, f2, _, f3, ?_⟩
                  rcases look_rep (q := Sum.inr w) ra hkl with ⟨g1, g2⟩ | ⟨v, d', g1, g2, g3⟩
                  · refine ⟨none, .inl ⟨_, Sum.inr w, .inl hh, rfl, g2.symm⟩, o3 _ _ (Same.refl H) ?_⟩
                    rw [g1]; exact r3
                  · refine ⟨some v, .inl ⟨_, Sum.inr w, .inl hh, rfl, g2.symm⟩, o3 _ _ (Same.refl H) ?_⟩
                    rw [g1]; exact g3
              · cases e4
          · rw [e3] at o2; exact o2.elim
        · rw [e2] at o1; exact o1.elim
      · rw [e1] at o'; exact o'.elim
    · cases h'
  obtain ⟨a, es, pos, rfl, pe⟩ := main
  exact ⟨pe, pt_of_pe pe (fun _ => rfl)⟩
end PL

namespace PL
open PySem PySem.Spec PyProof.Rows L2
/-! ## len(set(xs)), xs a list of whole numbers -/
def setLen (ns : List Int) : Nat := (PyProof.Rows.firstMet (fun i => ns.getD i 0) ns.length).length
def rLenSet (K : PySem.W.Frag) : V → Hp → VK → Prop := fun x H Q => ∃ l, ∃ ns : List Int, x = .ref l ∧ SqL K H l (ns.map V.int) ∧ ns.length < 1000 ∧ Q (.int (setLen ns : Nat)) H
theorem pe_lenSetI {X : Cx} {a : Expr} {ta : TE} {p p2 q pos : Pos} (hc : X.calm = true) (hg : Gl X "len") (hm : X.mg "len" = none) (hg2 : Gl X "set") (hm2 : X.mg "set" = none) (ha : PE X a ta) (na : starEach [a] X.env = (false, eval a X.env) :: starEach [] X.env) :
    PE X (.Call (.Name "len" p) [.Call (.Name "set" p2) [a] [] q] [] pos) (fun σ H Q => ta σ H fun x H1 => rLenSet X.K x H1 Q) := by
  refine ⟨fun pins s σ H Q I h => Call_ (ld_blt I hg hm boot_len (PyProof.Rows.callWith_builtin1 (PyProof.Rows.args_cons (Call_ (ld_blt I hg2 hm2 boot_set ?_)) rfl) rfl rfl))⟩
  refine PyProof.Rows.callWith_type1 (PyProof.Rows.args_cons (thn (ha.run pins s σ H _ I h) fun v s1 ⟨x, H1, I1, r1, z1⟩ => PyProof.Rows.args_nil ?_) na) na rfl
  obtain ⟨l, ns, rfl, hq, h1, z1⟩ := z1
  cases r1
  obtain ⟨its, r, pl, hz⟩ := I1.list hq
  have hl : its.toArray.size = ns.length := by rw [List.size_toArray, ← r.length, List.length_map]
  refine call_set_list (I1.ok.hd hc) pl.isList (show IntsAre its.toArray.toList ns from intsAre_of r) (by rw [hl]; exact Nat.lt_of_lt_of_le (Nat.succ_lt_succ h1) (by decide)) fun h' tk hS hk => ?_
  refine PyProof.Rows.args_nil ?_
  rw [hl] at hS
  obtain ⟨o, es, ep, t, ho, hex, hd, _, _, _, hf, hn⟩ := hS
  have I2 : Inv X pins σ H1 { s1 with heap := h', toks := tk } := I1.kept fun b o e => hk b o (Heap.lt_size e) e
  have lt : setLen ns ≤ ns.length := PyProof.Rows.firstMet_length_le _ _
  refine call_len_set ho hex hd hf (by have : es.size = setLen ns := hn
                                       omega) ⟨.int (setLen ns : Nat), H1, I2.tok _, ⟨_, by rw [hn]; rfl⟩, z1⟩
def lenSetSyn : Scope → Expr → Option (List Expr) := fun sc e => match e with
  | .Call (.Name x _) [.Call (.Name y _) [a] [] _] [] _ => if (decide (x = "len") && glB sc x) && (decide (y = "set") && glB sc y) then some [a] else none
  | _ => none
def opLenSet : D → Option D
  | .lst l => (intsD l).bind fun ns => if ns.length < 1000 then some (.int (setLen ns : Nat)) else none
  | _ => none
def pLenSet : Prim := { syn := lenSetSyn, sem := one1 opLenSet }
theorem lenSetG : PrimG pLenSet := by
  intro X k W xo
  have main : ∀ {e : Expr} {es : List Expr} {ms : List (En → Res D)}, lenSetSyn X.env.scope e = some es → PEs X W es ms → ∃ a b pos, e = .Call a b [] pos ∧ PE X e (tS X W fun ρ => (seqM ms ρ).bind fun ds => ofO (one1 opLenSet ds)) := by
    intro e es ms h hp
    unfold lenSetSyn at h
    split at h
    · rename_i x p y p2 a q pos
      split at h
      · rename_i hg
        cases h
        rw [Bool.and_eq_true, Bool.and_eq_true, Bool.and_eq_true, decide_eq_true_eq, decide_eq_true_eq] at hg
        obtain ⟨⟨rfl, g1⟩, rfl, g2⟩ := hg
        obtain ⟨ma, rfl, h1, n1⟩ := one_pes hp
        refine ⟨_, _, pos, rfl, pe_weak (pe_lenSetI xo.calm (gl_of g1) (xo.bf _ (by decide)) (gl_of g2) (xo.bf _ (by decide)) h1 (star_of n1 [] X.env)) fun σ H Q q => w_1 (r := fun x H Q => rLenSet X.K x H Q) (fun M H x d1 d dm r1 e k => ?_) q⟩
        have e' : opLenSet d1 = some d := e
        cases d1 with
        | lst l =>
          cases r1 with
          | @lst b vs _ s n ra =>
            have e2 : ((intsD l).bind fun ns => if ns.length < 1000 then some (D.int (setLen ns : Nat)) else none) = some d := e'
            cases e3 : intsD l with
            | none => rw [e3] at e2; cases e2
            | some ns =>
              rw [e3] at e2
              have e4 : (if ns.length < 1000 then some (D.int (setLen ns : Nat)) else none) = some d := e2
              split at e4
              · rename_i hl
                cases e4
                exact ⟨b, ns, rfl, SqL.of (by rw [← intsD_rep ra e3]; exact s), hl, k _ H (Same.refl H) (.int _)⟩
              · cases e4
        | _ => cases e'
      · cases h
    · cases h
  refine ⟨fun h hp => (main h hp).choose_spec.choose_spec.choose_spec.2, (fun z => nomatch z), fun {e es ms} h hp => ?_⟩
  obtain ⟨a, b, pos, rfl, pe⟩ := main h hp
  exact pt_of_pe pe (fun _ => rfl)
end PL

namespace PL
open PySem PySem.Spec PyProof.Rows L2
/-! ## int(x), sorted(pairs), x[a:b] -/
def opInt : D → Option D
  | .int i => some (.int i)
  | .bl k => some (.int (if k then 1 else 0))
  | _ => none
def pInt : Prim := { syn := callSyn "int", sem := one1 opInt }
theorem intG : PrimG pInt := prim_ty (T := "int") (by decide) (by decide +kernel) (by decide) (by decide) fun X k W xo => by
  refine ⟨_, call_int1, fun M H xs ds d Q dm rs e k => ?_⟩
  match ds, rs, e with
  | [x], .cons r1 .nil, e =>
    have e' : opInt x = some d := e
    cases x with
    | int i => cases e'; cases r1; exact .inl ⟨i, rfl, k _ H (Same.refl H) (.int _)⟩
    | bl b => cases e'; cases r1; exact .inr ⟨b, rfl, k _ H (Same.refl H) (.int _)⟩
    | _ => cases e'
abbrev P2 := Int × Int
def prD (p : P2) : D := .tup [.int p.1, .int p.2]
def leP (a b : P2) : Bool := decide (a.1 < b.1) || (decide (a.1 = b.1) && decide (a.2 ≤ b.2))
theorem leP_iff {a b : P2} : leP a b = true ↔ a.1 < b.1 ∨ (a.1 = b.1 ∧ a.2 ≤ b.2) := by
  unfold leP; rw [Bool.or_eq_true, Bool.and_eq_true, decide_eq_true_eq, decide_eq_true_eq, decide_eq_true_eq]
def insP (a : P2) : List P2 → List P2
  | [] => [a]
  | b :: r => if leP a b then a :: b :: r else b :: insP a r
def sortP : List P2 → List P2
  | [] => []
  | a :: r => insP a (sortP r)
theorem insP_perm (a : P2) : ∀ l : List P2, (insP a l).Perm (a :: l)
  | [] => .refl _
  | b :: r => by
    unfold insP
    split
    · exact .refl _
    · exact ((insP_perm a r).cons b).trans (.swap a b r)
theorem sortP_perm : ∀ l : List P2, (sortP l).Perm l
  | [] => .refl _
  | a :: r => (insP_perm a (sortP r)).trans ((sortP_perm r).cons a)
theorem insP_pw (a : P2) : ∀ {l : List P2}, (l.Pairwise fun p q => leP p q = true) → (insP a l).Pairwise fun p q => leP p q = true
  | [], _ => .cons (fun _ h => by cases h) .nil
  | b :: r, h => by
    unfold insP
    split
    · rename_i hab
      refine .cons (fun q hq => ?_) h
      rcases List.mem_cons.mp hq with rfl | hq
      · exact hab
      · have h2 := List.rel_of_pairwise_cons h hq
        rw [leP_iff] at *
        omega
    · rename_i hab
      refine .cons (fun q hq => ?_) (insP_pw a (List.Pairwise.of_cons h))
      rcases List.mem_cons.mp ((insP_perm a r).mem_iff.mp hq) with rfl | hq
      · rw [leP_iff] at *
        omega
      · exact List.rel_of_pairwise_cons h hq
theorem sortP_pw : ∀ l : List P2, (sortP l).Pairwise fun p q => leP p q = true
  | [] => .nil
  | a :: r => insP_pw a (sortP_pw r)
theorem sortP_is {l m : List P2} (hp : m.Perm l) (hs : m.Pairwise fun p q => leP p q = true) : m = sortP l :=
  List.Perm.eq_of_pairwise (fun a b _ _ h1 h2 => by
    rw [leP_iff] at h1 h2
    exact Prod.ext (by omega) (by omega)) hs (sortP_pw l) (hp.trans (sortP_perm l).symm)
def pairsD : List D → Option (List P2)
  | [] => some []
  | .tup [.int a, .int b] :: r => (pairsD r).map ((a, b) :: ·)
  | _ => none
theorem pairsD_map : ∀ l : List P2, pairsD (l.map prD) = some l
  | [] => rfl
  | p :: l => by show (pairsD (l.map prD)).map ((p.1, p.2) :: ·) = _; rw [pairsD_map l]; rfl
theorem pairsD_is : ∀ {ds : List D} {ps : List P2}, pairsD ds = some ps → ds = ps.map prD
  | [], ps, h => by cases h; rfl
  | d :: ds, ps, h => by
    unfold pairsD at h
    split at h
    · rename_i e; cases e
    · rename_i a b r e
      cases e
      cases e1 : pairsD ds with
      | none => rw [e1] at h; cases h
      | some m => rw [e1] at h; cases h; rw [pairsD_is e1]; rfl
    · cases h
def opSorted : D → Option D
  | .lst l => (pairsD l).map fun ps => .lst ((sortP ps).map prD)
  | _ => none
def pSorted : Prim := { syn := callSyn "sorted", sem := one1 opSorted }
open Classical in
noncomputable def keyOf (H : Hp) (x : V) : P2 := if h : ∃ p : P2, ∃ t, x = V.ref t ∧ H t = some (.tup [.int p.1, .int p.2]) then h.choose else (0, 0)
theorem keyOf_is {H : Hp} {x : V} {p : P2} {t : Addr} (e : x = .ref t) (h : H t = some (.tup [.int p.1, .int p.2])) : keyOf H x = p := by
  have hx : ∃ p : P2, ∃ t, x = V.ref t ∧ H t = some (.tup [.int p.1, .int p.2]) := ⟨p, t, e, h⟩
  unfold keyOf
  rw [dif_pos hx]
  obtain ⟨t', e', h'⟩ := hx.choose_spec
  rw [e] at e'
  cases e'
  rw [h] at h'
  injection h' with h'
  injection h' with h'
  injection h' with h1 h2
  injection h2 with h2
  injection h1 with h1
  injection h2 with h2
  exact (Prod.ext h1 h2).symm
theorem rep_pair {K : PySem.W.Frag} {M : Mk} {H : Hp} {x : V} {p : P2} (r : Rep K M H x (prD p)) : ∃ t, x = .ref t ∧ H t = some (.tup [.int p.1, .int p.2]) ∧ ¬ M t := by
  cases r with
  | @tup a xs _ s n ra =>
    refine ⟨a, rfl, ?_, n⟩
    cases ra with
    | cons r1 ra =>
      cases ra with
      | cons r2 ra => cases ra; cases r1; cases r2; exact s
theorem keys_of {K : PySem.W.Frag} {M : Mk} {H : Hp} : ∀ {xs : List V} {ps : List P2}, RepAll K M H xs (ps.map prD) → xs.map (keyOf H) = ps ∧ ∀ x ∈ xs, Rep K M H x (prD (keyOf H x)) ∧ ∃ t, x = V.ref t ∧ H t = some (.tup [.int (keyOf H x).1, .int (keyOf H x).2])
  | [], [], _ => ⟨rfl, fun _ h => by cases h⟩
  | x :: xs, p :: ps, .cons r rs => by
    obtain ⟨t, e, h, n⟩ := rep_pair r
    obtain ⟨i1, i2⟩ := keys_of rs
    have ke := keyOf_is e h
    refine ⟨by rw [List.map_cons, i1, ke], fun y hy => ?_⟩
    rcases List.mem_cons.mp hy with rfl | hy
    · rw [ke]; exact ⟨r, t, e, h⟩
    · exact i2 y hy
theorem rep_keys {K : PySem.W.Frag} {M : Mk} {H : Hp} : ∀ {ys : List V}, (∀ y ∈ ys, Rep K M H y (prD (keyOf H y))) → RepAll K M H ys ((ys.map (keyOf H)).map prD)
  | [], _ => .nil
  | y :: ys, h => .cons (h y List.mem_cons_self) (rep_keys fun z hz => h z (List.mem_cons_of_mem _ hz))
theorem sortedG : PrimG pSorted := prim_blt (id := "sorted") (by decide) (by decide +kernel) (by decide) (by decide) fun X k W xo => by
  refine ⟨_, cr_sortedPO, fun M H xs ds d Q dm rs e k => ?_⟩
  obtain ⟨a, vs, l, rfl, rfl, e, s, n, ra⟩ := one_lst rs e (fun a d h => by cases a <;> first | exact ⟨_, rfl⟩ | cases h)
  have e' : (pairsD l).map (fun ps => D.lst ((sortP ps).map prD)) = some d := e
  cases e1 : pairsD l with
  | none => rw [e1] at e'; cases e'
  | some ps =>
    rw [e1] at e'; cases e'
    have el := pairsD_is e1
    subst el
    obtain ⟨i1, i2⟩ := keys_of ra
    refine ⟨a, vs, keyOf H, rfl, SqL.of s, fun x hx => (i2 x hx).2, fun ys p hs hst hn => ?_⟩
    have pm : ys.Perm vs := hst.perm
    have e2 : ys.map (keyOf H) = sortP ps := by
      refine sortP_is (by rw [← i1]; exact pm.map _) ?_
      rw [List.pairwise_map]
      refine hs.imp fun {x y} h => ?_
      have h' := SrtO.lexB_no.mp h
      rw [leP_iff]
      omega
    refine k _ _ (same_new hn) (.lst upd_same (dm.fresh hn) ?_)
    rw [← e2]
    exact (rep_keys fun y hy => (i2 y (pm.mem_iff.mp hy)).1).same (same_new hn)
end PL

namespace PL
open PySem PySem.Spec PyProof.Rows L2
/-! ## texts of the program that many laws reach -/
def b_is_whole : S :=
  (.cons (.ret (.and (.prim pIsInt (.cons (.v 0) .nil)) (.and (.not (.prim pIsBool (.cons (.v 0) .nil))) (.chain .LtE .LtE opLe opLe (.v 1) (.v 0) (.v 2)))))
  .nil)
def f_is_whole : List D → Res D := callD 3 3 b_is_whole
def b_is_point : S :=
  (.cons (.ite (.or (.not (.prim pIsTuple (.cons (.v 0) .nil))) (.or (.prim pNe (.cons (.prim pLen (.cons (.v 0) .nil)) (.cons (.c (.int 3)) .nil))) (.not (.call "is_whole" f_is_whole (.cons (.prim pIx (.cons (.v 0) (.cons (.c (.int 0)) .nil))) (.cons (.c (.int 0)) (.cons (.g "LAST" (.int 999)) .nil)))))))
  (.cons (.ret (.c (.bl false)))
  .nil)
  .nil)
  (.cons (.ret (.prim pAll (.cons (.comp [("one", 1)] (.name 1) (.seq (.prim pSlL (.cons (.v 0) (.cons (.c (.int 1)) .nil)))) .none (.call "is_whole" f_is_whole (.cons (.v 1) (.cons (.prim pSub (.cons (.c (.int 0)) (.cons (.g "FARTHEST" (.int 99)) .nil))) (.cons (.g "FARTHEST" (.int 99)) .nil))))) .nil)))
  .nil))
def f_is_point : List D → Res D := callD 2 1 b_is_point
def b_is_track : S :=
  (.cons (.ite (.or (.not (.prim pIsTuple (.cons (.v 0) .nil))) (.or (.not (.chain .LtE .LtE opLe opLe (.c (.int 1)) (.prim pLen (.cons (.v 0) .nil)) (.g "MOST" (.int 12)))) (.not (.prim pAll (.cons (.comp [("point", 1)] (.name 1) (.seq (.v 0)) .none (.call "is_point" f_is_point (.cons (.v 1) .nil))) .nil)))))
  (.cons (.ret (.c (.bl false)))
  .nil)
  .nil)
  (.cons (.ret (.prim pAll (.cons (.comp [("one", 2), ("other", 3)] (.tup [2, 3]) (.zip (.v 0) (.prim pSlL (.cons (.v 0) (.cons (.c (.int 1)) .nil)))) .none (.prim pLt (.cons (.prim pIx (.cons (.v 2) (.cons (.c (.int 0)) .nil))) (.cons (.prim pIx (.cons (.v 3) (.cons (.c (.int 0)) .nil))) .nil)))) .nil)))
  .nil))
def f_is_track : List D → Res D := callD 4 1 b_is_track
def b_look_track : S :=
  (.cons (.ite (.not (.call "is_track" f_is_track (.cons (.v 0) .nil)))
  (.cons (.raise "NoTrack")
  .nil)
  .nil)
  .nil)
def f_look_track : List D → Res D := callD 1 1 b_look_track
def b_looked : S :=
  (.cons (.expr (.call "look_track" f_look_track (.cons (.v 0) .nil)))
  (.cons (.ret (.v 0))
  .nil))
def f_looked : List D → Res D := callD 1 1 b_looked
def b_shifted : S :=
  (.cons (.expr (.call "look_track" f_look_track (.cons (.v 0) .nil)))
  (.cons (.ite (.not (.prim pAll (.cons (.comp [("one", 3)] (.name 3) (.seq (.prim pTup (.cons (.v 1) (.cons (.v 2) .nil)))) .none (.call "is_whole" f_is_whole (.cons (.v 3) (.cons (.prim pMul (.cons (.prim pNeg (.cons (.c (.int 2)) .nil)) (.cons (.g "FARTHEST" (.int 99)) .nil))) (.cons (.prim pMul (.cons (.c (.int 2)) (.cons (.g "FARTHEST" (.int 99)) .nil))) .nil))))) .nil)))
  (.cons (.raise "NoNumber")
  .nil)
  .nil)
  (.cons (.ret (.call "looked" f_looked (.cons (.prim pTupleOf (.cons (.comp [("time", 4), ("x", 5), ("y", 6)] (.tup [4, 5, 6]) (.seq (.v 0)) .none (.prim pTup (.cons (.v 4) (.cons (.prim pAdd (.cons (.v 5) (.cons (.v 1) .nil))) (.cons (.prim pAdd (.cons (.v 6) (.cons (.v 2) .nil))) .nil))))) .nil)) .nil)))
  .nil)))
def f_shifted : List D → Res D := callD 7 3 b_shifted
def b_turned : S :=
  (.cons (.expr (.call "look_track" f_look_track (.cons (.v 0) .nil)))
  (.cons (.ret (.prim pTupleOf (.cons (.comp [("time", 1), ("x", 2), ("y", 3)] (.tup [1, 2, 3]) (.seq (.v 0)) .none (.prim pTup (.cons (.v 1) (.cons (.prim pSub (.cons (.c (.int 0)) (.cons (.v 3) .nil))) (.cons (.v 2) .nil))))) .nil)))
  .nil))
def f_turned : List D → Res D := callD 4 1 b_turned
def b_backwards : S :=
  (.cons (.expr (.call "look_track" f_look_track (.cons (.v 0) .nil)))
  (.cons (.set true 1 (.prim pAdd (.cons (.prim pIx (.cons (.prim pIx (.cons (.v 0) (.cons (.c (.int 0)) .nil))) (.cons (.c (.int 0)) .nil))) (.cons (.prim pIx (.cons (.prim pIx (.cons (.v 0) (.cons (.prim pNeg (.cons (.c (.int 1)) .nil)) .nil))) (.cons (.c (.int 0)) .nil))) .nil))))
  (.cons (.ret (.prim pTupleOf (.cons (.comp [("time", 2), ("x", 3), ("y", 4)] (.tup [2, 3, 4]) (.seq (.prim pRev (.cons (.v 0) .nil))) .none (.prim pTup (.cons (.prim pSub (.cons (.v 1) (.cons (.v 2) .nil))) (.cons (.v 3) (.cons (.v 4) .nil))))) .nil)))
  .nil)))
def f_backwards : List D → Res D := callD 5 1 b_backwards
def b_places_of : S :=
  (.cons (.ret (.comp [("time", 1), ("x", 2), ("y", 3)] (.tup [1, 2, 3]) (.seq (.v 0)) .none (.prim pTup (.cons (.v 2) (.cons (.v 3) .nil)))))
  .nil)
def f_places_of : List D → Res D := callD 4 1 b_places_of
def b_crossed : S :=
  (.cons (.ret (.prim pSub (.cons (.prim pMul (.cons (.prim pSub (.cons (.prim pIx (.cons (.v 1) (.cons (.c (.int 0)) .nil))) (.cons (.prim pIx (.cons (.v 0) (.cons (.c (.int 0)) .nil))) .nil))) (.cons (.prim pSub (.cons (.prim pIx (.cons (.v 2) (.cons (.c (.int 1)) .nil))) (.cons (.prim pIx (.cons (.v 0) (.cons (.c (.int 1)) .nil))) .nil))) .nil))) (.cons (.prim pMul (.cons (.prim pSub (.cons (.prim pIx (.cons (.v 1) (.cons (.c (.int 1)) .nil))) (.cons (.prim pIx (.cons (.v 0) (.cons (.c (.int 1)) .nil))) .nil))) (.cons (.prim pSub (.cons (.prim pIx (.cons (.v 2) (.cons (.c (.int 0)) .nil))) (.cons (.prim pIx (.cons (.v 0) (.cons (.c (.int 0)) .nil))) .nil))) .nil))) .nil))))
  .nil)
def f_crossed : List D → Res D := callD 3 3 b_crossed
def b__law_small : S :=
  (.cons (.par true [(true, 3), (false, 4), (false, 5)] (.cons (.prim pLst .nil) (.cons (.c (.int 0)) (.cons (.c (.int 0)) .nil))))
  (.cons (.for_ (.name 6) (.rng (.cons (.prim pAdd (.cons (.c (.int 1)) (.cons (.call "_law_pick" fPick (.cons (.v 0) (.cons (.v 1) (.cons (.v 2) .nil)))) .nil))) .nil))
  (.cons (.app true 3 (.prim pTup (.cons (.prim pAdd (.cons (.prim pMul (.cons (.c (.int 2)) (.cons (.v 6) .nil))) (.cons (.c (.int 1)) .nil))) (.cons (.v 4) (.cons (.v 5) .nil)))))
  (.cons (.set true 7 (.prim pIx (.cons (.prim pLst (.cons (.c (.int 2)) (.cons (.c (.int 3)) (.cons (.c (.int 7)) .nil)))) (.cons (.call "_law_pick" fPick (.cons (.v 0) (.cons (.prim pAdd (.cons (.v 1) (.cons (.c (.int 1)) .nil))) (.cons (.c (.int 3)) .nil)))) .nil))))
  (.cons (.set true 4 (.prim pSub (.cons (.prim pAdd (.cons (.v 4) (.cons (.call "_law_pick" fPick (.cons (.v 0) (.cons (.prim pAdd (.cons (.prim pAdd (.cons (.v 1) (.cons (.prim pMul (.cons (.c (.int 2)) (.cons (.v 6) .nil))) .nil))) (.cons (.c (.int 2)) .nil))) (.cons (.v 7) .nil)))) .nil))) (.cons (.prim pFdv (.cons (.v 7) (.cons (.c (.int 2)) .nil))) .nil))))
  (.cons (.set true 5 (.prim pSub (.cons (.prim pAdd (.cons (.v 5) (.cons (.call "_law_pick" fPick (.cons (.v 0) (.cons (.prim pAdd (.cons (.prim pAdd (.cons (.v 1) (.cons (.prim pMul (.cons (.c (.int 2)) (.cons (.v 6) .nil))) .nil))) (.cons (.c (.int 3)) .nil))) (.cons (.v 7) .nil)))) .nil))) (.cons (.prim pFdv (.cons (.v 7) (.cons (.c (.int 2)) .nil))) .nil))))
  .nil)))))
  (.cons (.ret (.prim pTupleOf (.cons (.v 3) .nil)))
  .nil)))
def f__law_small : List D → Res D := callD 8 3 b__law_small
def b__law_way : S :=
  (.cons (.ret (.prim pTup (.cons (.prim pSub (.cons (.prim pIx (.cons (.v 1) (.cons (.c (.int 0)) .nil))) (.cons (.prim pIx (.cons (.v 0) (.cons (.c (.int 0)) .nil))) .nil))) (.cons (.prim pSub (.cons (.prim pIx (.cons (.v 1) (.cons (.c (.int 1)) .nil))) (.cons (.prim pIx (.cons (.v 0) (.cons (.c (.int 1)) .nil))) .nil))) .nil))))
  .nil)
def f__law_way : List D → Res D := callD 2 2 b__law_way
def b__law_det : S :=
  (.cons (.ret (.prim pSub (.cons (.prim pMul (.cons (.prim pIx (.cons (.v 0) (.cons (.c (.int 0)) .nil))) (.cons (.prim pIx (.cons (.v 1) (.cons (.c (.int 1)) .nil))) .nil))) (.cons (.prim pMul (.cons (.prim pIx (.cons (.v 0) (.cons (.c (.int 1)) .nil))) (.cons (.prim pIx (.cons (.v 1) (.cons (.c (.int 0)) .nil))) .nil))) .nil))))
  .nil)
def f__law_det : List D → Res D := callD 2 2 b__law_det
def b__law_track : S :=
  (.cons (.set true 3 (.prim pAdd (.cons (.c (.int 1)) (.cons (.call "_law_pick" fPick (.cons (.v 0) (.cons (.v 1) (.cons (.v 2) .nil)))) .nil))))
  (.cons (.set true 4 (.prim pIx (.cons (.prim pLst (.cons (.c (.int 2)) (.cons (.c (.int 5)) (.cons (.c (.int 30)) .nil)))) (.cons (.call "_law_pick" fPick (.cons (.v 0) (.cons (.prim pAdd (.cons (.v 1) (.cons (.c (.int 1)) .nil))) (.cons (.c (.int 3)) .nil)))) .nil))))
  (.cons (.set true 5 (.call "_law_pick" fPick (.cons (.v 0) (.cons (.prim pAdd (.cons (.v 1) (.cons (.c (.int 2)) .nil))) (.cons (.c (.int 20)) .nil)))))
  (.cons (.par true [(false, 6), (false, 7)] (.cons (.prim pSub (.cons (.call "_law_pick" fPick (.cons (.v 0) (.cons (.prim pAdd (.cons (.v 1) (.cons (.c (.int 3)) .nil))) (.cons (.c (.int 21)) .nil)))) (.cons (.c (.int 10)) .nil))) (.cons (.prim pSub (.cons (.call "_law_pick" fPick (.cons (.v 0) (.cons (.prim pAdd (.cons (.v 1) (.cons (.c (.int 4)) .nil))) (.cons (.c (.int 21)) .nil)))) (.cons (.c (.int 10)) .nil))) .nil)))
  (.cons (.own true 8 (.prim pLst (.cons (.prim pTup (.cons (.v 5) (.cons (.v 6) (.cons (.v 7) .nil)))) .nil)))
  (.cons (.for_ (.name 9) (.rng (.cons (.c (.int 1)) (.cons (.v 3) .nil)))
  (.cons (.set true 5 (.prim pAdd (.cons (.prim pAdd (.cons (.v 5) (.cons (.c (.int 1)) .nil))) (.cons (.call "_law_pick" fPick (.cons (.v 0) (.cons (.prim pAdd (.cons (.v 1) (.cons (.prim pMul (.cons (.c (.int 5)) (.cons (.v 9) .nil))) .nil))) (.cons (.prim pIx (.cons (.prim pLst (.cons (.c (.int 2)) (.cons (.c (.int 6)) (.cons (.c (.int 40)) .nil)))) (.cons (.call "_law_pick" fPick (.cons (.v 0) (.cons (.prim pAdd (.cons (.prim pAdd (.cons (.v 1) (.cons (.c (.int 80)) .nil))) (.cons (.v 9) .nil))) (.cons (.c (.int 3)) .nil)))) .nil))) .nil)))) .nil))))
  (.cons (.set true 6 (.prim pMax2 (.cons (.prim pNeg (.cons (.c (.int 99)) .nil)) (.cons (.prim pMin2 (.cons (.c (.int 99)) (.cons (.prim pSub (.cons (.prim pAdd (.cons (.v 6) (.cons (.call "_law_pick" fPick (.cons (.v 0) (.cons (.prim pAdd (.cons (.prim pAdd (.cons (.v 1) (.cons (.prim pMul (.cons (.c (.int 5)) (.cons (.v 9) .nil))) .nil))) (.cons (.c (.int 1)) .nil))) (.cons (.prim pAdd (.cons (.prim pMul (.cons (.c (.int 2)) (.cons (.v 4) .nil))) (.cons (.c (.int 1)) .nil))) .nil)))) .nil))) (.cons (.v 4) .nil))) .nil))) .nil))))
  (.cons (.set true 7 (.prim pMax2 (.cons (.prim pNeg (.cons (.c (.int 99)) .nil)) (.cons (.prim pMin2 (.cons (.c (.int 99)) (.cons (.prim pSub (.cons (.prim pAdd (.cons (.v 7) (.cons (.call "_law_pick" fPick (.cons (.v 0) (.cons (.prim pAdd (.cons (.prim pAdd (.cons (.v 1) (.cons (.prim pMul (.cons (.c (.int 5)) (.cons (.v 9) .nil))) .nil))) (.cons (.c (.int 2)) .nil))) (.cons (.prim pAdd (.cons (.prim pMul (.cons (.c (.int 2)) (.cons (.v 4) .nil))) (.cons (.c (.int 1)) .nil))) .nil)))) .nil))) (.cons (.v 4) .nil))) .nil))) .nil))))
  (.cons (.ite (.prim pEq (.cons (.call "_law_pick" fPick (.cons (.v 0) (.cons (.prim pAdd (.cons (.prim pAdd (.cons (.v 1) (.cons (.prim pMul (.cons (.c (.int 5)) (.cons (.v 9) .nil))) .nil))) (.cons (.c (.int 3)) .nil))) (.cons (.c (.int 4)) .nil)))) (.cons (.c (.int 0)) .nil)))
  (.cons (.unp false [6, 7] (.prim pSlL (.cons (.prim pIx (.cons (.v 8) (.cons (.prim pNeg (.cons (.c (.int 1)) .nil)) .nil))) (.cons (.c (.int 1)) .nil))))
  .nil)
  .nil)
  (.cons (.app true 8 (.prim pTup (.cons (.v 5) (.cons (.v 6) (.cons (.v 7) .nil)))))
  .nil))))))
  (.cons (.ret (.prim pTupleOf (.cons (.v 8) .nil)))
  .nil)))))))
def f__law_track : List D → Res D := callD 10 3 b__law_track
end PL

namespace PL
open PySem PySem.Spec PyProof.Rows L2
/-! ## comprehensions, slices, zips -/
theorem enT {a : E} {ρ : En} (h : ev a ρ = .ok (.bl true)) : ev (.not a) ρ = .ok (.bl false) := enot h
theorem enF {a : E} {ρ : En} (h : ev a ρ = .ok (.bl false)) : ev (.not a) ρ = .ok (.bl true) := enot h
theorem compM_map {α : Type} {F : D → Res (Option D)} (f g : α → D) : ∀ (l : List α), (∀ a ∈ l, F (f a) = .ok (some (g a))) → compM F (l.map f) = .ok (l.map g)
  | [], _ => rfl
  | a :: l, h => by
    show (F (f a)).bind (fun o => (compM F (l.map f)).bind fun out => Res.ok (match o with | some x => x :: out | none => out)) = _
    rw [h a List.mem_cons_self, compM_map f g l fun b hb => h b (List.mem_cons_of_mem _ hb)]; rfl
theorem ecomp {α : Type} {own : List (Str × Nat)} {tg : Tg} {it : IT} {elt : E} {ρ : En} (l : List α) (f g : α → D) (h1 : evI it ρ = .ok (l.map f)) (hl : l.length ≤ 1000)
    (h : ∀ a ∈ l, ∃ ρ2, setTg tg (f a) (wipeD ρ (own.map (·.2))) = .ok ρ2 ∧ ev elt ρ2 = .ok (g a)) : ev (.comp own tg it .none elt) ρ = .ok (.lst (l.map g)) := by
  show (evI it ρ).bind (fun ds => if ds.length ≤ sizeD then (compM (fun d => noExc ((setTg tg d (wipeD ρ (own.map (·.2)))).bind fun ρ2 => (evO .none ρ2).bind fun t => if t then (ev elt ρ2).bind fun x => .ok (some x) else .ok none)) ds).bind fun out => Res.ok (D.lst out) else Res.stuck) = _
  rw [h1]
  show (if (l.map f).length ≤ sizeD then _ else _) = _
  rw [if_pos (by rw [List.length_map]; unfold sizeD; omega), compM_map f g l]
  · rfl
  · intro a ha
    obtain ⟨ρ2, e1, e2⟩ := h a ha
    rw [e1]
    show noExc ((Res.ok true).bind fun t => if t then (ev elt ρ2).bind fun x => .ok (some x) else .ok none) = _
    show noExc ((ev elt ρ2).bind fun x => .ok (some x)) = _
    rw [e2]; rfl
theorem cut_lo {α : Type} (xs : List α) (k : Nat) : cutG xs (some (k : Int)) none = xs.drop k := by
  unfold cutG
  rw [HT.sIx_nat, HT.sIx_none]
  by_cases h : k ≤ xs.length
  · rw [Nat.min_eq_left h, List.take_of_length_le (by rw [List.length_drop]; exact Nat.le_refl _)]
  · rw [Nat.min_eq_right (by omega), List.drop_length, List.drop_eq_nil_of_le (by omega), List.take_nil]
theorem cut_hi {α : Type} (xs : List α) (k : Nat) : cutG xs none (some (k : Int)) = xs.take k := by
  unfold cutG
  rw [HT.sIx_nat, HT.sIx_none, List.drop_zero, Nat.sub_zero]
  by_cases h : k ≤ xs.length
  · rw [Nat.min_eq_left h]
  · rw [Nat.min_eq_right (by omega), List.take_length, List.take_of_length_le (by omega)]
theorem zipD_map {α β : Type} (f : α → D) (g : β → D) : ∀ (l : List α) (m : List β), zipD (l.map f) (m.map g) = (l.zip m).map fun p => .tup [f p.1, g p.2]
  | [], _ => rfl
  | _ :: _, [] => rfl
  | a :: l, b :: m => by
    show D.tup [f a, g b] :: zipD (l.map f) (m.map g) = _
    rw [zipD_map f g l m]; rfl
theorem all_map {α : Type} (b : α → Bool) (l : List α) : opAll (.lst (l.map fun a => .bl (b a))) = some (.bl (l.all b)) := by
  show (blsD (l.map fun a => D.bl (b a))).map (fun bs => D.bl (bs.all id)) = _
  have e : l.map (fun a => D.bl (b a)) = (l.map b).map D.bl := by rw [List.map_map]; rfl
  rw [e, blsD_map]
  show some (D.bl ((l.map b).all id)) = _
  rw [List.all_map]; rfl
theorem sum_map {α : Type} (b : α → Int) (l : List α) : opSum (.lst (l.map fun a => .int (b a))) = some (.int (l.map b).sum) := by
  show (intsD (l.map fun a => D.int (b a))).map (fun bs => D.int bs.sum) = _
  have e : l.map (fun a => D.int (b a)) = (l.map b).map D.int := by rw [List.map_map]; rfl
  rw [e, intsD_map]; rfl
theorem atI_map0 {α : Type} (f : α → D) (l : List α) {i : Nat} (h : i < l.length) : atI (l.map f) (i : Int) = some (f l[i]) := by
  rw [atN, List.getElem?_map, List.getElem?_eq_getElem h]; rfl
theorem neI (a b : Int) : opNe (.int a) (.int b) = some (.bl (!decide (a = b))) := o_neI a b
/-! ## tracks -/
abbrev P3 := Int × Int × Int
def ptD (p : P3) : D := .tup [.int p.1, .int p.2.1, .int p.2.2]
def trk (l : List P3) : D := .tup (l.map ptD)
def Rise : List P3 → Prop
  | a :: b :: r => a.1 < b.1 ∧ Rise (b :: r)
  | _ => True
def InPt (p : P3) : Prop := 0 ≤ p.1 ∧ p.1 ≤ 999 ∧ -99 ≤ p.2.1 ∧ p.2.1 ≤ 99 ∧ -99 ≤ p.2.2 ∧ p.2.2 ≤ 99
structure Good (l : List P3) : Prop where
  ne : 1 ≤ l.length
  le : l.length ≤ 12
  pt : ∀ p ∈ l, InPt p
  up : Rise l
theorem whole_ok (i a b : Int) : f_is_whole [.int i, .int a, .int b] = .ok (.bl (decide (a ≤ i) && decide (i ≤ b))) :=
  rcall rfl (rret (eandT (e1 rfl rfl) (eandT (enF (e1 rfl rfl)) (echain rfl rfl rfl rfl rfl))))
theorem whole_in {i a b : Int} (h1 : a ≤ i) (h2 : i ≤ b) : f_is_whole [.int i, .int a, .int b] = .ok (.bl true) := by
  rw [whole_ok, decide_eq_true h1, decide_eq_true h2]; rfl
theorem point_ok {p : P3} (h : InPt p) : f_is_point [ptD p] = .ok (.bl true) := by
  obtain ⟨h1, h2, h3, h4, h5, h6⟩ := h
  refine rcall rfl (riteF (eorF (enT (e1 rfl rfl)) (eorF (e2 (e1 rfl rfl) ki rfl) (enT (ec (lc (e2 rfl ki rfl) (lc ki (lc rfl l0))) (whole_in h1 h2))))) ?_)
  refine rret (e1 (ecomp [p.2.1, p.2.2] D.int (fun _ => .bl true) rfl (by simp) ?_) rfl)
  intro a ha
  refine ⟨_, rfl, ec (lc rfl (lc rfl (lc rfl l0))) (whole_in ?_ ?_)⟩ <;> (rcases List.mem_cons.mp ha with rfl | ha; omega; rw [List.mem_singleton] at ha; rw [ha]; omega)
theorem rise_zip : ∀ {l : List P3}, Rise l → ∀ q ∈ l.zip (l.drop 1), q.1.1 < q.2.1
  | [], _, q, hq => by cases hq
  | [_], _, q, hq => by cases hq
  | a :: b :: r, h, q, hq => by
    rcases List.mem_cons.mp (show q ∈ (a, b) :: (b :: r).zip r from hq) with rfl | hq
    · exact h.1
    · exact rise_zip (l := b :: r) h.2 q hq
theorem track_ok {l : List P3} (G : Good l) : f_is_track [trk l] = .ok (.bl true) := by
  have hl : (1000 : Nat) ≥ 12 := by decide
  have len : ev (.prim pLen (.cons (.v 0) .nil)) (full (startS 4 [trk l])) = .ok (.int (l.length : Nat)) := by
    refine (e1 rfl ?_ : _ = Res.ok (D.int ((l.map ptD).length : Nat))).trans (by rw [List.length_map])
    rfl
  refine rcall rfl (riteF (eorF (enT (e1 rfl rfl)) (eorF (enT ?_) (enT (e1 (ecomp l ptD (fun _ => .bl true) rfl (by have := G.le; omega) ?_) ?_)))) ?_)
  · refine (echain ki len rfl rfl rfl).trans ?_
    have := G.ne
    have := G.le
    rw [decide_eq_true (by omega), decide_eq_true (by omega)]; rfl
  · intro a ha
    exact ⟨_, rfl, ec (lc rfl l0) (point_ok (G.pt a ha))⟩
  · refine (all_map (fun _ => true) l).trans ?_
    have : l.all (fun _ => true) = true := by simp
    rw [this]
  · refine rret (e1 (ecomp (l.zip (l.drop 1)) (fun q => .tup [ptD q.1, ptD q.2]) (fun q => .bl (decide (q.1.1 < q.2.1))) ?_ ?_ ?_) ?_)
    · show zipItems (.tup (l.map ptD)) (.tup (cutG (l.map ptD) (some ((1 : Nat) : Int)) none)) = _
      rw [cut_lo, ← List.map_drop]
      show Res.ok (zipD _ _) = _
      rw [zipD_map]
    · rw [List.length_zip]; have := G.le; omega
    · intro q hq
      exact ⟨_, rfl, elt (e2 rfl ki rfl) (e2 rfl ki rfl)⟩
    · refine (all_map _ _).trans ?_
      have : (l.zip (l.drop 1)).all (fun q => decide (q.1.1 < q.2.1)) = true := List.all_eq_true.mpr fun q hq => decide_eq_true (rise_zip G.up q hq)
      rw [this]
theorem look_ok {l : List P3} (G : Good l) : f_look_track [trk l] = .ok .non := by
  show outR (PL.run b_look_track (startS 1 [trk l])) = _
  have : PL.run b_look_track (startS 1 [trk l]) = .nx (startS 1 [trk l]) := riteF (enT (ec (lc rfl l0) (track_ok G))) rfl
  rw [this]; rfl
theorem looked_ok {l : List P3} (G : Good l) : f_looked [trk l] = .ok (trk l) := rcall rfl (rexpr (ec (lc rfl l0) (look_ok G)) (rret rfl))
theorem turned_ok {l : List P3} (G : Good l) : f_turned [trk l] = .ok (trk (l.map fun p => (p.1, 0 - p.2.2, p.2.1))) := by
  refine rcall rfl (rexpr (ec (lc rfl l0) (look_ok G)) (rret (e1 (ecomp l ptD (fun p => ptD (p.1, 0 - p.2.2, p.2.1)) rfl (by have := G.le; omega) ?_) ?_)))
  · intro a ha
    exact ⟨_, rfl, rfl⟩
  · show some (D.tup _) = _
    unfold trk; rw [List.map_map]; rfl
theorem good_turned {l : List P3} (G : Good l) : Good (l.map fun p => (p.1, 0 - p.2.2, p.2.1)) := by
  refine ⟨by rw [List.length_map]; exact G.ne, by rw [List.length_map]; exact G.le, fun p hp => ?_, ?_⟩
  · obtain ⟨q, hq, rfl⟩ := List.mem_map.mp hp
    obtain ⟨h1, h2, h3, h4, h5, h6⟩ := G.pt q hq
    exact ⟨h1, h2, show -99 ≤ 0 - q.2.2 by omega, show 0 - q.2.2 ≤ 99 by omega, h3, h4⟩
  · have : ∀ l : List P3, Rise l → Rise (l.map fun p => (p.1, 0 - p.2.2, p.2.1)) := by
      intro l
      induction l with
      | nil => intro _; trivial
      | cons a r ih =>
        intro h
        cases r with
        | nil => trivial
        | cons b r => exact ⟨h.1, ih h.2⟩
    exact this l G.up
theorem rise_map {f : P3 → P3} (h : ∀ p q : P3, p.1 < q.1 → (f p).1 < (f q).1) : ∀ l : List P3, Rise l → Rise (l.map f)
  | [], _ => trivial
  | [_], _ => trivial
  | a :: b :: r, g => ⟨h a b g.1, rise_map h (b :: r) g.2⟩
theorem shifted_ok {l : List P3} {r u : Int} (G : Good l) (hr : -198 ≤ r ∧ r ≤ 198) (hu : -198 ≤ u ∧ u ≤ 198) (G' : Good (l.map fun p => (p.1, p.2.1 + r, p.2.2 + u))) :
    f_shifted [trk l, .int r, .int u] = .ok (trk (l.map fun p => (p.1, p.2.1 + r, p.2.2 + u))) := by
  refine rcall rfl (rexpr (ec (lc rfl l0) (look_ok G)) (riteF (enT (e1 (ecomp [r, u] D.int (fun _ => .bl true) rfl (by simp) ?_) rfl)) (rret (ec (lc (e1 (ecomp l ptD (fun p => ptD (p.1, p.2.1 + r, p.2.2 + u)) rfl (by have := G.le; omega) ?_) ?_) l0) (looked_ok G')))))
  · intro a ha
    refine ⟨_, rfl, ec (lc rfl (lc (emul (e1 ki rfl) rfl (mul_small (by decide))) (lc (emul ki rfl (mul_small (by decide))) l0))) (whole_in ?_ ?_)⟩ <;> (rcases List.mem_cons.mp ha with rfl | ha; omega; rw [List.mem_singleton] at ha; rw [ha]; omega)
  · intro a ha
    exact ⟨_, rfl, rfl⟩
  · show some (D.tup _) = _
    unfold trk; rw [List.map_map]; rfl
def plD (p : P3) : D := .tup [.int p.2.1, .int p.2.2]
theorem places_ok (l : List P3) (h : l.length ≤ 1000) : f_places_of [trk l] = .ok (.lst (l.map plD)) := by
  refine rcall rfl (rret (ecomp l ptD plD rfl h ?_))
  intro a ha
  exact ⟨_, rfl, rfl⟩
end PL

namespace PL
open PySem PySem.Spec PyProof.Rows L2
/-! ## tracks turned about -/
theorem rise_pw : ∀ {l : List P3}, Rise l → l.Pairwise fun p q => p.1 < q.1
  | [], _ => .nil
  | [_], _ => .cons (fun _ h => by cases h) .nil
  | a :: b :: r, h => by
    have ih := rise_pw (l := b :: r) h.2
    refine .cons (fun q hq => ?_) ih
    rcases List.mem_cons.mp hq with rfl | hq
    · exact h.1
    · have := List.rel_of_pairwise_cons ih hq
      have := h.1
      omega
theorem pw_rise : ∀ {l : List P3}, (l.Pairwise fun p q => p.1 < q.1) → Rise l
  | [], _ => trivial
  | [_], _ => trivial
  | a :: b :: r, h => ⟨List.rel_of_pairwise_cons h List.mem_cons_self, pw_rise (List.Pairwise.of_cons h)⟩
theorem pw_ends {l : List P3} {a b : P3} (h : l.Pairwise fun p q => p.1 < q.1) (ha : l.head? = some a) (hb : l.getLast? = some b) : ∀ p ∈ l, a.1 ≤ p.1 ∧ p.1 ≤ b.1 := by
  intro p hp
  constructor
  · cases l with
    | nil => cases hp
    | cons c r =>
      cases ha
      rcases List.mem_cons.mp hp with rfl | hp
      · exact Int.le_refl _
      · exact Int.le_of_lt (List.rel_of_pairwise_cons h hp)
  · obtain ⟨r, e⟩ : ∃ r, l = r ++ [b] := by
      have := List.getLast?_eq_some_iff.mp hb
      exact this
    rw [e] at hp h
    rcases List.mem_append.mp hp with hp | hp
    · exact Int.le_of_lt ((List.pairwise_append.mp h).2.2 p hp b List.mem_cons_self)
    · rw [List.mem_singleton] at hp; rw [hp]; exact Int.le_refl _
theorem atI_last {α : Type} {l : List α} {b : α} (h : l.getLast? = some b) : atI l (-1) = some b := by
  obtain ⟨r, e⟩ := List.getLast?_eq_some_iff.mp h
  subst e
  unfold atI ixN
  rw [if_neg (by decide), if_pos (by rw [List.length_append, List.length_singleton]; omega)]
  show (r ++ [b])[(-1 + ((r ++ [b]).length : Int)).toNat]? = _
  have : (-1 + ((r ++ [b]).length : Int)).toNat = r.length := by rw [List.length_append, List.length_singleton]; omega
  rw [this, List.getElem?_append_right (Nat.le_refl _), Nat.sub_self]; rfl
theorem atI_first {α : Type} {l : List α} {b : α} (h : l.head? = some b) : atI l 0 = some b := by
  cases l with
  | nil => cases h
  | cons a r =>
    cases h
    show atI (b :: r) ((0 : Nat) : Int) = _
    rw [atN]; rfl
theorem getLast_map {α β : Type} (f : α → β) {l : List α} {b : α} (h : l.getLast? = some b) : (l.map f).getLast? = some (f b) := by
  rw [List.getLast?_map, h]; rfl
theorem head_map {α β : Type} (f : α → β) {l : List α} {b : α} (h : l.head? = some b) : (l.map f).head? = some (f b) := by
  rw [List.head?_map, h]; rfl
theorem backwards_ok {l : List P3} {a b : P3} (G : Good l) (ha : l.head? = some a) (hb : l.getLast? = some b) : f_backwards [trk l] = .ok (trk (l.reverse.map fun p => (a.1 + b.1 - p.1, p.2.1, p.2.2))) := by
  refine rcall rfl (rexpr (ec (lc rfl l0) (look_ok G)) (rset (d := .int (a.1 + b.1)) (eadd (e2 (e2 (x := trk l) rfl ki (atI_first (head_map ptD ha))) ki rfl) (e2 (e2 (x := trk l) rfl (e1 ki rfl) (atI_last (getLast_map ptD hb))) ki rfl)) rfl (rret (e1 (ecomp l.reverse ptD (fun p => ptD (a.1 + b.1 - p.1, p.2.1, p.2.2)) ?_ (by rw [List.length_reverse]; have := G.le; omega) ?_) ?_))))
  · show Res.ok ((l.map ptD).reverse) = _
    rw [List.map_reverse]
  · intro a ha
    exact ⟨_, rfl, rfl⟩
  · show some (D.tup _) = _
    unfold trk; rw [List.map_map]; rfl
theorem good_back {l : List P3} {a b : P3} (G : Good l) (ha : l.head? = some a) (hb : l.getLast? = some b) : Good (l.reverse.map fun p => (a.1 + b.1 - p.1, p.2.1, p.2.2)) := by
  have pw := rise_pw G.up
  have en := pw_ends pw ha hb
  have ia : InPt a := G.pt a (List.mem_of_head? ha)
  have ib : InPt b := G.pt b (List.mem_of_getLast? hb)
  refine ⟨by rw [List.length_map, List.length_reverse]; exact G.ne, by rw [List.length_map, List.length_reverse]; exact G.le, fun p hp => ?_, pw_rise ?_⟩
  · obtain ⟨q, hq, rfl⟩ := List.mem_map.mp hp
    have hq := List.mem_reverse.mp hq
    obtain ⟨h1, h2⟩ := en q hq
    have := ia.1
    have := ib.2.1
    exact ⟨show 0 ≤ a.1 + b.1 - q.1 by omega, show a.1 + b.1 - q.1 ≤ 999 by omega, (G.pt q hq).2.2⟩
  · rw [List.pairwise_map, List.pairwise_reverse]
    exact pw.imp fun {p q} h => show a.1 + b.1 - q.1 < a.1 + b.1 - p.1 by omega
theorem irng {as : EL} {ρ : En} {ds es : List D} (h : evL as ρ = .ok ds) (h2 : rngD ds = .ok es) : evI (.rng as) ρ = .ok es := by
  show (evL as ρ).bind rngD = _
  rw [h]; exact h2
/-! ## drawn tracks of small steps -/
def sel3 (a b c j : Int) : Int := if j = 0 then a else if j = 1 then b else c
theorem ix3 (a b c : Int) {j : Int} (h1 : 0 ≤ j) (h2 : j < 3) : opIx (.lst [.int a, .int b, .int c]) (.int j) = some (.int (sel3 a b c j)) := by
  have : j = 0 ∨ j = 1 ∨ j = 2 := by omega
  rcases this with rfl | rfl | rfl <;> rfl
def smallW (ns : List Int) (at_ : Int) : Int := sel3 2 3 7 (pickI ns (at_ + 1) 3)
theorem smallW_is (ns : List Int) (at_ : Int) : smallW ns at_ = 2 ∨ smallW ns at_ = 3 ∨ smallW ns at_ = 7 := by
  unfold smallW sel3
  split
  · exact .inl rfl
  · split
    · exact .inr (.inl rfl)
    · exact .inr (.inr rfl)
def smallL (ns : List Int) (at_ : Int) : Nat → Nat → Int → Int → List P3
  | _, 0, _, _ => []
  | k, m + 1, x, y => (2 * (k : Int) + 1, x, y) :: smallL ns at_ (k + 1) m (x + pickI ns (at_ + 2 * k + 2) (smallW ns at_) - smallW ns at_ / 2) (y + pickI ns (at_ + 2 * k + 3) (smallW ns at_) - smallW ns at_ / 2)
theorem small_step (ns : List Int) (at_ : Int) (most : Sl) (h0 : 0 ≤ at_) (h1 : at_ < 100000) (l : List D) (hl : l.length < sizeD) (x y : Int) (k : Nat) (hk : k < 1000) (B : Sl) :
    PL.run (S.loop (S.drop b__law_small 1)) [.ro (.scr ns), .ro (.int at_), most, .own l, .ro (.int x), .ro (.int y), .ro (.int (k : Nat)), B] = .nx [.ro (.scr ns), .ro (.int at_), most, .own (l ++ [ptD (2 * (k : Int) + 1, x, y)]), .ro (.int (x + pickI ns (at_ + 2 * k + 2) (smallW ns at_) - smallW ns at_ / 2)), .ro (.int (y + pickI ns (at_ + 2 * k + 3) (smallW ns at_) - smallW ns at_ / 2)), .ro (.int (k : Nat)), .ro (.int (smallW ns at_))] := by
  have hw : 0 < smallW ns at_ := by rcases smallW_is ns at_ with h | h | h <;> rw [h] <;> decide
  have hp := pickI_nn ns (at_ + 1) (m := 3) (by decide)
  have hp2 := pickI_lt ns (at_ + 1) (m := 3) (by decide)
  refine rapp (d := ptD (2 * (k : Int) + 1, x, y)) rfl (en (lc (eadd (emul ki rfl (mul_small (by decide))) ki) (lc rfl (lc rfl l0))) rfl) rfl hl ?_
  refine rset (e2 (en (lc ki (lc ki (lc ki l0))) rfl) (ec (lc rfl (lc (eadd rfl ki) (lc ki l0))) (pick_ok (by omega) (by omega) (by decide))) (ix3 2 3 7 hp hp2)) rfl ?_
  refine rset (esub (eadd rfl (ec (lc rfl (lc (eadd (eadd rfl (emul ki rfl (mul_small (by decide)))) ki) (lc rfl l0))) (pick_ok (by omega) (by omega) hw))) (efdv rfl ki (div_small (by decide) (by decide)))) rfl ?_
  refine rset (esub (eadd rfl (ec (lc rfl (lc (eadd (eadd rfl (emul ki rfl (mul_small (by decide)))) ki) (lc rfl l0))) (pick_ok (by omega) (by omega) hw))) (efdv rfl ki (div_small (by decide) (by decide)))) rfl ?_
  rfl
theorem small_loop (ns : List Int) (at_ : Int) (most : Sl) (h0 : 0 ≤ at_) (h1 : at_ < 100000) (f : SE → Out) (hf : f = fun s => PL.run (S.loop (S.drop b__law_small 1)) s) : ∀ (m k : Nat), k + m < 1000 → ∀ (l : List D) (x y : Int) (A B : Sl), l.length + m < 1000 →
    ∃ A' B' C' D', forM f (.name 6) ((List.range' k m).map fun (i : Nat) => D.int (0 + (i : Int))) [.ro (.scr ns), .ro (.int at_), most, .own l, .ro (.int x), .ro (.int y), A, B] = .nx [.ro (.scr ns), .ro (.int at_), most, .own (l ++ (smallL ns at_ k m x y).map ptD), A', B', C', D'] := by
  intro m
  induction m with
  | zero =>
    intro k _ l x y A B _
    refine ⟨.ro (.int x), .ro (.int y), A, B, ?_⟩
    show Out.nx _ = _
    show _ = Out.nx [_, _, _, .own (l ++ []), _, _, _, _]
    rw [List.append_nil]
  | succ m ih =>
    intro k hk l x y A B hl
    obtain ⟨A', B', C', D', e⟩ := ih (k + 1) (by omega) (l ++ [ptD (2 * (k : Int) + 1, x, y)]) (x + pickI ns (at_ + 2 * k + 2) (smallW ns at_) - smallW ns at_ / 2) (y + pickI ns (at_ + 2 * k + 3) (smallW ns at_) - smallW ns at_ / 2) (.ro (.int (k : Nat))) (.ro (.int (smallW ns at_))) (by rw [List.length_append, List.length_singleton]; omega)
    refine ⟨A', B', C', D', ?_⟩
    have st := small_step ns at_ most h0 h1 l (by unfold sizeD; omega) x y k (by omega) B
    have kk : (0 + (k : Int)) = (k : Int) := by omega
    show seqO (f [.ro (.scr ns), .ro (.int at_), most, .own l, .ro (.int x), .ro (.int y), .ro (.int (0 + (k : Int))), B]) (forM f (.name 6) ((List.range' (k + 1) m).map fun (i : Nat) => D.int (0 + (i : Int)))) = _
    rw [kk]
    have fe : f [.ro (.scr ns), .ro (.int at_), most, .own l, .ro (.int x), .ro (.int y), .ro (.int (k : Int)), B] = PL.run (S.loop (S.drop b__law_small 1)) [.ro (.scr ns), .ro (.int at_), most, .own l, .ro (.int x), .ro (.int y), .ro (.int (k : Nat)), B] := by rw [hf]
    rw [fe, st]
    show forM f (.name 6) _ _ = _
    rw [e]
    show _ = Out.nx [_, _, _, .own (l ++ (ptD _ :: _)), _, _, _, _]
    rw [List.append_assoc]; rfl
def smallT (ns : List Int) (at_ most : Int) : List P3 := smallL ns at_ 0 (1 + pickI ns at_ most).toNat 0 0
theorem small_ok {ns : List Int} {at_ most : Int} (h0 : 0 ≤ at_) (h1 : at_ < 100000) (hm : 0 < most) (hm2 : most ≤ 12) : f__law_small [.scr ns, .int at_, .int most] = .ok (trk (smallT ns at_ most)) := by
  have a := pickI_nn ns at_ hm
  have b := pickI_lt ns at_ hm
  have hz : okZ (1 + pickI ns at_ most) = true := by unfold okZ; rw [decide_eq_true (by omega), decide_eq_true (by omega)]; rfl
  obtain ⟨A', B', C', D', e⟩ := small_loop ns at_ (.ro (.int most)) h0 h1 _ rfl (1 + pickI ns at_ most).toNat 0 (by omega) [] 0 0 .no .no (by simp only [List.length_nil]; omega)
  refine rcall rfl (rpar (lc rfl (lc ki (lc ki l0))) rfl (rfor (ds := (List.range' 0 (1 + pickI ns at_ most).toNat).map fun (i : Nat) => D.int (0 + (i : Int))) ?_ e (rret (e1 rfl rfl))))
  refine irng (lc (eadd ki (ec (lc rfl (lc rfl (lc rfl l0))) (pick_ok h0 (by omega) hm))) l0) ?_
  show (if okZ (1 + pickI ns at_ most) = true then Res.ok (rangeD 0 (1 + pickI ns at_ most)) else Res.stuck) = _
  rw [if_pos hz]
  unfold rangeD
  rw [Int.sub_zero, List.range_eq_range']
theorem smallL_len (ns : List Int) (at_ : Int) : ∀ (m k : Nat) (x y : Int), (smallL ns at_ k m x y).length = m
  | 0, _, _, _ => rfl
  | m + 1, k, x, y => by show (smallL ns at_ (k + 1) m _ _).length + 1 = _; rw [smallL_len ns at_ m]
theorem smallL_pt (ns : List Int) (at_ : Int) : ∀ (m k : Nat) (x y B : Int), -B ≤ x → x ≤ B → -B ≤ y → y ≤ B → ∀ p ∈ smallL ns at_ k m x y, 2 * (k : Int) + 1 ≤ p.1 ∧ p.1 ≤ 2 * ((k : Int) + m) - 1 ∧ -(B + 3 * m) ≤ p.2.1 ∧ p.2.1 ≤ B + 3 * m ∧ -(B + 3 * m) ≤ p.2.2 ∧ p.2.2 ≤ B + 3 * m
  | 0, _, _, _, _, _, _, _, _, p, hp => by cases hp
  | m + 1, k, x, y, B, h1, h2, h3, h4, p, hp => by
    rcases List.mem_cons.mp (show p ∈ (2 * (k : Int) + 1, x, y) :: smallL ns at_ (k + 1) m _ _ from hp) with rfl | hp
    · refine ⟨show 2 * (k : Int) + 1 ≤ 2 * (k : Int) + 1 by omega, show 2 * (k : Int) + 1 ≤ _ by omega, show -(B + 3 * ((m + 1 : Nat) : Int)) ≤ x by omega, show x ≤ _ by omega, show _ ≤ y by omega, show y ≤ _ by omega⟩
    · have hw := smallW_is ns at_
      have w0 : 0 < smallW ns at_ := by omega
      have a1 := pickI_nn ns (at_ + 2 * k + 2) w0
      have a2 := pickI_lt ns (at_ + 2 * k + 2) w0
      have a3 := pickI_nn ns (at_ + 2 * k + 3) w0
      have a4 := pickI_lt ns (at_ + 2 * k + 3) w0
      have := smallL_pt ns at_ m (k + 1) _ _ (B + 3) (by omega) (by omega) (by omega) (by omega) p hp
      omega
theorem smallL_rise (ns : List Int) (at_ : Int) : ∀ (m k : Nat) (x y : Int), Rise (smallL ns at_ k m x y)
  | 0, _, _, _ => trivial
  | 1, _, _, _ => trivial
  | m + 2, k, x, y => ⟨show 2 * (k : Int) + 1 < 2 * ((k + 1 : Nat) : Int) + 1 by omega, smallL_rise ns at_ (m + 1) (k + 1) _ _⟩
theorem smallT_pt {ns : List Int} {at_ most : Int} (hm : 0 < most) (hm2 : most ≤ 12) : ∀ p ∈ smallT ns at_ most, 1 ≤ p.1 ∧ p.1 ≤ 23 ∧ -36 ≤ p.2.1 ∧ p.2.1 ≤ 36 ∧ -36 ≤ p.2.2 ∧ p.2.2 ≤ 36 := by
  intro p hp
  have a := pickI_nn ns at_ hm
  have b := pickI_lt ns at_ hm
  have := smallL_pt ns at_ (1 + pickI ns at_ most).toNat 0 0 0 0 (by omega) (by omega) (by omega) (by omega) p hp
  omega
theorem smallT_good {ns : List Int} {at_ most : Int} (hm : 0 < most) (hm2 : most ≤ 12) : Good (smallT ns at_ most) := by
  have a := pickI_nn ns at_ hm
  have b := pickI_lt ns at_ hm
  refine ⟨by unfold smallT; rw [smallL_len]; omega, by unfold smallT; rw [smallL_len]; omega, fun p hp => ?_, smallL_rise ns at_ _ _ _ _⟩
  have := smallT_pt (ns := ns) (at_ := at_) hm hm2 p hp
  unfold InPt
  omega
end PL

namespace PL
open PySem PySem.Spec PyProof.Rows L2
/-! ## data that can be compared -/
structure Sh (n : Nat) (d : D) : Prop where
  pl : d.pl = true
  lay : d.py.canLay0 = true
  dep : d.py.depth ≤ n
theorem sh_all {n : Nat} : ∀ {l : List D}, (∀ d ∈ l, Sh n d) → plAll l = true ∧ PyData.canLayAll0 (pyAll l) = true ∧ PyData.depthAll (pyAll l) ≤ n
  | [], _ => ⟨rfl, rfl, Nat.zero_le n⟩
  | d :: l, h => by
    obtain ⟨a, b, c⟩ := sh_all (l := l) fun x hx => h x (List.mem_cons_of_mem _ hx)
    have q := h d List.mem_cons_self
    refine ⟨?_, ?_, ?_⟩
    · show (d.pl && plAll l) = true; rw [q.pl, a]; rfl
    · show (PyData.canLay0 d.py && PyData.canLayAll0 (pyAll l)) = true; rw [q.lay, b]; rfl
    · show max d.py.depth (PyData.depthAll (pyAll l)) ≤ n; exact Nat.max_le.mpr ⟨q.dep, c⟩
theorem Sh.lst {n : Nat} {l : List D} (h : ∀ d ∈ l, Sh n d) : Sh (n + 1) (.lst l) := by
  obtain ⟨a, b, c⟩ := sh_all h
  exact ⟨a, b, Nat.succ_le_succ c⟩
theorem Sh.tup {n : Nat} {l : List D} (h : ∀ d ∈ l, Sh n d) : Sh (n + 1) (.tup l) := by
  obtain ⟨a, b, c⟩ := sh_all h
  exact ⟨a, b, Nat.succ_le_succ c⟩
theorem Sh.int (n : Nat) (i : Int) : Sh n (.int i) := ⟨rfl, rfl, Nat.zero_le n⟩
theorem Sh.shp {n : Nat} {d : D} (h : Sh n d) (hn : n ≤ 64) : shp d = true := by
  unfold PL.shp SeqAt.shaped
  rw [h.pl, h.lay, decide_eq_true (Nat.le_trans h.dep hn)]; rfl
theorem ne_refl {n : Nat} {d : D} (h : Sh n d) (hn : n ≤ 64) : opNe d d = some (.bl false) := by
  unfold opNe deq
  rw [h.shp hn, SeqAt.eqv_refl d.py h.lay]; rfl
theorem eq_refl {n : Nat} {d : D} (h : Sh n d) (hn : n ≤ 64) : opEq d d = some (.bl true) := by
  unfold opEq deq
  rw [h.shp hn, SeqAt.eqv_refl d.py h.lay]; rfl
/-! ## places by number -/
def at3 (l : List P3) (i : Nat) : P3 := l.getD i (0, 0, 0)
theorem ix_lst {α : Type} {l : List α} {f : α → D} {j : Int} {i : Nat} {a : α} (hj : j = (i : Int)) (h : l[i]? = some a) : opIx (.lst (l.map f)) (.int j) = some (f a) := by
  show atI (l.map f) j = _
  rw [hj, atN, List.getElem?_map, h]; rfl
theorem ix_tup {α : Type} {l : List α} {f : α → D} {j : Int} {i : Nat} {a : α} (hj : j = (i : Int)) (h : l[i]? = some a) : opIx (.tup (l.map f)) (.int j) = some (f a) := by
  show atI (l.map f) j = _
  rw [hj, atN, List.getElem?_map, h]; rfl
theorem at3_get {l : List P3} {i : Nat} (h : i < l.length) : l[i]? = some (at3 l i) := by
  unfold at3
  rw [List.getD_eq_getElem?_getD, List.getElem?_eq_getElem h]; rfl
theorem at3_map {l : List P3} {i : Nat} (f : P3 → P3) (h : i < l.length) : at3 (l.map f) i = f (at3 l i) := by
  unfold at3
  rw [List.getD_eq_getElem?_getD, List.getD_eq_getElem?_getD, List.getElem?_map, List.getElem?_eq_getElem h]; rfl
theorem at3_rev {l : List P3} {i : Nat} (h : i < l.length) : at3 l.reverse i = at3 l (l.length - 1 - i) := by
  unfold at3
  rw [List.getD_eq_getElem?_getD, List.getD_eq_getElem?_getD, List.getElem?_reverse h]
theorem at3_mem {l : List P3} {i : Nat} (h : i < l.length) : at3 l i ∈ l := List.mem_of_getElem? (at3_get h)
theorem good_take {l : List P3} (G : Good l) {k : Nat} (h : 1 ≤ k) : Good (l.take k) := by
  have := G.ne
  have := G.le
  refine ⟨by rw [List.length_take]; omega, by rw [List.length_take]; omega, fun p hp => G.pt p (List.mem_of_mem_take hp), pw_rise ((rise_pw G.up).sublist (List.take_sublist k l))⟩
theorem cut_trk {l : List P3} (k : Nat) : opSlU (trk l) (.int (k : Int)) = some (trk (l.take k)) := by
  show some (D.tup (cutG (l.map ptD) none (some (k : Int)))) = _
  rw [cut_hi, ← List.map_take]; rfl
theorem Good.mul {l : List P3} (G : Good l) {i : Nat} (h : i < l.length) : InPt (at3 l i) := G.pt _ (at3_mem h)
end PL

namespace PL
open PySem PySem.Spec PyProof.Rows L2
/-! ## drawn tracks -/
def clip (v : Int) : Int := if (if v < 99 then v else 99) > -99 then (if v < 99 then v else 99) else -99
theorem clip_in (v : Int) : -99 ≤ clip v ∧ clip v ≤ 99 := by
  unfold clip
  split
  · split at * <;> omega
  · omega
theorem eclip {a : E} {ρ : En} {v : Int} (h : ev a ρ = .ok (.int v)) : ev (.prim pMax2 (.cons (.prim pNeg (.cons (.c (.int 99)) .nil)) (.cons (.prim pMin2 (.cons (.c (.int 99)) (.cons a .nil))) .nil))) ρ = .ok (.int (clip v)) :=
  e2 (e1 ki rfl) (e2 ki h rfl) rfl
def tStep (ns : List Int) (at_ k t : Int) : Int := t + 1 + pickI ns (at_ + 5 * k) (sel3 2 6 40 (pickI ns (at_ + 80 + k) 3))
def xStep (ns : List Int) (at_ w k j x : Int) : Int := if pickI ns (at_ + 5 * k + 3) 4 = 0 then x else clip (x + pickI ns (at_ + 5 * k + j) (2 * w + 1) - w)
def trackL (ns : List Int) (at_ w : Int) : Nat → Nat → Int → Int → Int → List P3
  | _, 0, _, _, _ => []
  | i, m + 1, t, x, y => (tStep ns at_ (1 + i) t, xStep ns at_ w (1 + i) 1 x, xStep ns at_ w (1 + i) 2 y) :: trackL ns at_ w (i + 1) m (tStep ns at_ (1 + i) t) (xStep ns at_ w (1 + i) 1 x) (xStep ns at_ w (1 + i) 2 y)
theorem sel3_in (a b c j : Int) : sel3 a b c j = a ∨ sel3 a b c j = b ∨ sel3 a b c j = c := by
  unfold sel3
  split
  · exact .inl rfl
  · split
    · exact .inr (.inl rfl)
    · exact .inr (.inr rfl)
theorem track_step (ns : List Int) (at_ w : Int) (h0 : 0 ≤ at_) (h1 : at_ < 100000) (hw : 0 ≤ w ∧ w ≤ 100) (most many : Sl) (l : List D) (hl : l.length < sizeD) (t x y : Int) (hlast : l.getLast? = some (ptD (t, x, y))) (i : Nat) (hi : i < 1000) :
    PL.run (S.loop (S.drop b__law_track 5)) [.ro (.scr ns), .ro (.int at_), most, many, .ro (.int w), .ro (.int t), .ro (.int x), .ro (.int y), .own l, .ro (.int (1 + (i : Int)))] =
      .nx [.ro (.scr ns), .ro (.int at_), most, many, .ro (.int w), .ro (.int (tStep ns at_ (1 + i) t)), .ro (.int (xStep ns at_ w (1 + i) 1 x)), .ro (.int (xStep ns at_ w (1 + i) 2 y)), .own (l ++ [ptD (tStep ns at_ (1 + i) t, xStep ns at_ w (1 + i) 1 x, xStep ns at_ w (1 + i) 2 y)]), .ro (.int (1 + (i : Int)))] := by
  have p1 := pickI_nn ns (at_ + 80 + (1 + (i : Int))) (m := 3) (by decide)
  have p2 := pickI_lt ns (at_ + 80 + (1 + (i : Int))) (m := 3) (by decide)
  have s1 := sel3_in 2 6 40 (pickI ns (at_ + 80 + (1 + (i : Int))) 3)
  refine rset (d := .int (tStep ns at_ (1 + i) t)) (eadd (eadd rfl ki) (ec (lc rfl (lc (eadd rfl (emul ki rfl (mul_small (by decide)))) (lc (e2 (en (lc ki (lc ki (lc ki l0))) rfl) (ec (lc rfl (lc (eadd (eadd rfl ki) rfl) (lc ki l0))) (pick_ok (by omega) (by omega) (by decide))) (ix3 2 6 40 p1 p2)) l0))) (pick_ok (by omega) (by omega) (by omega)))) rfl ?_
  refine rset (eclip (esub (eadd rfl (ec (lc rfl (lc (eadd (eadd rfl (emul ki rfl (mul_small (by decide)))) ki) (lc (eadd (emul ki rfl (mul_small (by decide))) ki) l0))) (pick_ok (by omega) (by omega) (by omega)))) rfl)) rfl ?_
  refine rset (eclip (esub (eadd rfl (ec (lc rfl (lc (eadd (eadd rfl (emul ki rfl (mul_small (by decide)))) ki) (lc (eadd (emul ki rfl (mul_small (by decide))) ki) l0))) (pick_ok (by omega) (by omega) (by omega)))) rfl)) rfl ?_
  refine rite (e2 (ec (lc rfl (lc (eadd (eadd rfl (emul ki rfl (mul_small (by decide)))) ki) (lc ki l0))) (pick_ok (by omega) (by omega) (by decide))) ki (o_eqI _ 0)) ?_
  unfold xStep
  by_cases z : pickI ns (at_ + 5 * (1 + (i : Int)) + 3) 4 = 0
  · rw [decide_eq_true z, if_pos z, if_pos z, if_pos rfl]
    have u : PL.run (S.yes (S.drop (S.loop (S.drop b__law_track 5)) 3)) [.ro (.scr ns), .ro (.int at_), most, many, .ro (.int w), .ro (.int (tStep ns at_ (1 + i) t)), .ro (.int (clip (x + pickI ns (at_ + 5 * (1 + (i : Int)) + 1) (2 * w + 1) - w))), .ro (.int (clip (y + pickI ns (at_ + 5 * (1 + (i : Int)) + 2) (2 * w + 1) - w))), .own l, .ro (.int (1 + (i : Int)))] = .nx [.ro (.scr ns), .ro (.int at_), most, many, .ro (.int w), .ro (.int (tStep ns at_ (1 + i) t)), .ro (.int x), .ro (.int y), .own l, .ro (.int (1 + (i : Int)))] := by
      refine runp (d := .tup [.int x, .int y]) (e2 (e2 (x := .lst l) rfl (e1 ki rfl) (atI_last hlast)) ki rfl) rfl rfl
    refine (congrArg (fun o => seqO o _) u).trans ?_
    exact rapp (d := ptD (tStep ns at_ (1 + i) t, x, y)) rfl rfl rfl hl rfl
  · rw [decide_eq_false z, if_neg z, if_neg z, if_neg Bool.false_ne_true]
    exact rapp (d := ptD (tStep ns at_ (1 + i) t, clip (x + pickI ns (at_ + 5 * (1 + (i : Int)) + 1) (2 * w + 1) - w), clip (y + pickI ns (at_ + 5 * (1 + (i : Int)) + 2) (2 * w + 1) - w))) rfl rfl rfl hl rfl
theorem track_loop (ns : List Int) (at_ w : Int) (h0 : 0 ≤ at_) (h1 : at_ < 100000) (hw : 0 ≤ w ∧ w ≤ 100) (most many : Sl) (f : SE → Out) (hf : f = fun s => PL.run (S.loop (S.drop b__law_track 5)) s) : ∀ (m i : Nat), i + m < 1000 → ∀ (l : List D) (t x y : Int) (K : Sl), l.length + m < 1000 → l.getLast? = some (ptD (t, x, y)) →
    ∃ A' B' C' K', forM f (.name 9) ((List.range' i m).map fun (j : Nat) => D.int (1 + (j : Int))) [.ro (.scr ns), .ro (.int at_), most, many, .ro (.int w), .ro (.int t), .ro (.int x), .ro (.int y), .own l, K] = .nx [.ro (.scr ns), .ro (.int at_), most, many, .ro (.int w), A', B', C', .own (l ++ (trackL ns at_ w i m t x y).map ptD), K'] := by
  intro m
  induction m with
  | zero =>
    intro i _ l t x y K _ _
    refine ⟨.ro (.int t), .ro (.int x), .ro (.int y), K, ?_⟩
    show Out.nx _ = Out.nx [_, _, _, _, _, _, _, _, .own (l ++ []), _]
    rw [List.append_nil]
  | succ m ih =>
    intro i hi l t x y K hl hlast
    obtain ⟨A', B', C', K', e⟩ := ih (i + 1) (by omega) (l ++ [ptD (tStep ns at_ (1 + i) t, xStep ns at_ w (1 + i) 1 x, xStep ns at_ w (1 + i) 2 y)]) (tStep ns at_ (1 + i) t) (xStep ns at_ w (1 + i) 1 x) (xStep ns at_ w (1 + i) 2 y) (.ro (.int (1 + (i : Int)))) (by rw [List.length_append, List.length_singleton]; omega) (by rw [List.getLast?_append]; rfl)
    refine ⟨A', B', C', K', ?_⟩
    have st := track_step ns at_ w h0 h1 hw most many l (by unfold sizeD; omega) t x y hlast i (by omega)
    have fe : f [.ro (.scr ns), .ro (.int at_), most, many, .ro (.int w), .ro (.int t), .ro (.int x), .ro (.int y), .own l, .ro (.int (1 + (i : Int)))] = PL.run (S.loop (S.drop b__law_track 5)) [.ro (.scr ns), .ro (.int at_), most, many, .ro (.int w), .ro (.int t), .ro (.int x), .ro (.int y), .own l, .ro (.int (1 + (i : Int)))] := by rw [hf]
    show seqO (f [.ro (.scr ns), .ro (.int at_), most, many, .ro (.int w), .ro (.int t), .ro (.int x), .ro (.int y), .own l, .ro (.int (1 + (i : Int)))]) (forM f (.name 9) ((List.range' (i + 1) m).map fun (j : Nat) => D.int (1 + (j : Int)))) = _
    rw [fe, st]
    show forM f (.name 9) _ _ = _
    rw [e, List.append_assoc]; rfl
def trackT (ns : List Int) (at_ most : Int) : List P3 :=
  (pickI ns (at_ + 2) 20, pickI ns (at_ + 3) 21 - 10, pickI ns (at_ + 4) 21 - 10) :: trackL ns at_ (sel3 2 5 30 (pickI ns (at_ + 1) 3)) 0 (pickI ns at_ most).toNat (pickI ns (at_ + 2) 20) (pickI ns (at_ + 3) 21 - 10) (pickI ns (at_ + 4) 21 - 10)
theorem drawn_ok {ns : List Int} {at_ most : Int} (h0 : 0 ≤ at_) (h1 : at_ < 100000) (hm : 0 < most) (hm2 : most ≤ 12) : f__law_track [.scr ns, .int at_, .int most] = .ok (trk (trackT ns at_ most)) := by
  have a := pickI_nn ns at_ hm
  have b := pickI_lt ns at_ hm
  have p1 := pickI_nn ns (at_ + 1) (m := 3) (by decide)
  have p2 := pickI_lt ns (at_ + 1) (m := 3) (by decide)
  have s1 := sel3_in 2 5 30 (pickI ns (at_ + 1) 3)
  have hz : okZ (1 + pickI ns at_ most) = true := by unfold okZ; rw [decide_eq_true (by omega), decide_eq_true (by omega)]; rfl
  obtain ⟨A', B', C', K', e⟩ := track_loop ns at_ (sel3 2 5 30 (pickI ns (at_ + 1) 3)) h0 h1 (by omega) (.ro (.int most)) (.ro (.int (1 + pickI ns at_ most))) _ rfl (pickI ns at_ most).toNat 0 (by omega) [ptD (pickI ns (at_ + 2) 20, pickI ns (at_ + 3) 21 - 10, pickI ns (at_ + 4) 21 - 10)] (pickI ns (at_ + 2) 20) (pickI ns (at_ + 3) 21 - 10) (pickI ns (at_ + 4) 21 - 10) .no (by rw [List.length_singleton]; omega) rfl
  refine rcall rfl (rset (eadd ki (ec (lc rfl (lc rfl (lc rfl l0))) (pick_ok h0 (by omega) hm))) rfl ?_)
  refine rset (e2 (en (lc ki (lc ki (lc ki l0))) rfl) (ec (lc rfl (lc (eadd rfl ki) (lc ki l0))) (pick_ok (by omega) (by omega) (by decide))) (ix3 2 5 30 p1 p2)) rfl ?_
  refine rset (ec (lc rfl (lc (eadd rfl ki) (lc ki l0))) (pick_ok (by omega) (by omega) (by decide))) rfl ?_
  refine rpar (lc (esub (ec (lc rfl (lc (eadd rfl ki) (lc ki l0))) (pick_ok (by omega) (by omega) (by decide))) ki) (lc (esub (ec (lc rfl (lc (eadd rfl ki) (lc ki l0))) (pick_ok (by omega) (by omega) (by decide))) ki) l0)) rfl ?_
  refine rown (l := [ptD (pickI ns (at_ + 2) 20, pickI ns (at_ + 3) 21 - 10, pickI ns (at_ + 4) 21 - 10)]) rfl rfl ?_
  refine rfor (ds := (List.range' 0 (pickI ns at_ most).toNat).map fun (j : Nat) => D.int (1 + (j : Int))) ?_ e (rret (e1 rfl rfl))
  refine irng (lc ki (lc rfl l0)) ?_
  show (if (okZ 1 && okZ (1 + pickI ns at_ most)) = true then Res.ok (rangeD 1 (1 + pickI ns at_ most)) else Res.stuck) = _
  rw [hz]
  show Res.ok (rangeD 1 (1 + pickI ns at_ most)) = _
  unfold rangeD
  have : (1 + pickI ns at_ most - 1).toNat = (pickI ns at_ most).toNat := by omega
  rw [this, List.range_eq_range']
theorem trackL_len (ns : List Int) (at_ w : Int) : ∀ (m i : Nat) (t x y : Int), (trackL ns at_ w i m t x y).length = m
  | 0, _, _, _, _ => rfl
  | m + 1, i, t, x, y => by show (trackL ns at_ w (i + 1) m _ _ _).length + 1 = _; rw [trackL_len ns at_ w m]
theorem tStep_in (ns : List Int) (at_ k t : Int) : t + 1 ≤ tStep ns at_ k t ∧ tStep ns at_ k t ≤ t + 40 := by
  have s1 := sel3_in 2 6 40 (pickI ns (at_ + 80 + k) 3)
  have hp : 0 < sel3 2 6 40 (pickI ns (at_ + 80 + k) 3) := by omega
  have a := pickI_nn ns (at_ + 5 * k) hp
  have b := pickI_lt ns (at_ + 5 * k) hp
  unfold tStep
  omega
theorem xStep_in (ns : List Int) (at_ w k j x : Int) (h : -99 ≤ x ∧ x ≤ 99) : -99 ≤ xStep ns at_ w k j x ∧ xStep ns at_ w k j x ≤ 99 := by
  unfold xStep
  split
  · exact h
  · exact clip_in _
theorem trackL_pt (ns : List Int) (at_ w : Int) : ∀ (m i : Nat) (t x y : Int), (-99 ≤ x ∧ x ≤ 99) → (-99 ≤ y ∧ y ≤ 99) → ∀ p ∈ trackL ns at_ w i m t x y, t + 1 ≤ p.1 ∧ p.1 ≤ t + 40 * m ∧ -99 ≤ p.2.1 ∧ p.2.1 ≤ 99 ∧ -99 ≤ p.2.2 ∧ p.2.2 ≤ 99
  | 0, _, _, _, _, _, _, p, hp => by cases hp
  | m + 1, i, t, x, y, hx, hy, p, hp => by
    have ht := tStep_in ns at_ (1 + i) t
    have hx' := xStep_in ns at_ w (1 + i) 1 x hx
    have hy' := xStep_in ns at_ w (1 + i) 2 y hy
    rcases List.mem_cons.mp hp with rfl | hp
    · exact ⟨ht.1, by show tStep ns at_ (1 + i) t ≤ t + 40 * ((m + 1 : Nat) : Int); omega, hx'.1, hx'.2, hy'.1, hy'.2⟩
    · have := trackL_pt ns at_ w m (i + 1) _ _ _ hx' hy' p hp
      omega
theorem trackL_rise (ns : List Int) (at_ w : Int) : ∀ (m i : Nat) (t x y : Int) (x' y' : Int), Rise ((t, x', y') :: trackL ns at_ w i m t x y)
  | 0, _, _, _, _, _, _ => trivial
  | m + 1, i, t, x, y, x', y' => ⟨by have := (tStep_in ns at_ (1 + i) t).1; show t < tStep ns at_ (1 + i) t; omega, trackL_rise ns at_ w m (i + 1) _ _ _ _ _⟩
theorem trackT_good {ns : List Int} {at_ most : Int} (hm : 0 < most) (hm2 : most ≤ 12) : Good (trackT ns at_ most) := by
  have a := pickI_nn ns at_ hm
  have b := pickI_lt ns at_ hm
  have t1 := pickI_nn ns (at_ + 2) (m := 20) (by decide)
  have t2 := pickI_lt ns (at_ + 2) (m := 20) (by decide)
  have x1 := pickI_nn ns (at_ + 3) (m := 21) (by decide)
  have x2 := pickI_lt ns (at_ + 3) (m := 21) (by decide)
  have y1 := pickI_nn ns (at_ + 4) (m := 21) (by decide)
  have y2 := pickI_lt ns (at_ + 4) (m := 21) (by decide)
  refine ⟨by unfold trackT; rw [List.length_cons, trackL_len]; omega, by unfold trackT; rw [List.length_cons, trackL_len]; omega, fun p hp => ?_, trackL_rise ns at_ _ _ _ _ _ _ _ _⟩
  rcases List.mem_cons.mp hp with rfl | hp
  · exact ⟨t1, by show pickI ns (at_ + 2) 20 ≤ 999; omega, by show -99 ≤ pickI ns (at_ + 3) 21 - 10; omega, by show pickI ns (at_ + 3) 21 - 10 ≤ 99; omega, by show -99 ≤ pickI ns (at_ + 4) 21 - 10; omega, by show pickI ns (at_ + 4) 21 - 10 ≤ 99; omega⟩
  · have := trackL_pt ns at_ _ _ _ _ _ _ (by omega) (by omega) p hp
    unfold InPt
    omega
end PL

namespace PL
open PySem PySem.Spec PyProof.Rows L2
/-! ## more steps -/
theorem ne_nil {n : Nat} {l : List D} (h : ∀ d ∈ l, Sh n d) (hn : n + 1 ≤ 64) : opNe (.lst l) (.lst []) = some (.bl (!l.isEmpty)) := by
  unfold opNe
  rw [(Sh.lst h).shp hn]
  cases l <;> rfl
theorem eq_nil {n : Nat} {l : List D} (h : ∀ d ∈ l, Sh n d) (hn : n + 1 ≤ 64) : opEq (.lst l) (.lst []) = some (.bl l.isEmpty) := by
  unfold opEq
  rw [(Sh.lst h).shp hn]
  cases l <;> rfl
theorem rsix {h : Bool} {s : SE} {i j : Nat} {x e : E} {r : S} {l : List D} {d : D} {k : Int} {o : Out} (hs : s[i]? = some (.own l)) (h1 : ev e (see h s) = .ok d) (hx : ev x (full s) = .ok (.int k)) (hj : ixN l.length k = some j) (ho : okFor h d = true) (h2 : run r (s.set i (.own (l.set j d))) = o) : run (.cons (.six h i x e) r) s = o := by
  refine rc (s' := s.set i (.own (l.set j d))) ?_ h2
  show withOwn s i (fun l => outE (ev e (see h s)) fun d => outE (noExc (ev x (full s))) fun k => sixD h i s l d k) = _
  unfold withOwn
  rw [hs]
  show outE (ev e (see h s)) (fun d => outE (noExc (ev x (full s))) fun k => sixD h i s l d k) = _
  rw [h1, hx]
  show (match ixN l.length k with | some j => if okFor h d = true then Out.nx (s.set i (.own (l.set j d))) else .stuck | none => .stuck) = _
  rw [hj]
  show (if okFor h d = true then _ else _) = _
  rw [if_pos ho]
theorem len_trk (l : List P3) : opLen (trk l) = some (.int (l.length : Nat)) := by
  show some (D.int ((l.map ptD).length : Nat)) = _
  rw [List.length_map]
theorem izip {a b : E} {ρ : En} {x y : D} {ds : List D} (h1 : ev a ρ = .ok x) (h2 : ev b ρ = .ok y) (h : zipItems x y = .ok ds) : evI (.zip a b) ρ = .ok ds := by
  show (ev a ρ).bind (fun x => (ev b ρ).bind fun y => zipItems x y) = _
  rw [h1, h2]; exact h
theorem cut_lo_trk {l : List P3} (k : Nat) : opSlL (trk l) (.int (k : Int)) = some (trk (l.drop k)) := by
  show some (D.tup (cutG (l.map ptD) (some (k : Int)) none)) = _
  rw [cut_lo, ← List.map_drop]; rfl
theorem iseq {a : E} {ρ : En} {x : D} {ds : List D} (h1 : ev a ρ = .ok x) (h : itemsD x = .ok ds) : evI (.seq a) ρ = .ok ds := by
  show (ev a ρ).bind itemsD = _
  rw [h1]; exact h
theorem pt_tail (p : P3) : opSlL (ptD p) (.int 1) = some (plD p) := rfl
theorem compM_filter {α : Type} {F : D → Res (Option D)} (f : α → D) (g : α → Option D) : ∀ (l : List α), (∀ a ∈ l, F (f a) = .ok (g a)) → compM F (l.map f) = .ok (l.filterMap g)
  | [], _ => rfl
  | a :: l, h => by
    show (F (f a)).bind (fun o => (compM F (l.map f)).bind fun out => Res.ok (match o with | some x => x :: out | none => out)) = _
    rw [h a List.mem_cons_self, compM_filter f g l fun b hb => h b (List.mem_cons_of_mem _ hb), List.filterMap_cons]
    cases g a <;> rfl
theorem ecompF {α : Type} {own : List (Str × Nat)} {tg : Tg} {it : IT} {cond elt : E} {ρ : En} (l : List α) (f : α → D) (g : α → Option D) (h1 : evI it ρ = .ok (l.map f)) (hl : l.length ≤ 1000)
    (h : ∀ a ∈ l, ∃ ρ2 k, setTg tg (f a) (wipeD ρ (own.map (·.2))) = .ok ρ2 ∧ ev cond ρ2 = .ok (.bl k) ∧ (k = false → g a = none) ∧ (k = true → ∃ d, ev elt ρ2 = .ok d ∧ g a = some d)) : ev (.comp own tg it (.some cond) elt) ρ = .ok (.lst (l.filterMap g)) := by
  show (evI it ρ).bind (fun ds => if ds.length ≤ sizeD then (compM (fun d => noExc ((setTg tg d (wipeD ρ (own.map (·.2)))).bind fun ρ2 => (evO (.some cond) ρ2).bind fun t => if t then (ev elt ρ2).bind fun x => .ok (some x) else .ok none)) ds).bind fun out => Res.ok (D.lst out) else Res.stuck) = _
  rw [h1]
  show (if (l.map f).length ≤ sizeD then _ else _) = _
  rw [if_pos (by rw [List.length_map]; unfold sizeD; omega), compM_filter f g l]
  · rfl
  · intro a ha
    obtain ⟨ρ2, k, e1, e2, hF, hT⟩ := h a ha
    rw [e1]
    show noExc (((ev cond ρ2).bind truth).bind fun t => if t then (ev elt ρ2).bind fun x => .ok (some x) else .ok none) = _
    rw [e2]
    show noExc (if k then (ev elt ρ2).bind fun x => .ok (some x) else .ok none) = _
    cases k with
    | false => rw [hF rfl]; rfl
    | true =>
      obtain ⟨d, e3, e4⟩ := hT rfl
      rw [if_pos rfl, e3, e4]; rfl
theorem rforO {tg : Tg} {it : IT} {u r : S} {s : SE} {ds : List D} {o : Out} (h1 : evI it (hid s) = .ok ds) (ho : forM (fun s => run u s) tg ds s = o) : run (.cons (.for_ tg it u) r) s = seqO o (fun s => run r s) := by
  show seqO (outE (evI it (hid s)) (fun ds => forM (fun s => run u s) tg ds s)) (fun s => run r s) = _
  rw [h1]
  show seqO (forM (fun s => run u s) tg ds s) _ = _
  rw [ho]
theorem rextd {h : Bool} {e : E} {s : SE} {i : Nat} {r : S} {l es : List D} {o : Out} (hs : s[i]? = some (.own l)) (h1 : ev e (see h s) = .ok (.lst es)) (ho : (h || flatAll es) = true) (hl : l.length + es.length < sizeD) (h2 : run r (s.set i (.own (l ++ es))) = o) : run (.cons (.extd h i e) r) s = o := by
  refine rc (s' := s.set i (.own (l ++ es))) ?_ h2
  show withOwn s i (fun l => outE (ev e (see h s)) fun d => extD h i s l d) = _
  unfold withOwn
  rw [hs]
  show outE (ev e (see h s)) (fun d => extD h i s l d) = _
  rw [h1]
  show (if ((h || flatAll es) && decide (l.length + es.length < sizeD)) = true then _ else _) = _
  rw [ho, decide_eq_true hl]; rfl
theorem sh_pt (p : P3) : Sh 1 (ptD p) := Sh.tup (n := 0) fun d hd => by
  simp only [List.mem_cons, List.not_mem_nil, or_false] at hd
  rcases hd with rfl | rfl | rfl <;> exact Sh.int 0 _
theorem sh_trk (l : List P3) : Sh 2 (trk l) := Sh.tup (n := 1) fun d hd => by
  obtain ⟨p, _, rfl⟩ := List.mem_map.mp hd
  exact sh_pt p
theorem filterMap_ite {α β : Type} (c : α → Bool) (f : α → β) : ∀ l : List α, l.filterMap (fun a => if c a then some (f a) else none) = (l.filter c).map f
  | [] => rfl
  | a :: l => by
    rw [List.filterMap_cons, List.filter_cons, filterMap_ite c f l]
    cases c a <;> rfl
theorem good_sub {l m : List P3} (G : Good l) (s : m.Sublist l) (h : 1 ≤ m.length) : Good m :=
  ⟨h, Nat.le_trans s.length_le G.le, fun p hp => G.pt p (s.subset hp), pw_rise ((rise_pw G.up).sublist s)⟩
theorem eq_trk {l m : List P3} (h : l = m) : opNe (trk l) (trk m) = some (.bl false) := by rw [h]; exact ne_refl (sh_trk m) (by decide)
end PL

namespace PL
open PySem PySem.Spec PyProof.Rows L2
/-! ## sorted(set(xs)), xs a list of pairs of whole numbers of any sign -/
def k2 (ns : List Int) : Int × Int := (ns.getD 0 0, ns.getD 1 0)
section
variable {P : Program} {w : World} {A : Around} {E : Value → Shared → Prop} {s : Shared}
theorem sorted_setP {a : Addr} {L : List (Addr × List Int)} {es : Array (Int × Value)} {ep : Nat} {t : SetTable} {Q : Value → Shared → Prop} (R : SetTR P w s.heap a L es ep t) (hh : A.handled = none)
    (hB : ∀ p ∈ L, p.2.length = 2)
    (hQ : ∀ s' p (out : Array Value) (c : Nat) (L' : List (Addr × List Int)), (∀ b o, s.heap.get? b = some o → s'.heap.get? b = some o) → s'.gens = s.gens → s'.os = s.os → s.heap.objs.size ≤ p →
      s'.heap.get? p = some (seqObj "list" out c) → out.toList = L'.map (fun q => Value.ref q.1) → L'.Perm L → L'.Pairwise (fun q r => ¬ SrtO.lexB (k2 r.2) (k2 q.2) = true) → Q (.ref p) s') :
    wpAny (model P w) A (call (.builtin "sorted") [.ref a]) Q E s := by
  obtain ⟨o, ho, hex, hd⟩ := R.ob
  have hsz := R.size
  have hfew := R.few
  refine Calls.call_function_entry kind_sorted plain_sorted entry_sorted (args_sorted1 _) ?_
  unfold Builtin.«sorted»
  refine wpAny_bind (m := checkCount "sorted" 1 1 _) (wpAny_pure ?_)
  refine wpAny_bind (collect_set (A := A.in1) hh ⟨o, ho, hex.1, hd⟩ R.fits (by unfold scanBound; omega) R.tab.ris R.led fun s1 vs k1 hz g1 o1 pm => ?_)
  have hes : es.toList.map (·.2) = L.map fun q => Value.ref q.1 := by
    rw [R.rows]
    unfold rowsOf
    rw [List.map_map] <;> rfl
  rw [hes] at pm
  have ord : ∀ vs : List Value, (∀ v ∈ vs, ∃ q ∈ L, v = Value.ref q.1) → ∃ L1 : List (Addr × List Int), vs = L1.map (fun q => Value.ref q.1) ∧ ∀ q ∈ L1, q ∈ L := by
    intro vs
    induction vs with
    | nil => intro _; exact ⟨[], rfl, fun q hq => (by cases hq)⟩
    | cons v vs ih =>
      intro hv
      obtain ⟨q, hq, e⟩ := hv v List.mem_cons_self
      obtain ⟨L1, e1, hs⟩ := ih fun u hu => hv u (List.mem_cons_of_mem _ hu)
      refine ⟨q :: L1, by rw [List.map_cons, e, e1], fun r hr => ?_⟩
      rcases List.mem_cons.mp hr with z | z
      · rw [z]; exact hq
      · exact hs r z
  have one : ∀ q ∈ L, ∀ r ∈ L, q.1 = r.1 → q = r := fun q hq r hr e => by
    have a1 := R.tup q hq
    have a2 := R.tup r hr
    rw [e] at a1
    have e2 : q.2 = r.2 := a1.inj a2
    exact Prod.ext e e2
  have perm_of : ∀ L1 : List (Addr × List Int), (∀ q ∈ L1, q ∈ L) → (L1.map (fun q => Value.ref q.1)).Perm (L.map fun q => Value.ref q.1) → L1.Perm L := by
    intro L1 hs pm1
    have nL : L.Nodup := nodup_of_map R.nd
    have nref : (L.map fun q => Value.ref q.1).Nodup := by
      refine List.pairwise_map.mpr (List.Pairwise.imp_of_mem (fun {q r} hq hr hne e => ?_) nL)
      injection e with e
      exact hne (one q hq r hr e)
    have n1 : L1.Nodup := nodup_of_map (pm1.nodup_iff.mpr nref)
    refine (List.perm_ext_iff_of_nodup n1 nL).mpr fun q => ⟨hs q, fun hq => ?_⟩
    have hm : Value.ref q.1 ∈ L1.map (fun q => Value.ref q.1) := pm1.mem_iff.mpr (List.mem_map.mpr ⟨q, hq, rfl⟩)
    obtain ⟨r, hr, e⟩ := List.mem_map.mp hm
    injection e with e
    rw [← one r (hs r hr) q hq e]
    exact hr
  have hvl : vs.length < 64 := by rw [pm.length_eq, List.length_map]; exact hfew
  have hvz : vs.length ≤ sizeLine := by rw [sizeLine_eq]; omega
  refine wpAny_bind (wpAny_newList ?_ hvz)
  have hoL : (s1.heap.push (seqObj "list" vs.toArray 0)).get? s1.heap.objs.size = some (seqObj "list" vs.toArray 0) := Heap.get?_push_size _ rfl
  have tk : ∀ q ∈ L, TS.TupInts (s1.heap.push (seqObj "list" vs.toArray 0)) (.ref q.1) q.2 := fun q hq => tupInts_of (P := P) (w := w) (isT_keep (R.tup q hq) fun b u e => Heap.get?_push_of_some _ (k1 b u e))
  let h1 := s1.heap.push (seqObj "list" vs.toArray 0)
  have hp : ∀ v ∈ vs, Srt.IsPair h1 v (k2 (TS.intsOf h1 v)).1 (k2 (TS.intsOf h1 v)).2 := fun v hv => by
    obtain ⟨q, hq, e⟩ := List.mem_map.mp (pm.mem_iff.mp hv)
    subst e
    have tq := tk q hq
    have ei : TS.intsOf h1 (.ref q.1) = q.2 := tq.ints
    rw [ei]
    have l2 := hB q hq
    obtain ⟨b, items, e, ⟨o, ho, hc, n, hd⟩, hi⟩ := tq
    generalize q.2 = ns at *
    obtain ⟨il, rfl⟩ : ∃ il : List Value, items = il.toArray := ⟨items.toList, rfl⟩
    have hil : IntsAre il ns := by simpa using hi
    cases hil with
    | nil => cases l2
    | cons x t hil =>
      cases hil with
      | nil => cases l2
      | cons y u hil =>
        cases hil with
        | nil => exact ⟨b, o, t, u, n, e, ho, hc, hd⟩
        | cons z v hil => cases l2
  refine wpAny_bind (wpAny_holding (wpAny_call_entry slot_list_sort ⟨_, hoL, rfl⟩ entry_list_sort (SrtO.list_sort_ord (s := { s1 with heap := h1 }) (SrtO.swo_lex fun v => k2 (TS.intsOf h1 v)) hoL hvz (fun g2 => SrtO.pairs_sortableO (s := { s1 with heap := h1 }) (k := fun v => k2 (TS.intsOf h1 v)) (by omega) hp fun o e => ?_) fun out hs hb => ⟨_, rfl, ?_⟩) (args_list_sort _)))
  · have e' : some o = some (seqObj "list" vs.toArray 0) := e.symm.trans hoL
    cases e'
    intro c
    exact absurd (Value.type.inj c) (by decide)
  obtain ⟨c, hc⟩ := sortedHeap_at (vs := vs) (out := out.toArray) hoL
  obtain ⟨L', e', hs'⟩ := ord out fun v hv => by
    obtain ⟨q, hq, e⟩ := List.mem_map.mp (pm.mem_iff.mp (hb.perm.mem_iff.mp hv))
    exact ⟨q, hq, e.symm⟩
  have pL : L'.Perm L := perm_of L' hs' (by rw [← e']; exact hb.perm.trans pm)
  have pw : L'.Pairwise (fun q r => ¬ SrtO.lexB (k2 r.2) (k2 q.2) = true) := by
    rw [e'] at hs
    refine List.Pairwise.imp_of_mem (fun {q r} hq hr hle => ?_) (List.pairwise_map.mp hs)
    have f1 : TS.intsOf h1 (.ref q.1) = q.2 := (tk q (hs' q hq)).ints
    have f2 : TS.intsOf h1 (.ref r.1) = r.2 := (tk r (hs' r hr)).ints
    have hle : SrtO.lexB (k2 (TS.intsOf h1 (.ref r.1))) (k2 (TS.intsOf h1 (.ref q.1))) = false := hle
    rw [f1, f2] at hle
    rw [hle]; exact Bool.false_ne_true
  refine wpAny_pure ⟨_, rfl, hQ _ s1.heap.objs.size out.toArray c L' (fun b u e => ?_) g1 o1 hz hc (by simpa using e') pL pw⟩
  have q := k1 b u e
  have hlt := Heap.lt_size q
  show (sortedHeap (s1.heap.push (seqObj "list" vs.toArray 0)) s1.heap.objs.size vs out.toArray).get? b = some u
  rw [sortedHeap_old (Nat.ne_of_lt hlt) (by rw [size_push']; exact Nat.lt_succ_of_lt hlt)]
  exact Heap.get?_push_of_some _ q
end
def rSortedP (K : PySem.W.Frag) (P : Program) (w : World) : List V → Hp → VK → Prop := fun vs H Q => ∃ (a : Addr) (L : List (Addr × List Int)), vs = [V.ref a] ∧ H a = some (SetTO P w a L) ∧ (∀ p ∈ L, SqT K H p.1 (p.2.map V.int)) ∧
  (∀ p ∈ L, p.2.length = 2) ∧
  ∀ (L' : List (Addr × List Int)) (p : Addr), L'.Perm L → (L'.map (·.2)).Nodup → L'.length < 64 → L'.Pairwise (fun q r => ¬ SrtO.lexB (k2 r.2) (k2 q.2) = true) → H p = none → Q (.ref p) (upd H p (.lst (L'.map fun q => V.ref q.1)))
theorem cr_sortedP {X : Cx} (hc : X.calm = true) : CallR X (.builtin "sorted") (rSortedP X.K X.prog X.w) := by
  intro pins s σ H vs us Q I r h
  obtain ⟨a, L, rfl, ha, hk, hB, q⟩ := h
  have R0 : SetT0 X.prog X.w s.heap a L := (I.hok a _ ha).1
  obtain ⟨es, ep, t, R⟩ := R0.full fun p hp => I.isT (hk p hp)
  rw [Vals.ref1 r]
  refine sorted_setP R (I.ok.hd hc) hB fun s' p out c L' k g o hp hg hout pm pw => ?_
  have hfew : L'.length < 64 := by rw [pm.length_eq]; exact R.few
  have hlen : (L'.map fun q => V.ref q.1).length ≤ sizeLine := by rw [List.length_map, sizeLine_eq]; omega
  have hn : H p = none := I.hok.fresh hp
  have hv : Vals (L'.map fun q => V.ref q.1) out.toList := by rw [hout]; exact vals_of_refs L'
  have J : Inv X pins σ (upd H p (.lst (L'.map fun q => V.ref q.1))) { s with heap := s'.heap, gens := s'.gens, drawn := s'.drawn, toks := s'.toks } :=
    I.call (ch := []) (Un.laid k hp hn) (I.hok.laid k hp ⟨hlen, out.toList, c, hv, hg⟩) (by rw [g]; exact I.bare) (fun _ z => nomatch z)
  have e : s' = { s with heap := s'.heap, gens := s'.gens, drawn := s'.drawn, toks := s'.toks } := by
    cases s'
    cases s
    cases o
    rfl
  rw [e]
  exact ⟨.ref p, _, J, rfl, q L' p pm ((pm.map (·.2)).nodup_iff.mpr R.nd) hfew pw hn⟩
/-! ### plain: strictly sorted, none twice -/
def ltP (a b : P2) : Prop := a.1 < b.1 ∨ (a.1 = b.1 ∧ a.2 < b.2)
instance (a b : P2) : Decidable (ltP a b) := inferInstanceAs (Decidable (_ ∨ _))
def insS (a : P2) : List P2 → List P2
  | [] => [a]
  | b :: r => if ltP a b then a :: b :: r else if a = b then b :: r else b :: insS a r
def ssP : List P2 → List P2
  | [] => []
  | a :: r => insS a (ssP r)
theorem ltP_tri (a b : P2) : ltP a b ∨ a = b ∨ ltP b a := by
  unfold ltP
  rcases Int.lt_trichotomy a.1 b.1 with h | h | h
  · exact .inl (.inl h)
  · rcases Int.lt_trichotomy a.2 b.2 with k | k | k
    · exact .inl (.inr ⟨h, k⟩)
    · exact .inr (.inl (Prod.ext h k))
    · exact .inr (.inr (.inr ⟨h.symm, k⟩))
  · exact .inr (.inr (.inl h))
theorem ltP_irr (a : P2) : ¬ ltP a a := by unfold ltP; omega
theorem ltP_tr {a b c : P2} (h : ltP a b) (k : ltP b c) : ltP a c := by unfold ltP at *; omega
theorem insS_mem (a x : P2) : ∀ l : List P2, x ∈ insS a l ↔ x = a ∨ x ∈ l
  | [] => by simp [insS]
  | b :: r => by
    unfold insS
    split
    · simp
    · split
      · rename_i e; subst e; simp
      · rw [List.mem_cons, insS_mem a x r, List.mem_cons]
        constructor
        · rintro (h | h | h)
          · exact .inr (.inl h)
          · exact .inl h
          · exact .inr (.inr h)
        · rintro (h | h | h)
          · exact .inr (.inl h)
          · exact .inl h
          · exact .inr (.inr h)
theorem insS_pw (a : P2) : ∀ {l : List P2}, l.Pairwise ltP → (insS a l).Pairwise ltP
  | [], _ => .cons (fun _ h => by cases h) .nil
  | b :: r, h => by
    unfold insS
    split
    · rename_i hab
      refine .cons (fun q hq => ?_) h
      rcases List.mem_cons.mp hq with rfl | hq
      · exact hab
      · exact ltP_tr hab (List.rel_of_pairwise_cons h hq)
    · split
      · exact h
      · rename_i h1 h2
        refine .cons (fun q hq => ?_) (insS_pw a h.of_cons)
        rcases (insS_mem a q r).mp hq with rfl | hq
        · rcases ltP_tri q b with z | z | z
          · exact absurd z h1
          · exact absurd z h2
          · exact z
        · exact List.rel_of_pairwise_cons h hq
theorem ssP_mem (x : P2) : ∀ l : List P2, x ∈ ssP l ↔ x ∈ l
  | [] => Iff.rfl
  | a :: r => by
    show x ∈ insS a (ssP r) ↔ _
    rw [insS_mem, ssP_mem x r, List.mem_cons]
theorem ssP_pw : ∀ l : List P2, (ssP l).Pairwise ltP
  | [] => .nil
  | a :: r => insS_pw a (ssP_pw r)
theorem pw_ext {l m : List P2} (hl : l.Pairwise ltP) (hm : m.Pairwise ltP) (h : ∀ x, x ∈ l ↔ x ∈ m) : l = m := by
  have nd : ∀ {l : List P2}, l.Pairwise ltP → l.Nodup := fun h => List.Pairwise.imp (S := fun a b => a ≠ b) (fun {a b} k e => ltP_irr a (by rw [← e] at k; exact k)) h
  have nl := nd hl
  have nm := nd hm
  exact List.Perm.eq_of_pairwise (fun a b _ _ h1 h2 => absurd (ltP_tr h1 h2) (ltP_irr a)) hl hm ((List.perm_ext_iff_of_nodup nl nm).mpr h)
theorem ssP_is {l m : List P2} (hm : m.Pairwise ltP) (h : ∀ x, x ∈ m ↔ x ∈ l) : m = ssP l := pw_ext hm (ssP_pw l) fun x => by rw [h, ssP_mem]
/-! ### the prim -/
def opSortedSet : D → Option D
  | .lst l => (pairsD l).bind fun ps => if ps.length < 64 then some (.lst ((ssP ps).map prD)) else none
  | _ => none
def sortedSetSyn : Scope → Expr → Option (List Expr) := fun sc e => match e with
  | .Call (.Name x _) [.Call (.Name y _) [a] [] _] [] _ => if (decide (x = "sorted") && glB sc x) && (decide (y = "set") && glB sc y) then some [a] else none
  | _ => none
def pSortedSet : Prim := { syn := sortedSetSyn, sem := one1 opSortedSet }
theorem refs_of {K : PySem.W.Frag} {M : Mk} {H : Hp} : ∀ {xs : List V} {ps : List P2}, RepAll K M H xs (ps.map prD) → ∃ ks : List (Addr × List Int), xs = ks.map (fun p => V.ref p.1) ∧ ks.map (fun p => p.2) = ps.map (fun p => [p.1, p.2]) ∧ ∀ k ∈ ks, SqT K H k.1 (k.2.map V.int) ∧ k.2.length = 2 ∧ Rep K M H (.ref k.1) (prD (k2 k.2))
  | [], [], _ => ⟨[], rfl, rfl, fun _ h => by cases h⟩
  | x :: xs, p :: ps, .cons r rs => by
    obtain ⟨t, e, h, n⟩ := rep_pair r
    obtain ⟨ks, e1, e2, h3⟩ := refs_of rs
    subst e
    refine ⟨(t, [p.1, p.2]) :: ks, by rw [List.map_cons, e1], by rw [List.map_cons, e2]; rfl, fun k hk => ?_⟩
    rcases List.mem_cons.mp hk with rfl | hk
    · exact ⟨SqT.of h, rfl, r⟩
    · exact h3 k hk
theorem sortedSetG : PrimG pSortedSet := by
  intro X k W xo
  have main : ∀ {e : Expr} {es : List Expr} {ms : List (En → Res D)}, sortedSetSyn X.env.scope e = some es → PEs X W es ms → ∃ a b pos, e = .Call a b [] pos ∧ PE X e (tS X W fun ρ => (seqM ms ρ).bind fun ds => ofO (one1 opSortedSet ds)) := by
    intro e es ms h hp
    unfold sortedSetSyn at h
    split at h
    · rename_i x p y p2 a q pos
      split at h
      · rename_i hg
        cases h
        rw [Bool.and_eq_true, Bool.and_eq_true, Bool.and_eq_true, decide_eq_true_eq, decide_eq_true_eq] at hg
        obtain ⟨⟨rfl, g1⟩, rfl, g2⟩ := hg
        obtain ⟨ma, rfl, h1, n1⟩ := one_pes hp
        refine ⟨_, _, pos, rfl, pe_weak (pe_callB (cr_sortedP xo.calm) (gl_of g1) (xo.bf _ (by decide)) (by decide +kernel) (pa_cons (pe_callTy (cr_setOfT xo.calm xo.room.units) (gl_of g2) (xo.bf _ (by decide)) (by decide +kernel) (pa_cons h1 pa_nil (star_of n1 [] X.env)) (by decide) (by decide) (star_of n1 [] X.env) rfl) pa_nil rfl) (by decide) (by decide) rfl rfl) fun σ H Q q => ?_⟩
        refine w_1 (r := fun x H Q => rSetOfT X.K X.prog X.w [x] H fun y H1 => rSortedP X.K X.prog X.w [y] H1 Q) (fun M H x d1 d dm r1 e k => ?_) q
        have e' : opSortedSet d1 = some d := e
        cases d1 with
        | lst l =>
          cases r1 with
          | @lst b vs _ s n ra =>
            have e2 : ((pairsD l).bind fun ps => if ps.length < 64 then some (D.lst ((ssP ps).map prD)) else none) = some d := e'
            cases e3 : pairsD l with
            | none => rw [e3] at e2; cases e2
            | some ps =>
              rw [e3] at e2
              have e4 : (if ps.length < 64 then some (D.lst ((ssP ps).map prD)) else none) = some d := e2
              split at e4
              · rename_i hl
                cases e4
                have el := pairsD_is e3
                subst el
                obtain ⟨ks, k1, k2', k3⟩ := refs_of ra
                subst k1
                have kl : ks.length = ps.length := by
                  have := congrArg List.length k2'
                  simpa using this
                refine ⟨b, ks, rfl, SqL.of s, fun p hp => (k3 p hp).1, by omega, fun a L ha hL hA => ?_⟩
                have same1 : Same X.K H (upd H a (SetTO X.prog X.w a L)) := same_new ha
                refine ⟨a, L, rfl, upd_same, fun p hp => ?_, fun p hp => (k3 p (hL p hp)).2.1, fun L' p pm nd hlt pw hn => ?_⟩
                · have := (k3 p (hL p hp)).1
                  rcases this with (z | ⟨o, z⟩) | z
                  · exact .inl (.inl (same1.get _ _ z))
                  · exact .inl (.inr ⟨o, same1.get _ _ z⟩)
                  · exact .inr z
                · have same2 := same_new (K := X.K) (o := .lst (L'.map fun q => V.ref q.1)) hn
                  have np : Fr H p := same1.free (Fr.of hn)
                  have eq : ssP ps = L'.map fun q => k2 q.2 := by
                    refine (ssP_is ?_ fun x => ?_).symm
                    · rw [List.pairwise_map]
                      have nd' : L'.Pairwise fun q r => q.2 ≠ r.2 := List.pairwise_map.mp nd
                      refine List.Pairwise.imp_of_mem (fun {q r} hq hr hh => ?_) (pw.and nd')
                      obtain ⟨h1, h2⟩ := hh
                      rw [SrtO.lexB_iff] at h1
                      have lq := (k3 q (hL q (pm.mem_iff.mp hq))).2.1
                      have lr := (k3 r (hL r (pm.mem_iff.mp hr))).2.1
                      rcases ltP_tri (k2 q.2) (k2 r.2) with z | z | z
                      · exact z
                      · refine absurd ?_ h2
                        have two : ∀ l : List Int, l.length = 2 → l = [(k2 l).1, (k2 l).2] := fun l hl => by
                          match l, hl with
                          | [a, b], _ => rfl
                        rw [two q.2 lq, two r.2 lr, z]
                      · exact absurd z h1
                    · constructor
                      · intro hx
                        obtain ⟨q, hq, rfl⟩ := List.mem_map.mp hx
                        have mk : q.2 ∈ ks.map (fun p => p.2) := List.mem_map.mpr ⟨q, hL q (pm.mem_iff.mp hq), rfl⟩
                        rw [k2'] at mk
                        obtain ⟨p', hp', e5⟩ := List.mem_map.mp mk
                        rw [← e5]; exact hp'
                      · intro hx
                        have mk : [x.1, x.2] ∈ ks.map (fun p => p.2) := by rw [k2']; exact List.mem_map.mpr ⟨x, hx, rfl⟩
                        obtain ⟨q, hq, e5⟩ := List.mem_map.mp mk
                        obtain ⟨q', hq', e6⟩ := List.mem_map.mp (hA q hq)
                        refine List.mem_map.mpr ⟨q', pm.mem_iff.mpr hq', ?_⟩
                        rw [e6, e5]; rfl
                  refine k _ _ (same1.trans same2) (.lst upd_same (dm.fresh np) ?_)
                  rw [eq]
                  have all : ∀ {m : List (Addr × List Int)}, (∀ q ∈ m, q ∈ ks) → RepAll X.K M H (m.map fun q => V.ref q.1) ((m.map fun q => k2 q.2).map prD) := by
                    intro m
                    induction m with
                    | nil => intro _; exact .nil
                    | cons q m ih => intro hm; exact .cons (k3 q (hm q List.mem_cons_self)).2.2 (ih fun r hr => hm r (List.mem_cons_of_mem _ hr))
                  exact ((all fun q hq => hL q (pm.mem_iff.mp hq)).same same1).same same2
              · cases e4
        | _ => cases e'
      · cases h
    · cases h
  refine ⟨fun h hp => (main h hp).choose_spec.choose_spec.choose_spec.2, (fun z => nomatch z), fun {e es ms} h hp => ?_⟩
  obtain ⟨a, b, pos, rfl, pe⟩ := main h hp
  exact pt_of_pe pe (fun _ => rfl)
end PL

namespace PL
open PySem PySem.Spec PyProof.Rows L2
/-! ## x[a:b]; len(set(pairs)) -/
def slLUChk (a lo hi : E) : List Str → Scope → Expr → Bool := fun N sc e => match e with
  | .Subscript x (.Slice (some l) (some h) none _) _ => chk N sc a x && (chk N sc lo l && chk N sc hi h)
  | _ => false
def bnI : D → Res Int
  | .int i => .ok i
  | _ => .stuck
def aSlLU (a lo hi : E) : Atom := ⟨slLUChk a lo hi, fun ρ => (ev a ρ).bind fun x => ((ev lo ρ).bind bnI).bind fun i => ((ev hi ρ).bind bnI).bind fun j => ofO (opSl (some i) (some j) x)⟩
theorem slLUA {P : Str → (List D → Res D) → Prop} {C : Str → Cn → Prop} {a lo hi : E} (ga : good P C a) (gl : good P C lo) (gh : good P C hi) : AtomG P C (aSlLU a lo hi) := by
  intro X k W xo eP eC x hx
  subst eP; subst eC
  have main : ∃ u v pos, x = .Subscript u v pos ∧ PE X x (tS X W (aSlLU a lo hi).sem) := by
    unfold aSlLU slLUChk at hx
    dsimp only at hx
    split at hx
    · rename_i u l h p2 pos
      rw [Bool.and_eq_true, Bool.and_eq_true] at hx
      obtain ⟨c1, c2, c3⟩ := hx
      refine ⟨u, _, pos, rfl, pe_weak (pe_slice sl_D (snd_e a xo ga u c1).pe (po_some (snd_e lo xo gl l c2).pe) (po_some (snd_e hi xo gh h c3).pe)) fun σ H Q q => ?_⟩
      obtain ⟨M, ρ, dm, re, o⟩ := q
      refine ⟨M, ρ, dm, re, ?_⟩
      have o : OutE X W M σ H Q ((ev a ρ).bind fun x => ((ev lo ρ).bind bnI).bind fun i => ((ev hi ρ).bind bnI).bind fun j => ofO (opSl (some i) (some j) x)) := o
      cases e1 : ev a ρ with
      | exc c => rw [e1] at o; exact o
      | stuck => rw [e1] at o; exact o
      | ok d1 =>
        rw [e1] at o
        intro x H1 s1 r1
        refine ⟨M, ρ, dm.mono s1, re.same s1, ?_⟩
        cases e2 : ev lo ρ with
        | exc c => rw [e2] at o; exact fun H' s' => o H' (s1.trans s')
        | stuck => rw [e2] at o; exact o
        | ok d2 =>
          rw [e2] at o
          intro y H2 s2 r2
          cases d2 with
          | int i =>
            cases r2
            refine ⟨i, rfl, M, ρ, (dm.mono s1).mono s2, (re.same s1).same s2, ?_⟩
            cases e3 : ev hi ρ with
            | exc c => rw [e3] at o; exact fun H' s' => o H' ((s1.trans s2).trans s')
            | stuck => rw [e3] at o; exact o
            | ok d3 =>
              rw [e3] at o
              intro z H3 s3 r3
              cases d3 with
              | int j =>
                cases r3
                have o' : OutE X W M σ H Q (ofO (opSl (some i) (some j) d1)) := o
                cases e4 : opSl (some i) (some j) d1 with
                | none => rw [e4] at o'; exact o'.elim
                | some d =>
                  rw [e4] at o'
                  exact ⟨j, rfl, sl_w (((dm.mono s1).mono s2).mono s3) ((r1.same s2).same s3) e4 fun v H' s' rv => o' v H' (((s1.trans s2).trans s3).trans s') rv⟩
              | _ => exact o.elim
          | _ => exact o.elim
    · cases hx
  obtain ⟨u, v, pos, rfl, pe⟩ := main
  exact ⟨pe, pt_of_pe pe (fun _ => rfl)⟩
theorem eslLU {a lo hi : E} {ρ : En} {x d : D} {i j : Int} (h1 : ev a ρ = .ok x) (h2 : ev lo ρ = .ok (.int i)) (h3 : ev hi ρ = .ok (.int j)) (h : opSl (some i) (some j) x = some d) : ev (.atom (aSlLU a lo hi)) ρ = .ok d := by
  show (ev a ρ).bind (fun x => ((ev lo ρ).bind bnI).bind fun i => ((ev hi ρ).bind bnI).bind fun j => ofO (opSl (some i) (some j) x)) = _
  rw [h1, h2, h3]
  show ofO (opSl (some i) (some j) x) = _
  rw [h]; rfl
/-! len(set(xs)), xs a list of pairs -/
def rLenT (P : Program) (w : World) : List V → Hp → VK → Prop := fun vs H Q => ∃ (a : Addr) (L : List (Addr × List Int)), vs = [V.ref a] ∧ H a = some (SetTO P w a L) ∧ ((L.map (·.2)).Nodup → L.length < 64 → Q (.int (L.length : Nat)) H)
theorem cr_lenT {X : Cx} : CallR X (.builtin "len") (rLenT X.prog X.w) := by
  intro pins s σ H vs us Q I r h
  obtain ⟨a, L, rfl, ha, q⟩ := h
  have R0 : SetT0 X.prog X.w s.heap a L := (I.hok a _ ha).1
  rw [Vals.ref1 r]
  obtain ⟨es, ep, t, ⟨o, ho, hex, hd⟩, h2, h3, h4, h5, h6, h7, h8⟩ := R0.ex
  have hsz : es.size = L.length := by
    have h := congrArg List.length h2
    unfold rowsOf at h
    rw [Array.length_toList, List.length_map] at h
    exact h
  have hf : t.fits es.size = true := by
    have g1 := h3.sz
    rw [List.length_map] at g1
    unfold SetTable.fits SetTable.fill
    rw [h3.dm, Bool.and_eq_true, beq_iff_eq, decide_eq_true_eq]
    show t.place.size = es.size ∧ t.place.size + 0 ≤ t.mask
    omega
  refine call_len_set ho hex hd hf (by rw [hsz]; omega) ⟨.int (L.length : Nat), H, I.tok _, ⟨_, by rw [hsz]⟩, q h4 h8⟩
def opLenSetP : D → Option D
  | .lst l => (pairsD l).bind fun ps => if ps.length < 64 then some (.int ((ssP ps).length : Nat)) else none
  | _ => none
def pLenSetP : Prim := { syn := lenSetSyn, sem := one1 opLenSetP }
theorem ss_len {ps : List P2} {ks L : List (Addr × List Int)} (h1 : ks.map (fun p => p.2) = ps.map (fun p => [p.1, p.2])) (hL : ∀ p ∈ L, p ∈ ks) (hA : ∀ p ∈ ks, p.2 ∈ L.map (·.2)) (nd : (L.map (·.2)).Nodup) : L.length = (ssP ps).length := by
  have n2 : ((ssP ps).map fun p : P2 => [p.1, p.2]).Nodup := by
    refine List.pairwise_map.mpr ((ssP_pw ps).imp fun {a b} k e => ?_)
    injection e with e1 e2
    injection e2 with e2 _
    have : a = b := Prod.ext e1 e2
    rw [this] at k
    exact ltP_irr b k
  have pm : (L.map (·.2)).Perm ((ssP ps).map fun p : P2 => [p.1, p.2]) := by
    refine (List.perm_ext_iff_of_nodup nd n2).mpr fun x => ?_
    constructor
    · intro hx
      obtain ⟨q, hq, rfl⟩ := List.mem_map.mp hx
      have mk : q.2 ∈ ks.map (fun p => p.2) := List.mem_map.mpr ⟨q, hL q hq, rfl⟩
      rw [h1] at mk
      obtain ⟨p, hp, e⟩ := List.mem_map.mp mk
      exact List.mem_map.mpr ⟨p, (ssP_mem p ps).mpr hp, e⟩
    · intro hx
      obtain ⟨p, hp, rfl⟩ := List.mem_map.mp hx
      have mk : [p.1, p.2] ∈ ks.map (fun p => p.2) := by rw [h1]; exact List.mem_map.mpr ⟨p, (ssP_mem p ps).mp hp, rfl⟩
      obtain ⟨q, hq, e⟩ := List.mem_map.mp mk
      have := hA q hq
      rw [e] at this
      exact this
  have := pm.length_eq
  rw [List.length_map, List.length_map] at this
  exact this
theorem lenSetPG : PrimG pLenSetP := by
  intro X k W xo
  have main : ∀ {e : Expr} {es : List Expr} {ms : List (En → Res D)}, lenSetSyn X.env.scope e = some es → PEs X W es ms → ∃ a b pos, e = .Call a b [] pos ∧ PE X e (tS X W fun ρ => (seqM ms ρ).bind fun ds => ofO (one1 opLenSetP ds)) := by
    intro e es ms h hp
    unfold lenSetSyn at h
    split at h
    · rename_i x p y p2 a q pos
      split at h
      · rename_i hg
        cases h
        rw [Bool.and_eq_true, Bool.and_eq_true, Bool.and_eq_true, decide_eq_true_eq, decide_eq_true_eq] at hg
        obtain ⟨⟨rfl, g1⟩, rfl, g2⟩ := hg
        obtain ⟨ma, rfl, h1, n1⟩ := one_pes hp
        refine ⟨_, _, pos, rfl, pe_weak (pe_callB cr_lenT (gl_of g1) (xo.bf _ (by decide)) (by decide +kernel) (pa_cons (pe_callTy (cr_setOfT xo.calm xo.room.units) (gl_of g2) (xo.bf _ (by decide)) (by decide +kernel) (pa_cons h1 pa_nil (star_of n1 [] X.env)) (by decide) (by decide) (star_of n1 [] X.env) rfl) pa_nil rfl) (by decide) (by decide) rfl rfl) fun σ H Q q => ?_⟩
        refine w_1 (r := fun x H Q => rSetOfT X.K X.prog X.w [x] H fun y H1 => rLenT X.prog X.w [y] H1 Q) (fun M H x d1 d dm r1 e k => ?_) q
        have e' : opLenSetP d1 = some d := e
        cases d1 with
        | lst l =>
          cases r1 with
          | @lst b vs _ s n ra =>
            have e2 : ((pairsD l).bind fun ps => if ps.length < 64 then some (D.int ((ssP ps).length : Nat)) else none) = some d := e'
            cases e3 : pairsD l with
            | none => rw [e3] at e2; cases e2
            | some ps =>
              rw [e3] at e2
              have e4 : (if ps.length < 64 then some (D.int ((ssP ps).length : Nat)) else none) = some d := e2
              split at e4
              · rename_i hl
                cases e4
                have el := pairsD_is e3
                subst el
                obtain ⟨ks, k1, k2', k3⟩ := refs_of ra
                subst k1
                have kl : ks.length = ps.length := by
                  have := congrArg List.length k2'
                  simpa using this
                refine ⟨b, ks, rfl, SqL.of s, fun p hp => (k3 p hp).1, by omega, fun a L ha hL hA => ?_⟩
                refine ⟨a, L, rfl, upd_same, fun nd hlt => ?_⟩
                rw [ss_len k2' hL hA nd]
                exact k _ _ (same_new ha) (.int _)
              · cases e4
        | _ => cases e'
      · cases h
    · cases h
  refine ⟨fun h hp => (main h hp).choose_spec.choose_spec.choose_spec.2, (fun z => nomatch z), fun {e es ms} h hp => ?_⟩
  obtain ⟨a, b, pos, rfl, pe⟩ := main h hp
  exact pt_of_pe pe (fun _ => rfl)
theorem lenSetP_ok {ps : List P2} (h : ps.length < 64) : opLenSetP (.lst (ps.map prD)) = some (.int ((ssP ps).length : Nat)) := by
  show ((pairsD (ps.map prD)).bind fun ps => if ps.length < 64 then some (D.int ((ssP ps).length : Nat)) else none) = _
  rw [pairsD_map]
  show (if ps.length < 64 then some (D.int ((ssP ps).length : Nat)) else none) = _
  rw [if_pos h]
end PL

namespace PL
open PySem PySem.Spec PyProof.Rows L2
/-! ## try: .. except h as n: k = n -/
def asTry : Stmt → Option (List Stmt × Str × Str × Stmt)
  | .Try body [.ExceptHandler (some (.Name x _)) (some n) [st] _] [] [] _ => some (body, x, n, st)
  | _ => none
theorem asTry_eq {st s1 : Stmt} {body : List Stmt} {x n : Str} (h : asTry st = some (body, x, n, s1)) : ∃ p p' pos, st = .Try body [.ExceptHandler (some (.Name x p)) (some n) [s1] p'] [] [] pos := by
  unfold asTry at h
  split at h
  · cases h; exact ⟨_, _, _, rfl⟩
  · cases h
/-- k = n -/
def asKeep (st : Stmt) : Option (Str × Str) := match asName st with
  | some (x, _, .Name y _) => some (x, y)
  | _ => none
theorem asKeep_eq {st : Stmt} {x y : Str} (h : asKeep st = some (x, y)) : ∃ p q pos, st = .Assign [.Name x p] (.Name y q) pos := by
  unfold asKeep at h
  split at h
  · rename_i x' p y' q e
    cases h
    obtain ⟨pos, rfl⟩ := asName_eq e
    exact ⟨_, _, _, rfl⟩
  · cases h
def noneS (n : Nat) : SE := List.replicate n .no
def triRun (body : S) (i j : Nat) (tab : List (Str × Bool)) (s : SE) : Out := match run body s with
  | .exc c => (match tab.lookup c with
    | some true => .nx ((noneS s.length).set j (.ro (.exc c)))
    | some false => .exc c
    | none => .stuck)
  | o => o
def aTry (body : S) (i j : Nat) (h : Str) (tab : List (Str × Bool)) : AtomS where
  chk := fun N sc st => oB (asTry st) fun t => oB (asKeep t.2.2.2) fun u => decide (t.2.1 = h) && glB sc h && okName h && chkV N sc i t.2.2.1 && lclB sc t.2.2.1 && decide (u.2 = t.2.2.1) && decide (N[j]? = some u.1) && locB sc u.1 && decide (i ≠ j) && chkS N sc body t.1
  run := triRun body i j tab
theorem lookup_mem {α : Type} {c : Str} {b : α} : ∀ {tab : List (Str × α)}, tab.lookup c = some b → (c, b) ∈ tab
  | (x, y) :: r, h => by
    rw [List.lookup_cons] at h
    cases e : c == x with
    | true =>
      rw [e] at h
      cases h
      rw [eq_of_beq e]
      exact List.mem_cons_self
    | false => rw [e] at h; exact List.mem_cons_of_mem _ (lookup_mem h)
theorem none_set_own {n j m : Nat} {d : D} {l : OP} : owAt ((noneS n).set j (.ro d)) m ≠ some l := fun e => by
  obtain ⟨_, e⟩ := owAt_set rfl e
  unfold owAt noneS at e
  rw [List.getElem?_replicate] at e
  split at e <;> cases e
theorem marks_none {M0 : Mk} {A : Nat → List Addr} {n j : Nat} {d : D} {a : Addr} (h : marks M0 A ((noneS n).set j (.ro d)) a) : M0 a := by
  rcases h with h | ⟨i, l, e, _⟩
  · exact h
  · exact absurd e none_set_own
section
variable {P : Str → (List D → Res D) → Prop} {C : Str → Cn → Prop} {R : Str → Prop}
theorem tryG {body : S} {i j : Nat} {h : Str} {tab : List (Str × Bool)} (gb : goodS P C R body) (gt : ∀ p ∈ tab, C p.1 (.cls h p.2)) (ne : tab ≠ []) (hh : (h == ("ValueError" : Str)) = false) : AtomSG P C R (aTry body i j h tab) := by
  intro X k W H0 M0 xo eP eC eR st hc
  subst eP eC eR
  obtain ⟨⟨bd, x, n, s1⟩, e1, hc1⟩ := optM (o := asTry st) (f := fun t => oB (asKeep t.2.2.2) fun u => decide (t.2.1 = h) && glB X.env.scope h && okName h && chkV X.N X.env.scope i t.2.2.1 && lclB X.env.scope t.2.2.1 && decide (u.2 = t.2.2.1) && decide (X.N[j]? = some u.1) && locB X.env.scope u.1 && decide (i ≠ j) && chkS X.N X.env.scope body t.1) hc
  obtain ⟨⟨kx, ky⟩, e2, hc2⟩ := optM (o := asKeep s1) (f := fun u => decide (x = h) && glB X.env.scope h && okName h && chkV X.N X.env.scope i n && lclB X.env.scope n && decide (u.2 = n) && decide (X.N[j]? = some u.1) && locB X.env.scope u.1 && decide (i ≠ j) && chkS X.N X.env.scope body bd) hc1
  obtain ⟨p, p', pos, rfl⟩ := asTry_eq e1
  obtain ⟨q1, q2, pos2, rfl⟩ := asKeep_eq e2
  have hc : (((((((((x = h ∧ glB X.env.scope h = true) ∧ okName h = true) ∧ chkV X.N X.env.scope i n = true) ∧ lclB X.env.scope n = true) ∧ ky = n) ∧ X.N[j]? = some kx) ∧ locB X.env.scope kx = true) ∧ i ≠ j) ∧ chkS X.N X.env.scope body bd = true) := by simpa using hc2
  obtain ⟨⟨⟨⟨⟨⟨⟨⟨⟨rfl, h2⟩, h3⟩, h4⟩, h5⟩, rfl⟩, h7⟩, h8⟩, h9⟩, h10⟩ := hc
  obtain ⟨v1, v2, v3⟩ := chkV_of h4
  obtain ⟨p0, hp0⟩ : ∃ p0, p0 ∈ tab := List.exists_mem_of_ne_nil _ ne
  have cls : ∀ (c : Str) (b : Bool), (c, b) ∈ tab → ∃ (E : Addr) (cv : Value), PySem.W.nsIn X.K mainGlobals c = some (some (.ref E)) ∧ X.mg c = some (.ref E) ∧ X.mg x = some cv ∧ PySem.W.exmOne X.K (.ref E) cv = some b := fun c b hb => by
    obtain ⟨E, cv, f1, f2, f3, f4, f5, f6⟩ := (show ClsC X.K X.mg c x b from gt (c, b) hb).ex
    rcases f4 with ⟨Dd, f4, f7⟩ | ⟨_, _, f7⟩
    · exact ⟨E, cv, f1, f2, f7, f6⟩
    · rw [f7] at hh; cases hh
  obtain ⟨E0, cv, _, _, hcv, _⟩ := cls p0.1 p0.2 hp0
  have nm : Names X x cv := ⟨gl_of h2, (okName_of h3).1, .inl hcv⟩
  have T := ps_try_exc (X := X) (x := x) (n := ky) (c := cv) (i := i) (body := bd) (suite := []) (b₀ := .Assign [.Name kx q1] (.Name ky q2) pos2) (np := p) (pos := pos) (pos' := p') (tb := fun W' => tSS X W' H0 M0 (run body)) (ts := fun _ _ => tAsg (tVar i) (gName j)) (Wout := W) xo.stk xo.frm xo.ex0 xo.nd v1 (lcl_of h5) nm xo.tk
    (fun W' pn xe tk po => by
      have xo' : XOkS (X.tr pn xe) k W' := { calm := xo.calm, nd := xo.nd, room := xo.room, tk := tk, bf := xo.bf, tb := xo.tb, cd := xo.cd, fnA := xo.fnA, po := po, kind := xo.kind, ex0 := xo.ex0, stk := xo.stk, frm := xo.frm }
      exact snd_S body (X := X.tr pn xe) (H0 := H0) (M0 := M0) xo' gb bd h10)
    (fun a cl pn => pss_one (ps_set (X := X.suite a pn) xo.nd h7 (loc_of h8) (pe_var v1 v2 (okName_of v3).1 (okName_of v3).2) rfl (.inl (xo.fnA kx))))
  refine ⟨fun pins s σ H Dn I q => T.run pins s σ H Dn I ?_⟩
  obtain ⟨A, se, r, o⟩ := q
  refine ⟨A, se, r, ?_⟩
  have o1 : OutS X W H0 M0 (marks M0 A se) H Dn (triRun body i j tab se) := o
  unfold triRun at o1
  cases e : run body se with
  | nx s' => rw [e] at o1; exact o1
  | rt d => rw [e] at o1; exact o1
  | stuck => rw [e] at o1; exact o1
  | exc c =>
    rw [e] at o1
    dsimp only at o1
    intro σ' H' sm fr
    cases e3 : tab.lookup c with
    | none => rw [e3] at o1; exact o1.elim
    | some b =>
      rw [e3] at o1
      obtain ⟨E, cv', f1, f2, f3, f4⟩ := cls c b (lookup_mem e3)
      have ecv : cv' = cv := Option.some.inj (f3.symm.trans hcv)
      subst ecv
      have ex : excV X.mg c = .ref E := by unfold excV; rw [f2]; rfl
      refine ⟨b, by rw [ex]; exact f4, fun hb => ?_, fun hb => ?_⟩
      · subst hb
        refine ⟨rfl, fun a na hl => ?_⟩
        refine ⟨.ref a, ?_, ?_⟩
        · rw [List.getElem?_set_self]
          rw [hl]
          exact (List.getElem?_eq_some_iff.mp v1).1
        · show Dn.nx (((σ'.set i (some (.ref a))).set j (some (.ref a))).set i none) (upd H' a (ExC (excV X.mg c) a))
          rw [List.set_comm _ _ (Ne.symm h9), List.set_set]
          have sm2 : Same X.K H' (upd H' a (ExC (excV X.mg c) a)) := same_new na
          have d0 : DomM M0 (upd H' a (ExC (excV X.mg c) a)) := fun b mb => by
            obtain ⟨o, eo, mo⟩ := r.dm0 b mb
            exact fr.dom.mono sm2 b (.inl mb)
          refine o1 _ _ (fun _ => []) ⟨?_, sm.trans sm2, d0, fun _ _ _ _ _ z => absurd z none_set_own, fun _ _ z => absurd z none_set_own, fun m d z => ?_, (r.tab.keep fr.keep).same sm2⟩ ?_
          · unfold noneS
            rw [List.length_set, List.length_set, List.length_set, List.length_replicate, hl, ← I.len, r.len]
          · by_cases hm : j = m
            · subst hm
              have hj : j < se.length := by
                have := (List.getElem?_eq_some_iff.mp h7).1
                rw [← r.len, I.len]; exact this
              rw [List.getElem?_set_self (by unfold noneS; rw [List.length_replicate]; exact hj)] at z
              cases z
              refine ⟨.ref a, List.getElem?_set_self (by rw [List.length_set, hl, ← I.len, r.len]; exact hj), ?_⟩
              refine .exc f1 (by rw [ex, upd_same]) fun m => ?_
              have := d0 a (marks_none m)
              rw [upd_same] at this
              obtain ⟨o, eo, mo⟩ := this
              cases eo
              exact mo
            · rw [List.getElem?_set_ne hm] at z
              unfold noneS at z
              rw [List.getElem?_replicate] at z
              split at z <;> cases z
          · exact fr.trans (Frame.grow (fun b mb => by
              obtain ⟨o, eo, mo⟩ := fr.dom b (.inl mb)
              exact ⟨o, eo, mo⟩) sm2 fun b mb => marks_none mb)
      · subst hb
        exact o1 σ' H' sm fr
end
end PL

namespace PL
open PySem PySem.Spec PyProof.Rows L2
/-! ## isinstance(e, d), e a caught error -/
def rIsX (X : Cx) : List V → Hp → VK → Prop := fun xs H Q => ∃ (a D : Addr) (c : V) (cv : Value) (b : Bool), xs = [.ref a, c] ∧ H a = some (ExC (.ref D) a) ∧ (∀ u, RelV c u → u = cv) ∧ ExcC X.K D ∧ PySem.W.kitOne X.K (.ref D) cv = some b ∧ Q (.bl b) H
theorem call_isX {X : Cx} : CallR X (.builtin "isinstance") (rIsX X) := by
  intro pins s σ H xs us Q I r h
  obtain ⟨a, D, c, cv, b, rfl, hH, hcv, C, e, q⟩ := h
  cases r with
  | cons rx rr =>
    cases rr with
    | cons rt rr =>
      cases rr
      cases rx
      have ec := hcv _ rt
      subst ec
      obtain ⟨oe, hget, hz, vs, hv⟩ := (I.hok a _ hH).1
      have J : PySem.W.InstAt s.heap a oe D none := by
        obtain ⟨oc, od, oda, osl⟩ := oe
        obtain ⟨h1, h2⟩ := hz
        dsimp only at h1 h2 hv
        subst h1 h2 hv
        exact ⟨hget, rfl, rfl, trivial⟩
      exact PySem.W.kia_one (PySem.W.handS_kitx_exc C.hg C.hk C.hs C.hd C.ha C.hn C.ht C.hm) I.kIn J e (fun z => nomatch z) fun tk => ⟨.bl b, H, I.kept (t' := tk) fun _ _ z => z, rfl, q⟩
def asIsi : Expr → Option (Str × Str × Str)
  | .Call (.Name f _) [.Name x _, .Name t _] [] _ => some (f, x, t)
  | _ => none
theorem asIsi_eq {e : Expr} {f x t : Str} (h : asIsi e = some (f, x, t)) : ∃ p q r pos, e = .Call (.Name f p) [.Name x q, .Name t r] [] pos := by
  unfold asIsi at h
  split at h
  · cases h; exact ⟨_, _, _, _, rfl⟩
  · cases h
def aIsi (i : Nat) (d : Str) (tab : List (Str × Bool)) : Atom where
  chk := fun N sc e => oB (asIsi e) fun t => decide (t.1 = "isinstance") && glB sc t.1 && chkV N sc i t.2.1 && decide (t.2.2 = d) && glB sc d && okName d
  sem := fun ρ => match ρ[i]? with
    | some (some (.exc c)) => (match tab.lookup c with
      | some b => .ok (.bl b)
      | none => .stuck)
    | _ => .stuck
theorem isXG {P : Str → (List D → Res D) → Prop} {C : Str → Cn → Prop} {i : Nat} {d : Str} {tab : List (Str × Bool)} (gt : ∀ p ∈ tab, C p.1 (.cls d p.2)) (ne : tab ≠ []) : AtomG P C (aIsi i d tab) := by
  intro X k W xo eP eC x hc
  subst eP eC
  obtain ⟨⟨f, y, t⟩, e1, hc1⟩ := optM (o := asIsi x) (f := fun t => decide (t.1 = "isinstance") && glB X.env.scope t.1 && chkV X.N X.env.scope i t.2.1 && decide (t.2.2 = d) && glB X.env.scope d && okName d) hc
  obtain ⟨p, q, r, pos, rfl⟩ := asIsi_eq e1
  have hc2 : (((((f = "isinstance" ∧ glB X.env.scope f = true) ∧ chkV X.N X.env.scope i y = true) ∧ t = d) ∧ glB X.env.scope d = true) ∧ okName d = true) := by simpa using hc1
  obtain ⟨⟨⟨⟨⟨rfl, h1⟩, h2⟩, rfl⟩, h4⟩, h5⟩ := hc2
  obtain ⟨v1, v2, v3⟩ := chkV_of h2
  obtain ⟨p0, hp0⟩ : ∃ p0, p0 ∈ tab := List.exists_mem_of_ne_nil _ ne
  have cls : ∀ (c : Str) (b : Bool), (c, b) ∈ tab → ClsC X.K X.mg c t b := fun c b hb => gt (c, b) hb
  have named : ∃ (cV : V) (cv : Value), (∀ u, RelV cV u → u = cv) ∧ PE X (.Name t r) (tC cV) ∧ ∀ cv', ((∃ D, cv' = .ref D ∧ X.mg t = some cv') ∨ (X.mg t = none ∧ cv' = .type "ValueError" ∧ t = "ValueError")) → cv' = cv := by
    obtain ⟨E, cv, f1, f2, f3, f4, f5, f6⟩ := (cls p0.1 p0.2 hp0).ex
    rcases f4 with ⟨Dd, rfl, f7⟩ | ⟨f7, rfl, rfl⟩
    · refine ⟨.ref Dd, .ref Dd, fun u hu => hu, pe_glob (gl_of h4) f7 rfl (okName_of h5).1, fun cv' hv => ?_⟩
      rcases hv with ⟨D2, rfl, h⟩ | ⟨h, _, _⟩
      · exact Option.some.inj (h.symm.trans f7)
      · rw [f7] at h; cases h
    · refine ⟨.ty "ValueError", .type "ValueError", fun u hu => hu, pe_bltn (v := .ty "ValueError") (gl_of h4) f7 (by decide +kernel) rfl (by decide) (by decide), fun cv' hv => ?_⟩
      rcases hv with ⟨D2, rfl, h⟩ | ⟨_, h, _⟩
      · rw [f7] at h; cases h
      · exact h
  obtain ⟨cV, cv, g1, g2, g3⟩ := named
  have pe : PE X (.Call (.Name "isinstance" p) [.Name y q, .Name t r] [] pos) (tS X W (aIsi i t tab).sem) := by
    refine pe_weak (pe_callB call_isX (gl_of h1) (xo.bf _ (by decide)) (by decide +kernel) (pa_cons (pe_var v1 v2 (okName_of v3).1 (okName_of v3).2) (pa_cons g2 pa_nil)) (by decide) (by decide)) fun σ H Q hq => ?_
    obtain ⟨M, ρ, dm, re, o⟩ := hq
    have o1 : OutE X W M σ H Q (match ρ[i]? with
      | some (some (.exc c)) => (match tab.lookup c with
        | some b => .ok (.bl b)
        | none => .stuck)
      | _ => .stuck) := o
    cases e2 : ρ[i]? with
    | none => rw [e2] at o1; exact o1.elim
    | some w =>
      rw [e2] at o1
      cases w with
      | none => exact o1.elim
      | some dd =>
        cases dd with
        | exc c =>
          dsimp only at o1
          cases e3 : tab.lookup c with
          | none => rw [e3] at o1; exact o1.elim
          | some b =>
            rw [e3] at o1
            obtain ⟨v, hv, rv⟩ := re.get i _ e2
            cases rv with
            | exc n1 n2 n3 =>
              obtain ⟨E, cv2, f1, f2, f3, f4, f5, f6⟩ := (cls c b (lookup_mem e3)).ex
              have ec := g3 cv2 f4
              subst ec
              rw [f1] at n1
              cases n1
              exact ⟨_, hv, _, _, _, _, _, rfl, n2, g1, f3, f5, o1 _ _ (Same.refl H) (.bl b)⟩
        | _ => exact o1.elim
  exact ⟨pe, pt_of_pe pe (fun _ => rfl)⟩
end PL

namespace PL
open PySem PySem.Spec PyProof.Rows L2
/-! ## x.count(y), x.index(y) -/
def rCountD (K : PySem.W.Frag) : V → List V → Hp → VK → Prop := fun x xs H Q => ∃ (a : Addr) (y : V) (d : PyData) (ds : List PyData), x = V.ref a ∧ xs = [y] ∧ Dp K H (V.ref a) (.list ds) ∧ Dp K H y d ∧
  SeqAt.shaped (.list ds) = true ∧ SeqAt.shaped d = true ∧ Q (.int ((ds.countP fun z => PyData.eqv z d : Nat) : Int)) H
theorem mt_countD {X : Cx} (hu : X.A.units + 65 < cLine) : MtR X "list.count" (rCountD X.K) := by
  intro pins s σ H x xs v us Q I rx rxs h
  obtain ⟨a, y, d, ds, rfl, rfl, hl, hy, sl, sd, q⟩ := h
  cases rx
  cases rxs with
  | cons ry rt =>
    rename_i uy ut
    cases rt
    obtain ⟨bs, r1⟩ := Dp.reads I d y uy hy ry
    have hxs : PyData.canLayAll0 ds = true := SeqAt.canLay_of_shaped sl
    have hroom : X.A.units + 1 + min (PyData.depthAll ds) d.depth < cLine := room_in_shaped sd hu
    cases hl with
    | lst hs ha =>
      obtain ⟨its, rv, ⟨⟨cls, dd, data, sls⟩, n, ho, hc, hdn, hdt⟩, hlen⟩ := I.list hs
      simp only at hc hdt
      subst hc hdt
      obtain ⟨as, h4⟩ := Dp.readsAll I ds _ its ha rv
      have hmap : its.map (SeqAt.readOf s.heap) = ds := SeqAt.readsAll_map ds its as hxs h4
      refine call_meets PySem.F.slot_list_count ⟨_, ho, rfl⟩ PySem.F.entry_list_count (PySem.F.args_list_count_2 _ _)
        (SeqAt.list_countAt a its.toArray n dd sls uy (fun u => PyData.eqv (SeqAt.readOf s.heap u) d)) ⟨ho, SeqAt.items_eqAt (vs := its.toArray) (show ReadsAll s.heap its.toArray.toList ds as from h4) r1 hxs (SeqAt.canLay_of_shaped sd) hroom, ?_⟩
      refine ⟨.int ((ds.countP fun z => PyData.eqv z d : Nat) : Int), H, I.tok _, ⟨s.toks, ?_⟩, q⟩
      rw [← hmap, List.countP_map]
      rfl
def asM1 : Expr → Option (Str × Str × Pos × Expr × Pos)
  | .Call (.Attribute (.Name x _) m ap) [v] [] cp => some (x, m, ap, v, cp)
  | _ => none
theorem asM1_eq {e v : Expr} {x m : Str} {ap cp : Pos} (h : asM1 e = some (x, m, ap, v, cp)) : ∃ p, e = .Call (.Attribute (.Name x p) m ap) [v] [] cp := by
  unfold asM1 at h
  split at h
  · cases h; exact ⟨_, rfl⟩
  · cases h
/-- a list at a slot, asked by a method of one argument -/
def aM1 (name : Str) (op : List D → D → Option D) (i : Nat) (a : E) : Atom where
  chk := fun N sc e => oB (asM1 e) fun t => chkV N sc i t.1 && decide (t.2.1 = name) && (t.2.2.1.endLine == t.2.2.2.2.line) && chk N sc a t.2.2.2.1 && notStar t.2.2.2.1
  sem := fun ρ => match ρ[i]? with
    | some (some (.lst l)) => (noExc (ev a ρ)).bind fun d => ofO (op l d)
    | _ => .stuck
def cntF (l : List D) (d : D) : Option D := if shp (.lst l) && shp d then some (.int ((l.countP fun z => deq z d : Nat) : Int)) else none
def idxF (l : List D) (d : D) : Option D := if shp (.lst l) && shp d then (match l.findIdx? fun z => deq z d with
  | some j => some (.int ((j : Nat) : Int))
  | none => none) else none
def aCount := aM1 "count" cntF
def aIndex := aM1 "index" idxF
theorem py_count (a : D) : ∀ l : List D, (pyAll l).countP (fun z => PyData.eqv z a.py) = l.countP fun z => deq z a
  | [] => rfl
  | d :: l => by
    show List.countP _ (d.py :: pyAll l) = _
    rw [List.countP_cons, List.countP_cons, py_count a l]
    rfl
theorem py_get : ∀ (l : List D) (j : Nat), (pyAll l)[j]? = l[j]?.map D.py
  | [], _ => by simp [pyAll]
  | d :: l, 0 => rfl
  | d :: l, j + 1 => by
    show (d.py :: pyAll l)[j + 1]? = (d :: l)[j + 1]?.map D.py
    rw [List.getElem?_cons_succ, List.getElem?_cons_succ, py_get l j]
theorem m1G {P : Str → (List D → Res D) → Prop} {C : Str → Cn → Prop} {name : Str} {id : String} {op : List D → D → Option D} {i : Nat} {a : E} (ga : good P C a)
    (slot : Slot "list" name id) (hty : typeOf (.builtin id) = pure (.type "method_descriptor"))
    (hr : ∀ (X : Cx) (k : Nat) (W : WX), XOk X k W → ∃ r : V → List V → Hp → VK → Prop, MtR X id r ∧ ∀ (M : Mk) (H : Hp) (p : Addr) (y : V) (l : List D) (d z : D) (Q : VK), DomM M H → Rep X.K M H (.ref p) (.lst l) → Rep X.K M H y d → op l d = some z → (∀ v H', Same X.K H H' → Rep X.K M H' v z → Q v H') → r (.ref p) [y] H Q) : AtomG P C (aM1 name op i a) := by
  intro X k W xo eP eC x hc
  subst eP eC
  obtain ⟨⟨y, m, ap, v, cp⟩, e1, hc1⟩ := optM (o := asM1 x) (f := fun t => chkV X.N X.env.scope i t.1 && decide (t.2.1 = name) && (t.2.2.1.endLine == t.2.2.2.2.line) && chk X.N X.env.scope a t.2.2.2.1 && notStar t.2.2.2.1) hc
  obtain ⟨p, rfl⟩ := asM1_eq e1
  rw [Bool.and_eq_true, Bool.and_eq_true, Bool.and_eq_true, Bool.and_eq_true, decide_eq_true_eq] at hc1
  obtain ⟨⟨⟨⟨h1, h2⟩, h3⟩, h4⟩, h5⟩ := hc1
  have h2' : m = name := h2
  subst h2'
  obtain ⟨v1, v2, v3⟩ := chkV_of h1
  obtain ⟨r, mt, wr⟩ := hr X k W xo
  have pe : PE X (.Call (.Attribute (.Name y p) m ap) [v] [] cp) (tS X W (aM1 m op i a).sem) := by
    refine pe_weak (pe_bm PySem.F.plainAttrs_list slot hty mt (pe_var v1 v2 (okName_of v3).1 (okName_of v3).2) (pa_cons (snd_e a xo ga v h4).pe pa_nil (star_of h5 _ X.env)) rfl (by rw [star_of h5]; rfl) h3 (star_of h5 _ X.env) rfl) fun σ H Q hq => ?_
    obtain ⟨M, ρ, dm, re, o⟩ := hq
    have o1 : OutE X W M σ H Q (match ρ[i]? with
      | some (some (.lst l)) => (noExc (ev a ρ)).bind fun d => ofO (op l d)
      | _ => .stuck) := o
    cases e2 : ρ[i]? with
    | none => rw [e2] at o1; exact o1.elim
    | some w =>
      rw [e2] at o1
      cases w with
      | none => exact o1.elim
      | some dd =>
        cases dd with
        | lst l =>
          dsimp only at o1
          obtain ⟨u, hu, ru⟩ := re.get i _ e2
          cases ru with
          | lst s n ra =>
            refine ⟨_, hu, .inl ⟨rfl, _, SqL.of s⟩, M, ρ, dm, re, ?_⟩
            cases e3 : ev a ρ with
            | ok d =>
              rw [e3] at o1
              intro w H1 s1 rw1
              have o2 : OutE X W M σ H Q (ofO (op l d)) := o1
              cases e4 : op l d with
              | none => rw [e4] at o2; exact o2.elim
              | some z =>
                rw [e4] at o2
                exact wr M H1 _ w l d z Q (dm.mono s1) (.lst (s1.get _ _ s) n (ra.same s1)) rw1 e4 fun v H' s' rv => o2 v H' (s1.trans s') rv
            | exc c => rw [e3] at o1; exact o1.elim
            | stuck => rw [e3] at o1; exact o1.elim
        | _ => exact o1.elim
  exact ⟨pe, pt_of_pe pe (fun _ => rfl)⟩
theorem countG {P : Str → (List D → Res D) → Prop} {C : Str → Cn → Prop} {i : Nat} {a : E} (ga : good P C a) : AtomG P C (aCount i a) :=
  m1G ga PySem.F.slot_list_count PySem.F.type_list_count fun X k W xo => ⟨_, mt_countD (by have := xo.room.un; omega), fun M H p y l d z Q dm r1 r2 e k => by
    unfold cntF at e
    split at e
    · rename_i hc
      cases e
      rw [Bool.and_eq_true] at hc
      unfold shp at hc
      rw [Bool.and_eq_true, Bool.and_eq_true] at hc
      refine ⟨p, y, d.py, pyAll l, rfl, rfl, Rep.dp _ _ hc.1.1 r1, Rep.dp _ _ hc.2.1 r2, hc.1.2, hc.2.2, ?_⟩
      rw [py_count]
      exact k _ H (Same.refl H) (.int _)
    · cases e⟩
theorem indexG {P : Str → (List D → Res D) → Prop} {C : Str → Cn → Prop} {i : Nat} {a : E} (ga : good P C a) : AtomG P C (aIndex i a) :=
  m1G ga PySem.F.slot_list_index PySem.F.type_list_index fun X k W xo => ⟨_, mt_indexD (by have := xo.room.un; omega), fun M H p y l d z Q dm r1 r2 e k => by
    unfold idxF at e
    split at e
    · rename_i hc
      rw [Bool.and_eq_true] at hc
      unfold shp at hc
      rw [Bool.and_eq_true, Bool.and_eq_true] at hc
      cases ef : l.findIdx? fun z => deq z d with
      | none => rw [ef] at e; cases e
      | some j =>
        rw [ef] at e
        cases e
        obtain ⟨hj, hj1, hj2⟩ := List.findIdx?_eq_some_iff_getElem.mp ef
        refine ⟨p, y, d.py, pyAll l, j, l[j].py, rfl, rfl, Rep.dp _ _ hc.1.1 r1, Rep.dp _ _ hc.2.1 r2, hc.1.2, hc.2.2, ?_, hj1, fun m z' hm hz => ?_, k _ H (Same.refl H) (.int _)⟩
        · rw [py_get, List.getElem?_eq_getElem hj]; rfl
        · have hm' : m < l.length := by omega
          rw [py_get, List.getElem?_eq_getElem hm'] at hz
          cases hz
          have := hj2 m hm
          simpa [deq] using this
    · cases e⟩
/-! ## [f, g, h][k](x, ..) -/
def asTab : Expr → Option (List Expr × Str × List Expr)
  | .Call (.Subscript (.List es _) (.Name w _) _) as [] _ => some (es, w, as)
  | _ => none
theorem asTab_eq {e : Expr} {es as : List Expr} {w : Str} (h : asTab e = some (es, w, as)) : ∃ p q r pos, e = .Call (.Subscript (.List es p) (.Name w q) r) as [] pos := by
  unfold asTab at h
  split at h
  · cases h; exact ⟨_, _, _, _, rfl⟩
  · cases h
def chkGs (sc : Scope) : List Str → List Expr → Bool
  | [], [] => true
  | f :: fs, .Name x _ :: es => decide (f = x) && glB sc x && okName x && chkGs sc fs es
  | _, _ => false
def aTab (fs : List (Str × (List D → Res D))) (w : Nat) (as : EL) : Atom where
  chk := fun N sc e => oB (asTab e) fun t => chkGs sc (fs.map fun (z : Str × (List D → Res D)) => z.1) t.1 && chkV N sc w t.2.1 && chkL N sc as t.2.2 && !t.2.2.isEmpty && decide (t.1.length ≤ 1000)
  sem := fun ρ => match ρ[w]? with
    | some (some (.int k)) => (match atI fs k with
      | some f => (evL as ρ).bind f.2
      | none => .stuck)
    | _ => .stuck
theorem glo_all {X : Cx} : ∀ {fs : List (Str × (List D → Res D))} {es : List Expr} {k : Nat}, (∀ f ∈ fs, GoodX X k f.1 f.2) → chkGs X.env.scope (fs.map fun (z : Str × (List D → Res D)) => z.1) es = true →
    ∃ ads : List Addr, ads.length = fs.length ∧ es.length = fs.length ∧ (∀ (j : Nat) f, fs[j]? = some f → ∃ fa, ads[j]? = some fa ∧ ∃ fd ps, FnOk X.prog X.w X.K X.mg X.base (L2.CX X.prog X.w) k fa fd ps (spD X.K X.mg ps.length f.2) ∧ PySem.W.keepIn X.K (.ref fa) = true ∧ Binds X.K fd ps [] ∧ (∀ ds, f.2 ds ≠ .stuck → ds.length = ps.length)) ∧ PA X es (fun σ H Q => Q (ads.map V.ref) H)
  | [], [], k, _, _ => ⟨[], rfl, rfl, fun j f h => by simp at h, pa_weak pa_nil fun σ H Q q => q⟩
  | [], _ :: _, _, _, h => by cases h
  | _ :: _, [], _, _, h => by cases h
  | f :: fs, e :: es, k, g, h => by
    cases e with
    | Name x p =>
      have h' : (decide (f.1 = x) && glB X.env.scope x && okName x && chkGs X.env.scope (fs.map fun (z : Str × (List D → Res D)) => z.1) es) = true := h
      rw [Bool.and_eq_true, Bool.and_eq_true, Bool.and_eq_true, decide_eq_true_eq] at h'
      obtain ⟨⟨⟨h1, h2⟩, h3⟩, h4⟩ := h'
      subst h1
      obtain ⟨ads, l1, l2, hf, pa⟩ := glo_all (fun f hf => g f (List.mem_cons_of_mem _ hf)) h4
      obtain ⟨fa, fd, ps, F, gm, kp, bd, gl⟩ := g f List.mem_cons_self
      refine ⟨fa :: ads, by rw [List.length_cons, List.length_cons, l1], by rw [List.length_cons, List.length_cons, l2], fun j f' hj => ?_, ?_⟩
      · cases j with
        | zero =>
          have : f = f' := by simpa using hj
          subst this
          exact ⟨fa, rfl, fd, ps, F, kp, bd, gl⟩
        | succ j => exact hf j f' (by simpa using hj)
      · exact pa_weak (pa_cons (pe_glob (v := .ref fa) (gl_of h2) gm rfl (okName_of h3).1) pa) fun σ H Q q => q
    | _ => cases h
theorem tabG {P : Str → (List D → Res D) → Prop} {C : Str → Cn → Prop} {fs : List (Str × (List D → Res D))} {w : Nat} {as : EL} (gf : ∀ f ∈ fs, P f.1 f.2) (ga : goodL P C as) : AtomG P C (aTab fs w as) := by
  intro X k W xo eP eC x hc
  subst eP eC
  obtain ⟨⟨es, y, ar⟩, e1, hc1⟩ := optM (o := asTab x) (f := fun t => chkGs X.env.scope (fs.map fun (z : Str × (List D → Res D)) => z.1) t.1 && chkV X.N X.env.scope w t.2.1 && chkL X.N X.env.scope as t.2.2 && !t.2.2.isEmpty && decide (t.1.length ≤ 1000)) hc
  obtain ⟨p, q, r, pos, rfl⟩ := asTab_eq e1
  rw [Bool.and_eq_true, Bool.and_eq_true, Bool.and_eq_true, Bool.and_eq_true, decide_eq_true_eq] at hc1
  obtain ⟨⟨⟨⟨h1, h2⟩, h3⟩, h4⟩, h5⟩ := hc1
  cases ar with
  | nil => cases h4
  | cons a1 ar =>
    obtain ⟨v1, v2, v3⟩ := chkV_of h2
    obtain ⟨ads, l1, l2, hf, pa⟩ := glo_all gf h1
    obtain ⟨ms, hp, he⟩ := snd_L as xo ga _ h3
    have ns : notStar a1 = true := by cases hp with | cons _ n _ => exact n
    have st : (backTo pos (starEach ar X.env)).any (·.1) = false := by cases hp with | cons _ _ t => exact stars_of t pos
    have pf : PE X (.Subscript (.List es p) (.Name y q) r) _ := pe_ix ix_seq (pe_lst pa) (pe_var v1 v2 (okName_of v3).1 (okName_of v3).2) (plainIx rfl)
    have pe : PE X (.Call (.Subscript (.List es p) (.Name y q) r) (a1 :: ar) [] pos) (tS X W (aTab fs w as).sem) := by
      refine ⟨fun pins s σ H Q I hq => ?_⟩
      obtain ⟨M, ρ, dm, re, o⟩ := hq
      have o1 : OutE X W M σ H Q (match ρ[w]? with
        | some (some (.int k)) => (match atI fs k with
          | some f => (evL as ρ).bind f.2
          | none => .stuck)
        | _ => .stuck) := o
      cases e2 : ρ[w]? with
      | none => rw [e2] at o1; exact o1.elim
      | some z =>
        rw [e2] at o1
        cases z with
        | none => exact o1.elim
        | some dd =>
          cases dd with
          | int n =>
            dsimp only at o1
            obtain ⟨u, hu, ru⟩ := re.get w _ e2
            cases ru
            cases e3 : atI fs n with
            | none => rw [e3] at o1; exact o1.elim
            | some f =>
              rw [e3] at o1
              dsimp only at o1
              have e4 : ∃ j, ixN fs.length n = some j ∧ fs[j]? = some f := by
                unfold atI at e3
                cases ej : ixN fs.length n with
                | none => rw [ej] at e3; cases e3
                | some j => rw [ej] at e3; exact ⟨j, rfl, e3⟩
              obtain ⟨j, ej, ef⟩ := e4
              obtain ⟨fa, ea, fd, ps, F, kp, bd, gl⟩ := hf j f ef
              have ea2 : atI (ads.map V.ref) n = some (.ref fa) := by
                unfold atI
                rw [List.length_map, l1, ej]
                show (ads.map V.ref)[j]? = _
                rw [List.getElem?_map, ea]; rfl
              refine Call_ (thn (pf.run pins s σ H (fun x H1 => x = .ref fa ∧ Same X.K H H1) I ?_) fun u s1 ⟨y', H1, I1, ry, q1, s1'⟩ => ?_) rfl
              · refine ⟨by rw [List.length_map, l1, ← l2]; have := sizeLine_eq; omega, fun p' hp' => ⟨_, hu, .inl ⟨p', ads.map V.ref, n, .ref fa, rfl, rfl, SqL.of upd_same, ea2, rfl, same_new hp'⟩⟩⟩
              · subst q1
                obtain rfl : u = Value.ref fa := ry
                refine PySem.W.callWith_K (h₀ := X.base) I.ok.mod.kin kp (thn (hp.pa.run pos pins s1 σ H1 (fun vs H2 => spD X.K X.mg ps.length f.2 vs H2 Q (WE W σ)) I1 ?_) fun us s2 ⟨vs, H2, I2, r2, q2⟩ => ⟨I2.kIn, run_fnS F xo.room bd (passAt xo.tk σ) I2 r2 q2⟩) (star_of ns ar X.env) st
                refine ⟨M, ρ, dm.mono s1', re.same s1', ?_⟩
                rw [he ρ] at o1
                cases e5 : seqM ms ρ with
                | exc c => rw [e5] at o1; exact fun H' s' => o1 H' (s1'.trans s')
                | stuck => rw [e5] at o1; exact o1
                | ok ds =>
                  rw [e5] at o1
                  simp only [Res.bind_ok] at o1
                  intro vs H2 s2 rs
                  have ln : f.2 ds ≠ .stuck := fun z => by rw [z] at o1; exact o1
                  refine ⟨by rw [rs.length]; exact gl ds ln, (re.tab.same s1').same s2, M, ds, (dm.mono s1').mono s2, rs, ?_⟩
                  cases e6 : f.2 ds with
                  | ok d => rw [e6] at o1; exact fun v H' s' rv => o1 v H' (s1'.trans (s2.trans s')) rv
                  | exc c => rw [e6] at o1; exact fun H' s' => o1 H' (s1'.trans (s2.trans s'))
                  | stuck => rw [e6] at o1; exact o1
          | _ => exact o1.elim
    exact ⟨pe, pt_of_pe pe (fun _ => rfl)⟩
end PL

namespace PL
open PySem PySem.Spec PyProof.Rows L2
/-! ## what the head must say of the errors' classes -/
def eqB (a : Option Bool) (b : Bool) : Bool := match a with | some x => x == b | none => false
theorem eqB_ok {a : Option Bool} {b : Bool} (h : eqB a b = true) : a = some b := by
  unfold eqB at h
  cases a with
  | none => cases h
  | some x => rw [eq_of_beq h]
def excCB (K : PySem.W.Frag) (D : Addr) : Bool :=
  He.eqO (PySem.W.findIn K (.ref D) "__getattribute__") (some (some (.builtin "BaseException.__getattribute__"))) &&
  He.eqO (PySem.W.findIn K (.ref D) "__getattr__") (some none) &&
  eqB (PySem.W.subIn K (.ref D) (.type "BaseException")) true &&
  PySem.W.hasDictIn K D &&
  He.eqO (PySem.W.findIn K (.ref D) "__class__") (some (some (.builtin "object.__class__"))) &&
  He.eqO (PySem.W.specialIn K (.builtin "object.__class__") "__get__") (some (some (.builtin "getset_descriptor.__get__"))) &&
  eqB (PySem.W.takesIn K (.builtin "object.__class__")) true &&
  eqB (PySem.W.mroIn K D (.type "object")) true
theorem excCB_ok {K : PySem.W.Frag} {D : Addr} (h : excCB K D = true) : ExcC K D := by
  unfold excCB at h
  simp only [Bool.and_eq_true] at h
  obtain ⟨⟨⟨⟨⟨⟨⟨h1, h2⟩, h3⟩, h4⟩, h5⟩, h6⟩, h7⟩, h8⟩ := h
  exact ⟨He.eqO_ok h1, He.eqO_ok h2, eqB_ok h3, h4, He.eqO_ok h5, He.eqO_ok h6, eqB_ok h7, eqB_ok h8⟩
def clsV (K : PySem.W.Frag) (d : Str) : Value := if d = "ValueError" then .type "ValueError" else .ref (He.ga K d)
def clsB (K : PySem.W.Frag) (c d : Str) (b : Bool) : Bool := eqB (PySem.W.kitOne K (.ref (He.ga K c)) (clsV K d)) b && eqB (PySem.W.exmOne K (.ref (He.ga K c)) (clsV K d)) b
/-- all that is said: of each class c, with each class d: whether c is a d -/
def tstC (cs : List Str) (ds : List Str) (rel : Str → Str → Bool) (K : PySem.W.Frag) : Bool :=
  cs.all (fun c => He.eqO (PySem.W.nsIn K mainGlobals c) (some (some (.ref (He.ga K c)))) && excCB K (He.ga K c)) && cs.all fun c => ds.all fun d => clsB K c d (rel c d)
theorem tstC_ok {cs ds : List Str} {rel : Str → Str → Bool} {K : PySem.W.Frag} {mg : Str → Option Value} {h : Heap} (X : K.In h) (G : h.Ns mainGlobals mg) (t : tstC cs ds rel K = true) {c d : Str} (hc : c ∈ cs) (hd : d ∈ ds)
    (gd : (d ≠ "ValueError" ∧ (He.Fa.glo d).ok K = true) ∨ (d = "ValueError" ∧ (He.Fa.free d).ok K = true)) : ClsC K mg c d (rel c d) := by
  unfold tstC at t
  rw [Bool.and_eq_true] at t
  obtain ⟨t1, t2⟩ := t
  have t3 := List.all_eq_true.mp t1 c hc
  have t4 := List.all_eq_true.mp (List.all_eq_true.mp t2 c hc) d hd
  rw [Bool.and_eq_true] at t3
  unfold clsB at t4
  rw [Bool.and_eq_true] at t4
  refine ⟨⟨He.ga K c, clsV K d, He.eqO_ok t3.1, PySem.W.mg_of X G (He.eqO_ok t3.1), excCB_ok t3.2, ?_, eqB_ok t4.1, eqB_ok t4.2⟩⟩
  rcases gd with ⟨n, g⟩ | ⟨rfl, g⟩
  · refine .inl ⟨He.ga K d, ?_, ?_⟩
    · unfold clsV; rw [if_neg n]
    · unfold clsV; rw [if_neg n]; exact He.glo_ok X G g
  · refine .inr ⟨He.free_ok X G g, ?_, rfl⟩
    unfold clsV; rw [if_pos rfl]
/-- a hook with one test more -/
def obsX (fa : List He.Fa) (fn : List He.DefD) (tst : PySem.W.Frag → Bool) (K : PySem.W.Frag) : Bool × He.AlD := (tst K, He.obsD fa fn K)
def SaysX (fa : List He.Fa) (fn : List He.DefD) (tst : PySem.W.Frag → Bool) (K : PySem.W.Frag) : Prop := obsX fa fn tst K = (true, He.valD fn)
theorem SaysX.d {fa : List He.Fa} {fn : List He.DefD} {tst : PySem.W.Frag → Bool} {K : PySem.W.Frag} (c : SaysX fa fn tst K) : He.SaysD fa fn K := congrArg Prod.snd c
theorem SaysX.t {fa : List He.Fa} {fn : List He.DefD} {tst : PySem.W.Frag → Bool} {K : PySem.W.Frag} (c : SaysX fa fn tst K) : tst K = true := congrArg Prod.fst c
def obsXG (n : Nat) (fa : List He.Fa) (fn : List He.DefD) (tst : PySem.W.Frag → Bool) (g : Addr → Option Obj) : Bool × He.AlD := obsX fa fn tst (He.frG g (He.asD g n))
def hookX (n : Nat) (fa : List He.Fa) (fn : List He.DefD) (tst : PySem.W.Frag → Bool) : PySem.W.Hook where
  α := Bool × He.AlD
  obs := fun s => obsXG n fa fn tst s.heap.get?
  val := fun _ => (true, He.valD fn)
  says := fun _ h => ∃ K : PySem.W.Frag, K.In h ∧ SaysX fa fn tst K
  of := fun _ _ e => ⟨_, He.frG_in, e⟩
  keeps := fun _ _ _ ⟨K, hK, c⟩ k => ⟨K, PySem.W.Frag.In.keeps hK k, c⟩
theorem obsXG_eq {n : Nat} {fa : List He.Fa} {fn : List He.DefD} {tst : PySem.W.Frag → Bool} {g : Addr → Option Obj} {s : Shared} (h : ∀ a, g a = s.heap.get? a) : obsXG n fa fn tst g = (hookX n fa fn tst).obs s := by
  have e : g = s.heap.get? := funext h
  rw [e] <;> rfl
/-! ## recursions -/
theorem goodF_stuck {P : Program} {w : World} {K : PySem.W.Frag} {mg : Str → Option Value} {base : Heap} {x qual : Str} {params : Arguments} {body : List Stmt} {scope : Scope} {kws : List (Str × V)} {f : Addr} {fd : FuncData} {ps : List Str} {k : Nat}
    (F : FunD K x qual params body scope [] kws f fd) (hm : mg x = some (.ref f)) (bd : Binds K fd ps []) : GoodF P w K mg base k x (fun _ => .stuck) :=
  ⟨f, fd, ps, ⟨fun vs H Q E h => h.1, fun A outer s H args us vs Q E hr e0 hb r h => by
    obtain ⟨_, _, M, ds, _, _, o⟩ := h
    exact o.elim⟩, hm, F.kp, bd, fun ds h => absurd rfl h⟩
/-! ## a list times an int -/
theorem RepAll.rep {K : PySem.W.Frag} {M : Mk} {H : Hp} {xs : List V} {ds : List D} (r : RepAll K M H xs ds) : ∀ n, RepAll K M H (List.replicate n xs).flatten (List.replicate n ds).flatten
  | 0 => .nil
  | n + 1 => by rw [List.replicate_succ, List.replicate_succ, List.flatten_cons, List.flatten_cons]; exact r.append (RepAll.rep r n)
def opRep : D → D → Option D
  | .lst l, .int k => if decide (0 ≤ k) && decide (k ≤ 1000) && decide (l.length * k.toNat ≤ 1000) then some (.lst (List.replicate k.toNat l).flatten) else none
  | _, _ => none
theorem opT_rep {X : Cx} : OpT X (binaryOp .Mult) opRep := by
  refine ⟨_, op_rep, fun M H x y d1 d2 d Q dm r1 r2 e k => ?_⟩
  unfold opRep at e
  split at e
  · rename_i l n
    split at e
    · rename_i hc
      rw [Bool.and_eq_true, Bool.and_eq_true, decide_eq_true_eq, decide_eq_true_eq, decide_eq_true_eq] at hc
      cases e
      cases r1 with
      | lst s nm ra =>
        cases r2
        have hs := sizeLine_eq
        have hl := ra.length
        refine ⟨_, n, _, rfl, rfl, s, by omega, by omega, ?_, fun p np => k _ _ (same_new np) (.lst upd_same (dm.fresh np) ((ra.rep n.toNat).same (same_new np)))⟩
        rw [hl]
        omega
    · cases e
  · cases e
def pRep : Prim := { syn := binSyn .Mult isMul, sem := two opRep }
theorem repG : PrimG pRep := prim_bin (fun o h => by cases o <;> first | rfl | cases h) fun X k W xo => opT_rep
end PL

namespace PL
open PySem PySem.Spec PyProof.Rows L2
/-! ## texts of the program that many laws reach -/
def b__law_places (F : List D → Res D) : S :=
  (.cons (.own true 1 (.prim pLst (.cons (.prim pTup .nil) .nil)))
  (.cons (.ite (.prim pIsTuple (.cons (.v 0) .nil))
  (.cons (.for_ (.name 2) (.rng (.cons (.prim pLen (.cons (.v 0) .nil)) .nil))
  (.cons (.extd true 1 (.comp [("place", 3)] (.name 3) (.seq (.call "_law_places" F (.cons (.prim pIx (.cons (.v 0) (.cons (.v 2) .nil))) .nil))) .none (.prim pAdd (.cons (.prim pTup (.cons (.v 2) .nil)) (.cons (.v 3) .nil)))))
  .nil))
  .nil)
  .nil)
  (.cons (.ret (.v 1))
  .nil)))
def f__law_places : Nat → List D → Res D
  | 0 => fun _ => .stuck
  | n + 1 => callD 4 1 (b__law_places (f__law_places n))
def b__law_put (F : List D → Res D) : S :=
  (.cons (.ite (.prim pEq (.cons (.v 1) (.cons (.prim pTup .nil) .nil)))
  (.cons (.ret (.v 2))
  .nil)
  .nil)
  (.cons (.set true 3 (.prim pIx (.cons (.v 1) (.cons (.c (.int 0)) .nil))))
  (.cons (.ret (.prim pAdd (.cons (.prim pAdd (.cons (.prim pSlU (.cons (.v 0) (.cons (.v 3) .nil))) (.cons (.prim pTup (.cons (.call "_law_put" F (.cons (.prim pIx (.cons (.v 0) (.cons (.v 3) .nil))) (.cons (.prim pSlL (.cons (.v 1) (.cons (.c (.int 1)) .nil))) (.cons (.v 2) .nil)))) .nil)) .nil))) (.cons (.prim pSlL (.cons (.v 0) (.cons (.prim pAdd (.cons (.v 3) (.cons (.c (.int 1)) .nil))) .nil))) .nil))))
  .nil)))
def f__law_put : Nat → List D → Res D
  | 0 => fun _ => .stuck
  | n + 1 => callD 4 3 (b__law_put (f__law_put n))
def b__law_spoilt_thing : S :=
  (.cons (.set true 3 (.call "_law_places" (f__law_places 4) (.cons (.v 2) .nil)))
  (.cons (.set true 4 (.prim pIx (.cons (.v 3) (.cons (.call "_law_pick" fPick (.cons (.v 0) (.cons (.v 1) (.cons (.prim pLen (.cons (.v 3) .nil)) .nil)))) .nil))))
  (.cons (.set true 5 (.v 2))
  (.cons (.for_ (.name 6) (.seq (.v 4))
  (.cons (.set true 5 (.prim pIx (.cons (.v 5) (.cons (.v 6) .nil))))
  .nil))
  (.cons (.set true 7 (.prim pLst (.cons (.c (.int 0)) (.cons (.c (.int 1)) (.cons (.c (.int 2)) (.cons (.c (.int 99)) (.cons (.c (.int 100)) (.cons (.prim pNeg (.cons (.c (.int 99)) .nil)) (.cons (.prim pNeg (.cons (.c (.int 100)) .nil)) (.cons (.c (.int 999)) (.cons (.c (.int 1000)) (.cons (.c (.bl true)) (.cons (.c .non) (.cons (.c (.str "1")) (.cons (.prim pTup .nil) (.cons (.prim pTup (.cons (.c (.int 0)) (.cons (.c (.int 0)) (.cons (.c (.int 0)) .nil)))) (.cons (.prim pLst (.cons (.c (.int 0)) .nil)) (.cons (.prim pTup (.cons (.v 5) .nil)) (.cons (.prim pTup (.cons (.v 5) (.cons (.v 5) .nil))) .nil)))))))))))))))))))
  (.cons (.set true 8 (.call "_law_pick" fPick (.cons (.v 0) (.cons (.prim pAdd (.cons (.v 1) (.cons (.c (.int 1)) .nil))) (.cons (.c (.int 23)) .nil)))))
  (.cons (.ite (.prim pLt (.cons (.v 8) (.cons (.c (.int 17)) .nil)))
  (.cons (.ret (.call "_law_put" (f__law_put 4) (.cons (.v 2) (.cons (.v 4) (.cons (.prim pIx (.cons (.v 7) (.cons (.v 8) .nil))) .nil)))))
  .nil)
  .nil)
  (.cons (.ite (.and (.prim pIsTuple (.cons (.v 5) .nil)) (.prim pNe (.cons (.v 5) (.cons (.prim pTup .nil) .nil))))
  (.cons (.set true 6 (.call "_law_pick" fPick (.cons (.v 0) (.cons (.prim pAdd (.cons (.v 1) (.cons (.c (.int 2)) .nil))) (.cons (.prim pLen (.cons (.v 5) .nil)) .nil)))))
  (.cons (.ret (.call "_law_put" (f__law_put 4) (.cons (.v 2) (.cons (.v 4) (.cons (.ite (.prim pLt (.cons (.v 8) (.cons (.c (.int 20)) .nil))) (.prim pAdd (.cons (.prim pSlU (.cons (.v 5) (.cons (.v 6) .nil))) (.cons (.prim pSlL (.cons (.v 5) (.cons (.prim pAdd (.cons (.v 6) (.cons (.c (.int 1)) .nil))) .nil))) .nil))) (.prim pAdd (.cons (.prim pSlU (.cons (.v 5) (.cons (.prim pAdd (.cons (.v 6) (.cons (.c (.int 1)) .nil))) .nil))) (.cons (.prim pSlL (.cons (.v 5) (.cons (.v 6) .nil))) .nil)))) .nil)))))
  .nil))
  .nil)
  (.cons (.ret (.call "_law_put" (f__law_put 4) (.cons (.v 2) (.cons (.v 4) (.cons (.ite (.prim pIsInt (.cons (.v 5) .nil)) (.prim pSub (.cons (.prim pAdd (.cons (.v 5) (.cons (.v 8) .nil))) (.cons (.c (.int 21)) .nil))) (.c (.int 7))) .nil)))))
  .nil)))))))))
def f__law_spoilt_thing : List D → Res D := callD 9 3 b__law_spoilt_thing
def b__law_whole : S :=
  (.cons (.ret (.and (.prim pIsInt (.cons (.v 0) .nil)) (.and (.not (.prim pIsBool (.cons (.v 0) .nil))) (.chain .LtE .LtE opLe opLe (.v 1) (.v 0) (.v 2)))))
  .nil)
def f__law_whole : List D → Res D := callD 3 3 b__law_whole
def b__law_is_point : S :=
  (.cons (.ite (.or (.not (.prim pIsTuple (.cons (.v 0) .nil))) (.or (.prim pNe (.cons (.prim pLen (.cons (.v 0) .nil)) (.cons (.c (.int 3)) .nil))) (.not (.call "_law_whole" f__law_whole (.cons (.prim pIx (.cons (.v 0) (.cons (.c (.int 0)) .nil))) (.cons (.c (.int 0)) (.cons (.c (.int 999)) .nil)))))))
  (.cons (.ret (.c (.bl false)))
  .nil)
  .nil)
  (.cons (.ret (.and (.call "_law_whole" f__law_whole (.cons (.prim pIx (.cons (.v 0) (.cons (.c (.int 1)) .nil))) (.cons (.prim pNeg (.cons (.c (.int 99)) .nil)) (.cons (.c (.int 99)) .nil)))) (.call "_law_whole" f__law_whole (.cons (.prim pIx (.cons (.v 0) (.cons (.c (.int 2)) .nil))) (.cons (.prim pNeg (.cons (.c (.int 99)) .nil)) (.cons (.c (.int 99)) .nil))))))
  .nil))
def f__law_is_point : List D → Res D := callD 1 1 b__law_is_point
def b__law_is_track : S :=
  (.cons (.ite (.or (.not (.prim pIsTuple (.cons (.v 0) .nil))) (.not (.chain .LtE .LtE opLe opLe (.c (.int 1)) (.prim pLen (.cons (.v 0) .nil)) (.c (.int 12)))))
  (.cons (.ret (.c (.bl false)))
  .nil)
  .nil)
  (.cons (.ite (.prim pNe (.cons (.comp [("one", 1)] (.name 1) (.seq (.v 0)) (.some (.not (.call "_law_is_point" f__law_is_point (.cons (.v 1) .nil)))) (.v 1)) (.cons (.prim pLst .nil) .nil)))
  (.cons (.ret (.c (.bl false)))
  .nil)
  .nil)
  (.cons (.ret (.prim pEq (.cons (.comp [("k", 2)] (.name 2) (.rng (.cons (.c (.int 1)) (.cons (.prim pLen (.cons (.v 0) .nil)) .nil))) (.some (.prim pLe (.cons (.prim pIx (.cons (.prim pIx (.cons (.v 0) (.cons (.v 2) .nil))) (.cons (.c (.int 0)) .nil))) (.cons (.prim pIx (.cons (.prim pIx (.cons (.v 0) (.cons (.prim pSub (.cons (.v 2) (.cons (.c (.int 1)) .nil))) .nil))) (.cons (.c (.int 0)) .nil))) .nil)))) (.v 2)) (.cons (.prim pLst .nil) .nil))))
  .nil)))
def f__law_is_track : List D → Res D := callD 3 1 b__law_is_track
def b__law_word : S :=
  (.cons (.own true 1 (.prim pLst (.cons (.atom (aIsi 0 "NoFit" [("NoTrack", false), ("NoTime", false), ("NoNumber", false), ("NoFit", true), ("NoPoint", false), ("NoText", false)])) (.cons (.atom (aIsi 0 "NoNumber" [("NoTrack", false), ("NoTime", false), ("NoNumber", true), ("NoFit", false), ("NoPoint", false), ("NoText", false)])) (.cons (.atom (aIsi 0 "NoPoint" [("NoTrack", false), ("NoTime", false), ("NoNumber", false), ("NoFit", false), ("NoPoint", true), ("NoText", false)])) (.cons (.atom (aIsi 0 "NoText" [("NoTrack", false), ("NoTime", false), ("NoNumber", false), ("NoFit", false), ("NoPoint", false), ("NoText", true)])) .nil))))))
  (.cons (.extd true 1 (.prim pLst (.cons (.atom (aIsi 0 "NoTime" [("NoTrack", false), ("NoTime", true), ("NoNumber", false), ("NoFit", false), ("NoPoint", false), ("NoText", false)])) (.cons (.atom (aIsi 0 "NoTrack" [("NoTrack", true), ("NoTime", false), ("NoNumber", false), ("NoFit", false), ("NoPoint", false), ("NoText", false)])) .nil))))
  (.cons (.ite (.or (.prim pNe (.cons (.atom (aCount 1 (.c (.bl true)))) (.cons (.c (.int 1)) .nil))) (.not (.atom (aIsi 0 "ValueError" [("NoTrack", true), ("NoTime", true), ("NoNumber", true), ("NoFit", true), ("NoPoint", true), ("NoText", true)]))))
  (.cons (.ret (.c (.str "wrong")))
  .nil)
  .nil)
  (.cons (.ret (.prim pIx (.cons (.prim pLst (.cons (.c (.str "no fit")) (.cons (.c (.str "no number")) (.cons (.c (.str "no point")) (.cons (.c (.str "no text")) (.cons (.c (.str "no time")) (.cons (.c (.str "no track")) .nil))))))) (.cons (.atom (aIndex 1 (.c (.bl true)))) .nil))))
  .nil))))
def f__law_word : List D → Res D := callD 2 1 b__law_word
end PL

namespace PL
open PySem PySem.Spec PyProof.Rows L2
/-! ## the words of the refusals -/
theorem word_track : f__law_word [.exc "NoTrack"] = .ok (.str "no track") := rfl
theorem word_number : f__law_word [.exc "NoNumber"] = .ok (.str "no number") := rfl
theorem word_time : f__law_word [.exc "NoTime"] = .ok (.str "no time") := rfl
theorem word_fit : f__law_word [.exc "NoFit"] = .ok (.str "no fit") := rfl
theorem word_point : f__law_word [.exc "NoPoint"] = .ok (.str "no point") := rfl
theorem word_text : f__law_word [.exc "NoText"] = .ok (.str "no text") := rfl
/-! ## whole numbers, points and tracks among all things -/
def wholeB (d : D) (a b : Int) : Bool := match d with
  | .int i => decide (a ≤ i) && decide (i ≤ b)
  | _ => false
theorem whole_any {d : D} (h : d.pl = true) (a b : Int) : f_is_whole [d, .int a, .int b] = .ok (.bl (wholeB d a b)) := by
  cases d with
  | int i => exact whole_ok i a b
  | bl k => exact rcall rfl (rret (eandT (e1 rfl rfl) (eandF (enT (e1 rfl rfl)))))
  | exc c => cases h
  | _ => exact rcall rfl (rret (eandF (e1 rfl rfl)))
theorem whole_anyL {d : D} (h : d.pl = true) (a b : Int) : f__law_whole [d, .int a, .int b] = .ok (.bl (wholeB d a b)) := whole_any h a b
def pointB : D → Bool
  | .tup [a, b, c] => wholeB a 0 999 && (wholeB b (-99) 99 && wholeB c (-99) 99)
  | _ => false
theorem pointB3 (a b c : D) : pointB (.tup [a, b, c]) = (wholeB a 0 999 && (wholeB b (-99) 99 && wholeB c (-99) 99)) := rfl
theorem plAll_mem : ∀ {l : List D}, plAll l = true → ∀ d ∈ l, d.pl = true
  | [], _, d, h => by cases h
  | x :: l, h, d, hd => by
    have h' : x.pl = true ∧ plAll l = true := by simpa [plAll] using h
    rcases List.mem_cons.mp hd with rfl | hd
    · exact h'.1
    · exact plAll_mem h'.2 d hd
theorem pointB_len {l : List D} (h : l.length ≠ 3) : pointB (.tup l) = false := by
  unfold pointB
  split
  · rename_i e
    cases e
    exact absurd rfl h
  · rfl
theorem len3 {l : List D} (h : l.length = 3) : ∃ a b c, l = [a, b, c] := by
  match l, h with
  | [a, b, c], _ => exact ⟨a, b, c, rfl⟩
theorem point_any {d : D} (h : d.pl = true) : f_is_point [d] = .ok (.bl (pointB d)) := by
  cases d with
  | tup l =>
    by_cases h3 : l.length = 3
    · obtain ⟨a, b, c, rfl⟩ := len3 h3
      have pa := plAll_mem (show plAll [a, b, c] = true from h)
      have wa := whole_any (pa a (by simp)) 0 999
      cases ea : wholeB a 0 999 with
      | false =>
        rw [ea] at wa
        have : pointB (.tup [a, b, c]) = false := by rw [pointB3, ea]; rfl
        rw [this]
        exact rcall rfl (riteT (eorF (enT (e1 rfl rfl)) (eorF (e2 (e1 rfl rfl) ki rfl) (enF (ec (lc (e2 rfl ki rfl) (lc ki (lc rfl l0))) wa)))) (rret rfl))
      | true =>
        rw [ea] at wa
        have e : pointB (.tup [a, b, c]) = [b, c].all fun x => wholeB x (-99) 99 := by rw [pointB3, ea]; simp
        rw [e]
        refine rcall rfl (riteF (eorF (enT (e1 rfl rfl)) (eorF (e2 (e1 rfl rfl) ki rfl) (enT (ec (lc (e2 rfl ki rfl) (lc ki (lc rfl l0))) wa)))) ?_)
        refine rret (e1 (ecomp [b, c] id (fun x => .bl (wholeB x (-99) 99)) rfl (by simp) ?_) (all_map (fun x => wholeB x (-99) 99) [b, c]))
        intro x hx
        exact ⟨_, rfl, ec (lc rfl (lc rfl (lc rfl l0))) (whole_any (pa x (List.mem_cons_of_mem _ hx)) _ _)⟩
    · rw [pointB_len h3]
      refine rcall rfl (riteT (eorF (enT (e1 rfl rfl)) (eorT (e2 (e1 rfl rfl) ki ((o_neI _ _).trans ?_)))) (rret rfl))
      rw [decide_eq_false (by omega)]; rfl
  | exc c => cases h
  | _ => exact rcall rfl (riteT (eorT (enF (e1 rfl rfl))) (rret rfl))
theorem point_anyL {d : D} (h : d.pl = true) : f__law_is_point [d] = .ok (.bl (pointB d)) := by
  cases d with
  | tup l =>
    by_cases h3 : l.length = 3
    · obtain ⟨a, b, c, rfl⟩ := len3 h3
      have pa := plAll_mem (show plAll [a, b, c] = true from h)
      have wa := whole_anyL (pa a (by simp)) 0 999
      cases ea : wholeB a 0 999 with
      | false =>
        rw [ea] at wa
        have : pointB (.tup [a, b, c]) = false := by rw [pointB3, ea]; rfl
        rw [this]
        exact rcall rfl (riteT (eorF (enT (e1 rfl rfl)) (eorF (e2 (e1 rfl rfl) ki rfl) (enF (ec (lc (e2 rfl ki rfl) (lc ki (lc ki l0))) wa)))) (rret rfl))
      | true =>
        rw [ea] at wa
        have e : pointB (.tup [a, b, c]) = (wholeB b (-99) 99 && wholeB c (-99) 99) := by rw [pointB3, ea]; simp
        rw [e]
        refine rcall rfl (riteF (eorF (enT (e1 rfl rfl)) (eorF (e2 (e1 rfl rfl) ki rfl) (enT (ec (lc (e2 rfl ki rfl) (lc ki (lc ki l0))) wa)))) ?_)
        exact rret (eandB (ec (lc (e2 rfl ki rfl) (lc (e1 ki rfl) (lc ki l0))) (whole_anyL (pa b (by simp)) _ _)) (ec (lc (e2 rfl ki rfl) (lc (e1 ki rfl) (lc ki l0))) (whole_anyL (pa c (by simp)) _ _)))
    · rw [pointB_len h3]
      refine rcall rfl (riteT (eorF (enT (e1 rfl rfl)) (eorT (e2 (e1 rfl rfl) ki ((o_neI _ _).trans ?_)))) (rret rfl))
      rw [decide_eq_false (by omega)]; rfl
  | exc c => cases h
  | _ => exact rcall rfl (riteT (eorT (enF (e1 rfl rfl))) (rret rfl))
def tmD : D → Int
  | .tup (.int t :: _) => t
  | _ => 0
def riseB (l : List D) : Bool := (l.zip (l.drop 1)).all fun q => decide (tmD q.1 < tmD q.2)
def trackB : D → Bool
  | .tup l => decide (1 ≤ l.length) && decide (l.length ≤ 12) && (l.all pointB && riseB l)
  | _ => false
theorem point_is {d : D} (h : pointB d = true) : ∃ p : P3, d = ptD p ∧ InPt p := by
  unfold pointB at h
  split at h
  · rename_i a b c
    rw [Bool.and_eq_true, Bool.and_eq_true] at h
    obtain ⟨h1, h2, h3⟩ := h
    cases a with
    | int x =>
      cases b with
      | int y =>
        cases c with
        | int z =>
          simp only [wholeB, Bool.and_eq_true, decide_eq_true_eq] at h1 h2 h3
          exact ⟨(x, y, z), rfl, h1.1, h1.2, h2.1, h2.2, h3.1, h3.2⟩
        | _ => cases h3
      | _ => cases h2
    | _ => cases h1
  · cases h
theorem points_are : ∀ {l : List D}, l.all pointB = true → ∃ ps : List P3, l = ps.map ptD ∧ ∀ p ∈ ps, InPt p
  | [], _ => ⟨[], rfl, fun p h => by cases h⟩
  | d :: l, h => by
    rw [List.all_cons, Bool.and_eq_true] at h
    obtain ⟨p, rfl, hp⟩ := point_is h.1
    obtain ⟨ps, rfl, hps⟩ := points_are h.2
    exact ⟨p :: ps, rfl, fun q hq => by
      rcases List.mem_cons.mp hq with rfl | hq
      · exact hp
      · exact hps q hq⟩
theorem point_pt {p : P3} (h : InPt p) : pointB (ptD p) = true := by
  obtain ⟨h1, h2, h3, h4, h5, h6⟩ := h
  show (wholeB (.int p.1) 0 999 && (wholeB (.int p.2.1) (-99) 99 && wholeB (.int p.2.2) (-99) 99)) = true
  simp [wholeB, h1, h2, h3, h4, h5, h6]
theorem riseB_pts : ∀ (ps : List P3), riseB (ps.map ptD) = true ↔ Rise ps
  | [] => by simp [riseB, Rise]
  | [_] => by simp [riseB, Rise]
  | a :: b :: r => by
    have ih := riseB_pts (b :: r)
    have e : riseB ((a :: b :: r).map ptD) = (decide (a.1 < b.1) && riseB ((b :: r).map ptD)) := rfl
    rw [e, Bool.and_eq_true, ih, decide_eq_true_eq]
    exact Iff.rfl
theorem track_is {d : D} (h : trackB d = true) : ∃ T : List P3, d = trk T ∧ Good T := by
  cases d with
  | tup l =>
    have h' : (decide (1 ≤ l.length) && decide (l.length ≤ 12) && (l.all pointB && riseB l)) = true := h
    rw [Bool.and_eq_true, Bool.and_eq_true, Bool.and_eq_true, decide_eq_true_eq, decide_eq_true_eq] at h'
    obtain ⟨⟨h1, h2⟩, h3, h4⟩ := h'
    obtain ⟨ps, rfl, hp⟩ := points_are h3
    rw [List.length_map] at h1 h2
    exact ⟨ps, rfl, h1, h2, hp, (riseB_pts ps).mp h4⟩
  | _ => cases h
theorem track_good {T : List P3} (G : Good T) : trackB (trk T) = true := by
  show (decide (1 ≤ (T.map ptD).length) && decide ((T.map ptD).length ≤ 12) && ((T.map ptD).all pointB && riseB (T.map ptD))) = true
  rw [List.length_map, decide_eq_true G.ne, decide_eq_true G.le, (riseB_pts T).mpr G.up]
  have : (T.map ptD).all pointB = true := List.all_eq_true.mpr fun d hd => by
    obtain ⟨p, hp, rfl⟩ := List.mem_map.mp hd
    exact point_pt (G.pt p hp)
  rw [this]; rfl
theorem track_any {d : D} (h : d.pl = true) : f_is_track [d] = .ok (.bl (trackB d)) := by
  cases d with
  | tup l =>
    have pa := plAll_mem (show plAll l = true from h)
    have ln : ev (.prim pLen (.cons (.v 0) .nil)) (full (startS 4 [.tup l])) = .ok (.int (l.length : Nat)) := e1 rfl rfl
    by_cases hl : 1 ≤ l.length ∧ l.length ≤ 12
    · have e0 : trackB (.tup l) = (l.all pointB && riseB l) := by
        show (decide (1 ≤ l.length) && decide (l.length ≤ 12) && _) = _
        rw [decide_eq_true hl.1, decide_eq_true hl.2]; rfl
      rw [e0]
      have ch : ev (.chain .LtE .LtE opLe opLe (.c (.int 1)) (.prim pLen (.cons (.v 0) .nil)) (.g "MOST" (.int 12))) (full (startS 4 [.tup l])) = .ok (.bl true) := by
        refine (echain ki ln rfl rfl rfl).trans ?_
        rw [decide_eq_true (by omega), decide_eq_true (by omega)]; rfl
      have al : ev (.prim pAll (.cons (.comp [("point", 1)] (.name 1) (.seq (.v 0)) .none (.call "is_point" f_is_point (.cons (.v 1) .nil))) .nil)) (full (startS 4 [.tup l])) = .ok (.bl (l.all pointB)) := by
        refine e1 (ecomp l id (fun x => .bl (pointB x)) ?_ (by omega) ?_) (all_map pointB l)
        · show Res.ok l = _; rw [List.map_id]
        · intro x hx
          exact ⟨_, rfl, ec (lc rfl l0) (point_any (pa x hx))⟩
      cases ea : l.all pointB with
      | false =>
        rw [ea] at al
        exact rcall rfl (riteT (eorF (enT (e1 rfl rfl)) (eorF (enT ch) (enF al))) (rret rfl))
      | true =>
        rw [ea] at al
        obtain ⟨ps, rfl, hp⟩ := points_are ea
        refine rcall rfl (riteF (eorF (enT (e1 rfl rfl)) (eorF (enT ch) (enT al))) ?_)
        refine rret (e1 (ecomp (ps.zip (ps.drop 1)) (fun q => .tup [ptD q.1, ptD q.2]) (fun q => .bl (decide (q.1.1 < q.2.1))) ?_ ?_ ?_) ?_)
        · show zipItems (.tup (ps.map ptD)) (.tup (cutG (ps.map ptD) (some ((1 : Nat) : Int)) none)) = _
          rw [cut_lo, ← List.map_drop]
          show Res.ok (zipD _ _) = _
          rw [zipD_map]
        · rw [List.length_zip]; rw [List.length_map] at hl; omega
        · intro q hq
          exact ⟨_, rfl, elt (e2 rfl ki rfl) (e2 rfl ki rfl)⟩
        · refine (all_map _ _).trans ?_
          unfold riseB
          rw [← List.map_drop, List.zip_map, List.all_map]
          rfl
    · have e0 : trackB (.tup l) = false := by
        show (decide (1 ≤ l.length) && decide (l.length ≤ 12) && _) = _
        by_cases h1 : 1 ≤ l.length
        · rw [decide_eq_true h1, decide_eq_false (show ¬ l.length ≤ 12 from fun z => hl ⟨h1, z⟩)]; rfl
        · rw [decide_eq_false h1]; rfl
      rw [e0]
      have ch : ev (.chain .LtE .LtE opLe opLe (.c (.int 1)) (.prim pLen (.cons (.v 0) .nil)) (.g "MOST" (.int 12))) (full (startS 4 [.tup l])) = .ok (.bl false) := by
        refine (echain ki ln rfl rfl rfl).trans ?_
        by_cases h1 : 1 ≤ l.length
        · rw [decide_eq_true (show (1 : Int) ≤ (l.length : Nat) by omega), decide_eq_false (show ¬ ((l.length : Nat) : Int) ≤ 12 by omega)]; rfl
        · rw [decide_eq_false (show ¬ (1 : Int) ≤ (l.length : Nat) by omega)]; rfl
      exact rcall rfl (riteT (eorF (enT (e1 rfl rfl)) (eorT (enF ch))) (rret rfl))
  | exc c => cases h
  | _ => exact rcall rfl (riteT (eorT (enF (e1 rfl rfl))) (rret rfl))
theorem look_any {d : D} (h : d.pl = true) : f_look_track [d] = if trackB d then .ok .non else .exc "NoTrack" := by
  have t := track_any h
  show outR (PL.run b_look_track (startS 1 [d])) = _
  cases e : trackB d with
  | true =>
    rw [e] at t
    have : PL.run b_look_track (startS 1 [d]) = .nx (startS 1 [d]) := riteF (enT (ec (lc rfl l0) t)) rfl
    rw [this]; rfl
  | false =>
    rw [e] at t
    have : PL.run b_look_track (startS 1 [d]) = .exc "NoTrack" := rite (enF (ec (lc rfl l0) t)) rfl
    rw [this]; rfl
end PL

namespace PL
open PySem PySem.Spec PyProof.Rows L2
/-! ## the laws' own test of a track -/
theorem Sh.tupI {n : Nat} {l : List D} (h : Sh n (.tup l)) : ∃ m, n = m + 1 ∧ ∀ d ∈ l, Sh m d := by
  obtain ⟨h1, h2, h3⟩ := h
  have h3' : PyData.depthAll (pyAll l) + 1 ≤ n := h3
  refine ⟨n - 1, by omega, ?_⟩
  have key : ∀ (l : List D), plAll l = true → PyData.canLayAll0 (pyAll l) = true → PyData.depthAll (pyAll l) ≤ n - 1 → ∀ d ∈ l, Sh (n - 1) d := by
    intro l
    induction l with
    | nil => intro _ _ _ d hd; cases hd
    | cons x l ih =>
      intro a b c d hd
      have a' : x.pl = true ∧ plAll l = true := by simpa [plAll] using a
      have b' : x.py.canLay0 = true ∧ PyData.canLayAll0 (pyAll l) = true := by
        have : (x.py.canLay0 && PyData.canLayAll0 (pyAll l)) = true := b
        simpa using this
      have c' : max x.py.depth (PyData.depthAll (pyAll l)) ≤ n - 1 := c
      rcases List.mem_cons.mp hd with rfl | hd
      · exact ⟨a'.1, b'.1, by omega⟩
      · exact ih a'.2 b'.2 (by omega) d hd
  exact key l h1 h2 (by omega)
theorem Sh.mono {n m : Nat} {d : D} (h : Sh n d) (le : n ≤ m) : Sh m d := ⟨h.pl, h.lay, Nat.le_trans h.dep le⟩
theorem all_filter {α : Type} (p : α → Bool) : ∀ l : List α, (l.filterMap fun x => if !p x then some x else none).isEmpty = l.all p
  | [] => rfl
  | a :: l => by
    rw [List.filterMap_cons, List.all_cons]
    cases e : p a with
    | true => simp only [Bool.not_true, Bool.false_eq_true, if_false]; rw [all_filter p l]; rfl
    | false => rfl
theorem eqq {d : D} {a b : Bool} (h : a = b) : (Res.ok (D.bl a) : Res D) = .ok (.bl b) := by rw [h]
theorem ite_no {c : Bool} {x : D} : (if c = true then some x else none) = none ↔ c = false := by cases c <;> simp
theorem rise_range (ps : List P3) : ((List.range (ps.length - 1)).filterMap fun k => if decide ((at3 ps (k + 1)).1 ≤ (at3 ps k).1) then some (D.int ((k : Int) + 1)) else none).isEmpty = riseB (ps.map ptD) := by
  rw [Bool.eq_iff_iff, riseB_pts, List.isEmpty_iff, List.filterMap_eq_nil_iff]
  have get : ∀ {l : List P3} {i : Nat} (h : i < l.length), at3 l i = l[i] := fun h => by unfold at3; rw [List.getD_eq_getElem?_getD, List.getElem?_eq_getElem h]; rfl
  induction ps with
  | nil => simp [Rise]
  | cons a l ih =>
    cases l with
    | nil => simp [Rise]
    | cons b r =>
      constructor
      · intro h
        refine ⟨?_, ih.mp fun k hk => ?_⟩
        · have := h 0 (by simp)
          simp only [ite_eq_right_iff, reduceCtorEq, imp_false] at this
          have h2 : ¬ ((at3 (a :: b :: r) (0 + 1)).1 ≤ (at3 (a :: b :: r) 0).1) := by simpa using this
          have e1 : at3 (a :: b :: r) (0 + 1) = b := rfl
          have e2 : at3 (a :: b :: r) 0 = a := rfl
          rw [e1, e2] at h2
          omega
        · have hk' : k < r.length := by simpa using hk
          have := h (k + 1) (by simp; omega)
          rw [ite_no] at this ⊢
          exact this
      · intro ⟨h1, h2⟩ k hk
        cases k with
        | zero =>
          have e1 : at3 (a :: b :: r) (0 + 1) = b := rfl
          have e2 : at3 (a :: b :: r) 0 = a := rfl
          rw [e1, e2, if_neg]
          simp only [decide_eq_true_eq]
          omega
        | succ k =>
          have hk' : k < r.length := by simpa using hk
          have := ih.mpr h2 k (by simpa using hk')
          rw [ite_no] at this ⊢
          exact this
theorem rng_1n {n : Nat} (h : n ≤ 1000) : rngD [.int 1, .int ((n : Nat) : Int)] = .ok ((List.range (n - 1)).map fun (k : Nat) => D.int ((k : Int) + 1)) := by
  have o1 : okZ 1 = true := by decide
  have o2 : okZ ((n : Nat) : Int) = true := by
    unfold okZ
    rw [decide_eq_true (by omega), decide_eq_true (by omega)]; rfl
  show (if (okZ 1 && okZ ((n : Nat) : Int)) = true then Res.ok (rangeD 1 ((n : Nat) : Int)) else Res.stuck) = _
  rw [o1, o2]
  show Res.ok (rangeD 1 ((n : Nat) : Int)) = _
  unfold rangeD
  have e : (((n : Nat) : Int) - 1).toNat = n - 1 := by omega
  rw [e]
  exact congrArg Res.ok (List.map_congr_left fun k _ => by rw [Int.add_comm])
theorem track_anyL {d : D} {n : Nat} (h : Sh n d) (hn : n ≤ 60) : f__law_is_track [d] = .ok (.bl (trackB d)) := by
  have hp := h.pl
  cases d with
  | tup l =>
    have pa := plAll_mem (show plAll l = true from hp)
    have ln : ev (.prim pLen (.cons (.v 0) .nil)) (full (startS 3 [.tup l])) = .ok (.int (l.length : Nat)) := e1 rfl rfl
    by_cases hl : 1 ≤ l.length ∧ l.length ≤ 12
    · have e0 : trackB (.tup l) = (l.all pointB && riseB l) := by
        show (decide (1 ≤ l.length) && decide (l.length ≤ 12) && _) = _
        rw [decide_eq_true hl.1, decide_eq_true hl.2]; rfl
      rw [e0]
      have ch : ev (.chain .LtE .LtE opLe opLe (.c (.int 1)) (.prim pLen (.cons (.v 0) .nil)) (.c (.int 12))) (full (startS 3 [.tup l])) = .ok (.bl true) := by
        refine (echain ki ln ki rfl rfl).trans ?_
        rw [decide_eq_true (by omega), decide_eq_true (by omega)]; rfl
      obtain ⟨m, hm, hsh⟩ := h.tupI
      have al : ev (.prim pNe (.cons (.comp [("one", 1)] (.name 1) (.seq (.v 0)) (.some (.not (.call "_law_is_point" f__law_is_point (.cons (.v 1) .nil)))) (.v 1)) (.cons (.prim pLst .nil) .nil))) (full (startS 3 [.tup l])) = .ok (.bl (!(l.all pointB))) := by
        refine e2 (ecompF l id (fun x => if !pointB x then some x else none) ?_ (by omega) ?_) rfl ?_
        · show Res.ok l = _; rw [List.map_id]
        · intro x hx
          refine ⟨_, !pointB x, rfl, enot (ec (lc rfl l0) (point_anyL (pa x hx))), fun z => by rw [z]; rfl, fun z => ⟨x, rfl, by rw [z]; rfl⟩⟩
        · refine (ne_nil (n := m) ?_ (by omega)).trans ?_
          · intro y hy
            obtain ⟨x, hx, e⟩ := List.mem_filterMap.mp hy
            split at e
            · have e2 := Option.some.inj e
              rw [← e2]; exact hsh x hx
            · cases e
          · rw [all_filter]
      cases ea : l.all pointB with
      | false =>
        rw [ea] at al
        exact rcall rfl (riteF (eorF (enT (e1 rfl rfl)) (enT ch)) (riteT al (rret rfl)))
      | true =>
        rw [ea] at al
        obtain ⟨ps, rfl, hp⟩ := points_are ea
        rw [List.length_map] at hl
        refine rcall rfl (riteF (eorF (enT (e1 rfl rfl)) (enT ch)) (riteF al ?_))
        refine rret (e2 (ecompF (List.range (ps.length - 1)) (fun (k : Nat) => D.int ((k : Int) + 1)) (fun k => if decide ((at3 ps (k + 1)).1 ≤ (at3 ps k).1) then some (D.int ((k : Int) + 1)) else none) ?_ (by rw [List.length_range]; omega) ?_) rfl ?_)
        · refine irng (lc ki (lc ln l0)) ?_
          rw [List.length_map]
          exact rng_1n (by omega)
        · intro k hk
          have hk' : k < ps.length - 1 := List.mem_range.mp hk
          have get : ∀ {i : Nat} (h : i < ps.length), at3 ps i = ps[i] := fun h => by unfold at3; rw [List.getD_eq_getElem?_getD, List.getElem?_eq_getElem h]; rfl
          have i1 : opIx (.tup (ps.map ptD)) (.int ((k : Int) + 1)) = some (ptD (at3 ps (k + 1))) := by
            rw [o_ixT, show ((k : Int) + 1) = ((k + 1 : Nat) : Int) by omega, atN, List.getElem?_map, List.getElem?_eq_getElem (show k + 1 < ps.length by omega), get]; rfl
          have i2 : opIx (.tup (ps.map ptD)) (.int ((k : Int) + 1 - 1)) = some (ptD (at3 ps k)) := by
            rw [o_ixT, show ((k : Int) + 1 - 1) = ((k : Nat) : Int) by omega, atN, List.getElem?_map, List.getElem?_eq_getElem (show k < ps.length by omega), get]; rfl
          refine ⟨_, decide ((at3 ps (k + 1)).1 ≤ (at3 ps k).1), rfl, ele (e2 (e2 rfl rfl i1) ki rfl) (e2 (e2 rfl (esub rfl ki) i2) ki rfl), fun z => by rw [z]; rfl, fun z => ⟨_, rfl, by rw [z]; rfl⟩⟩
        · refine (eq_nil (n := 0) ?_ (by omega)).trans ?_
          · intro y hy
            obtain ⟨x, hx, e⟩ := List.mem_filterMap.mp hy
            split at e
            · cases e; exact Sh.int 0 _
            · cases e
          · rw [rise_range]; rfl
    · have e0 : trackB (.tup l) = false := by
        show (decide (1 ≤ l.length) && decide (l.length ≤ 12) && _) = _
        by_cases h1 : 1 ≤ l.length
        · rw [decide_eq_true h1, decide_eq_false (show ¬ l.length ≤ 12 from fun z => hl ⟨h1, z⟩)]; rfl
        · rw [decide_eq_false h1]; rfl
      rw [e0]
      have ch : ev (.chain .LtE .LtE opLe opLe (.c (.int 1)) (.prim pLen (.cons (.v 0) .nil)) (.c (.int 12))) (full (startS 3 [.tup l])) = .ok (.bl false) := by
        refine (echain ki ln ki rfl rfl).trans ?_
        by_cases h1 : 1 ≤ l.length
        · rw [decide_eq_true (show (1 : Int) ≤ (l.length : Nat) by omega), decide_eq_false (show ¬ ((l.length : Nat) : Int) ≤ 12 by omega)]; rfl
        · rw [decide_eq_false (show ¬ (1 : Int) ≤ (l.length : Nat) by omega)]; rfl
      exact rcall rfl (riteT (eorF (enT (e1 rfl rfl)) (enF ch)) (rret rfl))
  | exc c => cases hp
  | _ => exact rcall rfl (riteT (eorT (enF (e1 rfl rfl))) (rret rfl))
end PL

namespace PL
open PySem PySem.Spec PyProof.Rows L2
/-! ## all places in a thing -/
def tupN (p : List Nat) : D := .tup (p.map fun (k : Nat) => D.int (k : Int))
def placesOf : Nat → D → List (List Nat)
  | 0, _ => []
  | n + 1, .tup l => [] :: (List.range l.length).flatMap fun k => (placesOf n (l.getD k .non)).map (k :: ·)
  | _ + 1, _ => [[]]
/-- so deep at most -/
def Deep : Nat → D → Prop
  | 0, _ => False
  | n + 1, .tup l => ∀ e ∈ l, Deep n e
  | _ + 1, _ => True
def pathD : D → List Nat → Option D
  | d, [] => some d
  | .tup l, k :: r => match l[k]? with
    | some e => pathD e r
    | none => none
  | _, _ :: _ => none
def putD : D → List Nat → D → D
  | _, [], new => new
  | .tup l, k :: r, new => .tup (l.set k (putD (l.getD k .non) r new))
  | d, _ :: _, _ => d
theorem getD_get {l : List D} {k : Nat} (h : k < l.length) : l.getD k .non = l[k] := by rw [List.getD_eq_getElem?_getD, List.getElem?_eq_getElem h]; rfl
theorem places_path : ∀ (n : Nat) (d : D) (p : List Nat), p ∈ placesOf n d → p.length < n ∧ ∃ e, pathD d p = some e
  | 0, d, p, h => by cases h
  | n + 1, .tup l, p, h => by
    rcases List.mem_cons.mp (show p ∈ [] :: (List.range l.length).flatMap fun k => (placesOf n (l.getD k .non)).map (k :: ·) from h) with rfl | h
    · exact ⟨by simp, _, by unfold pathD; rfl⟩
    · obtain ⟨k, hk, h⟩ := List.mem_flatMap.mp h
      obtain ⟨r, hr, rfl⟩ := List.mem_map.mp h
      obtain ⟨h1, e, h2⟩ := places_path n _ r hr
      have hk' : k < l.length := List.mem_range.mp hk
      refine ⟨by rw [List.length_cons]; omega, e, ?_⟩
      show (match l[k]? with | some e => pathD e r | none => none) = _
      rw [List.getElem?_eq_getElem hk']
      rw [getD_get hk'] at h2
      exact h2
  | n + 1, .non, p, h => by cases List.mem_singleton.mp (show p ∈ [[]] from h); exact ⟨by simp, _, rfl⟩
  | n + 1, .bl _, p, h => by cases List.mem_singleton.mp (show p ∈ [[]] from h); exact ⟨by simp, _, rfl⟩
  | n + 1, .int _, p, h => by cases List.mem_singleton.mp (show p ∈ [[]] from h); exact ⟨by simp, _, rfl⟩
  | n + 1, .str _, p, h => by cases List.mem_singleton.mp (show p ∈ [[]] from h); exact ⟨by simp, _, rfl⟩
  | n + 1, .lst _, p, h => by cases List.mem_singleton.mp (show p ∈ [[]] from h); exact ⟨by simp, _, rfl⟩
  | n + 1, .scr _, p, h => by cases List.mem_singleton.mp (show p ∈ [[]] from h); exact ⟨by simp, _, rfl⟩
  | n + 1, .dct _ _, p, h => by cases List.mem_singleton.mp (show p ∈ [[]] from h); exact ⟨by simp, _, rfl⟩
  | n + 1, .dcT _ _, p, h => by cases List.mem_singleton.mp (show p ∈ [[]] from h); exact ⟨by simp, _, rfl⟩
  | n + 1, .exc _, p, h => by cases List.mem_singleton.mp (show p ∈ [[]] from h); exact ⟨by simp, _, rfl⟩
def plBody (F : List D → Res D) : S := .cons (.extd true 1 (.comp [("place", 3)] (.name 3) (.seq (.call "_law_places" F (.cons (.prim pIx (.cons (.v 0) (.cons (.v 2) .nil))) .nil))) .none (.prim pAdd (.cons (.prim pTup (.cons (.v 2) .nil)) (.cons (.v 3) .nil))))) .nil
theorem pl_loop {F : List D → Res D} {l : List D} {g : Nat → List (List Nat)} (hF : ∀ k, (h : k < l.length) → F [l[k]] = .ok (.lst ((g k).map tupN)) ∧ (g k).length ≤ 1000 ∧ ∀ p ∈ g k, p.length ≤ 1000) : ∀ (ks : List Nat) (acc : List D) (K : Sl), (∀ k ∈ ks, k < l.length) → acc.length + (ks.flatMap g).length < 90000 →
    ∃ K', forM (fun s => run (plBody F) s) (.name 2) (ks.map fun (k : Nat) => D.int (0 + (k : Int))) [.ro (.tup l), .own acc, K, .no] = .nx [.ro (.tup l), .own (acc ++ (ks.flatMap fun k => (g k).map (k :: ·)).map tupN), K', .no]
  | [], acc, K, _, _ => ⟨K, by
    show Out.nx _ = _
    simp⟩
  | k :: ks, acc, K, h, hl => by
    have hk : k < l.length := h k List.mem_cons_self
    obtain ⟨f1, f2, f3⟩ := hF k hk
    rw [List.flatMap_cons, List.length_append] at hl
    have step : run (plBody F) [.ro (.tup l), .own acc, .ro (.int (0 + (k : Int))), .no] = .nx [.ro (.tup l), .own (acc ++ ((g k).map (k :: ·)).map tupN), .ro (.int (0 + (k : Int))), .no] := by
      refine rextd (l := acc) (es := ((g k).map (k :: ·)).map tupN) rfl ?_ rfl ?_ rfl
      · refine (ecomp (g k) tupN (fun p => tupN (k :: p)) (iseq (ec (lc (e2 rfl rfl ?_) l0) f1) rfl) f2 ?_).trans ?_
        · show atI l (0 + (k : Int)) = _
          rw [Int.zero_add, atN, List.getElem?_eq_getElem hk]
        · intro p hp
          refine ⟨_, rfl, e2 (e1 rfl rfl) rfl ?_⟩
          show (if [D.int (0 + (k : Int))].length + (p.map fun (k : Nat) => D.int (k : Int)).length ≤ sizeD then some (D.tup ([D.int (0 + (k : Int))] ++ p.map fun (k : Nat) => D.int (k : Int))) else none) = _
          rw [if_pos (by rw [List.length_map]; have := f3 p hp; unfold sizeD; simp; omega), Int.zero_add]
          rfl
        · rw [List.map_map]; rfl
      · rw [List.length_map, List.length_map]; unfold sizeD; omega
    obtain ⟨K', ih⟩ := pl_loop hF ks (acc ++ ((g k).map (k :: ·)).map tupN) (.ro (.int (0 + (k : Int)))) (fun j hj => h j (List.mem_cons_of_mem _ hj)) (by rw [List.length_append, List.length_map, List.length_map]; omega)
    refine ⟨K', ?_⟩
    show seqO (run (plBody F) [.ro (.tup l), .own acc, .ro (.int (0 + (k : Int))), .no]) _ = _
    rw [step]
    refine ih.trans ?_
    rw [List.flatMap_cons, List.map_append, List.append_assoc]
theorem rng_0n {n : Nat} (h : n ≤ 1000) : rngD [.int ((n : Nat) : Int)] = .ok ((List.range n).map fun (k : Nat) => D.int (0 + (k : Int))) := by
  have o2 : okZ ((n : Nat) : Int) = true := by
    unfold okZ
    rw [decide_eq_true (by omega), decide_eq_true (by omega)]; rfl
  show (if okZ ((n : Nat) : Int) = true then Res.ok (rangeD 0 ((n : Nat) : Int)) else Res.stuck) = _
  rw [o2]
  show Res.ok (rangeD 0 ((n : Nat) : Int)) = _
  unfold rangeD
  have e : (((n : Nat) : Int) - 0).toNat = n := by omega
  rw [e]
theorem len_flat {g : Nat → List (List Nat)} : ∀ {ks : List Nat} {k : Nat}, k ∈ ks → (g k).length ≤ (ks.flatMap g).length
  | j :: ks, k, h => by
    rw [List.flatMap_cons, List.length_append]
    rcases List.mem_cons.mp h with rfl | h
    · omega
    · have := len_flat (g := g) h
      omega
theorem len_flat1 {g : Nat → List (List Nat)} : ∀ {ks : List Nat}, (∀ k ∈ ks, 1 ≤ (g k).length) → ks.length ≤ (ks.flatMap g).length
  | [], _ => by simp
  | j :: ks, h => by
    rw [List.flatMap_cons, List.length_append, List.length_cons]
    have a := h j List.mem_cons_self
    have b := len_flat1 (g := g) (ks := ks) fun k hk => h k (List.mem_cons_of_mem _ hk)
    omega
theorem places_pos {n : Nat} {d : D} (h : Deep n d) : 1 ≤ (placesOf n d).length := by
  cases n with
  | zero => exact h.elim
  | succ n => cases d <;> first | exact Nat.le_refl 1 | exact Nat.le_add_left 1 _
theorem places_succ (n : Nat) (l : List D) : (placesOf (n + 1) (.tup l)).length = ((List.range l.length).flatMap fun k => placesOf n (l.getD k .non)).length + 1 := by
  show ([] :: (List.range l.length).flatMap fun k => (placesOf n (l.getD k .non)).map (k :: ·)).length = _
  rw [List.length_cons, List.length_flatMap, List.length_flatMap]
  simp
theorem law_places_ok : ∀ (n : Nat) (d : D), n ≤ 1000 → Deep n d → (placesOf n d).length ≤ 1000 → d.pl = true → f__law_places n [d] = .ok (.lst ((placesOf n d).map tupN))
  | 0, d, _, h, _, _ => h.elim
  | n + 1, d, hn, hd, hw, hp => by
    cases d with
    | tup l =>
      have hd' : ∀ e ∈ l, Deep n e := hd
      have pa := plAll_mem (show plAll l = true from hp)
      rw [places_succ] at hw
      have sub : ∀ k, k < l.length → (placesOf n (l.getD k .non)).length ≤ 1000 := fun k hk => by
        have := len_flat (g := fun k => placesOf n (l.getD k .non)) (List.mem_range.mpr hk)
        omega
      have hl : l.length ≤ 1000 := by
        have := len_flat1 (g := fun k => placesOf n (l.getD k .non)) (ks := List.range l.length) fun k hk => by
          have hk' := List.mem_range.mp hk
          rw [getD_get hk']
          exact places_pos (hd' _ (List.getElem_mem hk'))
        rw [List.length_range] at this
        omega
      have hF : ∀ k, (h : k < l.length) → f__law_places n [l[k]] = .ok (.lst ((placesOf n (l.getD k .non)).map tupN)) ∧ (placesOf n (l.getD k .non)).length ≤ 1000 ∧ ∀ p ∈ placesOf n (l.getD k .non), p.length ≤ 1000 := fun k hk => by
        have s := sub k hk
        rw [getD_get hk] at s ⊢
        have m := List.getElem_mem hk
        refine ⟨law_places_ok n _ (by omega) (hd' _ m) s (pa _ m), s, fun p hpp => ?_⟩
        have := (places_path n _ p hpp).1
        omega
      obtain ⟨K', lp⟩ := pl_loop hF (List.range l.length) [.tup []] .no (fun k hk => List.mem_range.mp hk) (by simp only [List.length_cons, List.length_nil]; omega)
      refine rcall rfl (rown (l := [.tup []]) rfl rfl ?_)
      refine rite2 (s' := [.ro (.tup l), .own ([.tup []] ++ ((List.range l.length).flatMap fun k => (placesOf n (l.getD k .non)).map (k :: ·)).map tupN), K', .no]) (k := true) (e1 rfl rfl) (fun _ => ?_) (fun z => nomatch z) (rret rfl)
      exact rfor (irng (lc (e1 rfl rfl) l0) (rng_0n hl)) lp rfl
    | exc c => cases hp
    | _ => exact rcall rfl (rown (l := [.tup []]) rfl rfl (riteF (e1 rfl rfl) (rret rfl)))
/-! ## something else at a place -/
theorem sh_tupN (p : List Nat) : Sh 1 (tupN p) := Sh.tup (n := 0) fun d hd => by
  obtain ⟨k, _, rfl⟩ := List.mem_map.mp hd
  exact Sh.int 0 _
theorem eq_nilT {n : Nat} {l : List D} (h : Sh n (.tup l)) (hn : n ≤ 64) : opEq (.tup l) (.tup []) = some (.bl l.isEmpty) := by
  unfold opEq
  rw [h.shp hn]
  cases l <;> rfl
theorem ne_nilT {n : Nat} {l : List D} (h : Sh n (.tup l)) (hn : n ≤ 64) : opNe (.tup l) (.tup []) = some (.bl (!l.isEmpty)) := by
  unfold opNe
  rw [h.shp hn]
  cases l <;> rfl
/-- narrow: no tuple longer than that -/
def Nar : Nat → D → Prop
  | 0, _ => True
  | n + 1, .tup l => l.length ≤ 1000 ∧ ∀ e ∈ l, Nar n e
  | _ + 1, _ => True
theorem sl_lo {l : List D} (k : Nat) : opSlL (.tup l) (.int (k : Int)) = some (.tup (l.drop k)) := by
  show some (D.tup (cutG l (some (k : Int)) none)) = _
  rw [cut_lo]
theorem sl_hi {l : List D} (k : Nat) : opSlU (.tup l) (.int (k : Int)) = some (.tup (l.take k)) := by
  show some (D.tup (cutG l none (some (k : Int)))) = _
  rw [cut_hi]
theorem add_tup {a b : List D} (h : a.length + b.length ≤ 90000) : opAdd (.tup a) (.tup b) = some (.tup (a ++ b)) := by
  show (if a.length + b.length ≤ sizeD then some (D.tup (a ++ b)) else none) = _
  rw [if_pos (by unfold sizeD; omega)]
theorem set_cut {l : List D} {k : Nat} {x : D} (h : k < l.length) : l.take k ++ [x] ++ l.drop (k + 1) = l.set k x := by
  rw [List.set_eq_take_append_cons_drop, if_pos h]; simp
theorem law_put_ok : ∀ (p : List Nat) (n : Nat) (d e new : D), p.length < n → pathD d p = some e → Nar n d → f__law_put n [d, tupN p, new] = .ok (putD d p new)
  | [], 0, _, _, _, h, _, _ => by cases h
  | [], n + 1, d, e, new, h, hp, hw => by
    have : putD d [] new = new := by cases d <;> rfl
    rw [this]
    exact rcall rfl (riteT (e2 rfl rfl ((eq_nilT (sh_tupN []) (by decide)).trans rfl)) (rret rfl))
  | k :: r, 0, _, _, _, h, _, _ => by cases h
  | k :: r, n + 1, d, e, new, h, hp, hw => by
    cases d with
    | tup l =>
      have hp' : (match l[k]? with | some e => pathD e r | none => none) = some e := hp
      obtain ⟨w1, w2⟩ := (show l.length ≤ 1000 ∧ ∀ e ∈ l, Nar n e from hw)
      by_cases hk : k < l.length
      · rw [List.getElem?_eq_getElem hk] at hp'
        have ih := law_put_ok r n l[k] e new (by rw [List.length_cons] at h; omega) hp' (w2 _ (List.getElem_mem hk))
        have gp : putD (.tup l) (k :: r) new = .tup (l.take k ++ [putD l[k] r new] ++ l.drop (k + 1)) := by
          rw [set_cut hk]
          show D.tup (l.set k (putD (l.getD k .non) r new)) = _
          rw [getD_get hk]
        rw [gp]
        refine rcall rfl (riteF (e2 rfl rfl ((eq_nilT (sh_tupN (k :: r)) (by decide)).trans rfl)) ?_)
        refine rset (s := [.ro (.tup l), .ro (tupN (k :: r)), .ro new, .no]) (d := .int (k : Int)) (e2 rfl ki (at0 _ _)) rfl ?_
        refine rret (e2 (x := .tup (l.take k ++ [putD l[k] r new])) (y := .tup (l.drop (k + 1))) (e2 (e2 rfl rfl (sl_hi k)) (e1 (ec (lc (e2 rfl rfl ?_) (lc (e2 rfl ki (sl_lo (l := (k :: r).map fun (k : Nat) => D.int (k : Int)) 1)) (lc rfl l0))) ih) rfl) (add_tup ?_)) (e2 rfl (eadd rfl ki) ?_) (add_tup ?_))
        · show atI l (k : Int) = _
          rw [atN, List.getElem?_eq_getElem hk]
        · rw [List.length_take]; simp; omega
        · rw [show ((k : Int) + 1) = ((k + 1 : Nat) : Int) by omega]
          exact sl_lo (k + 1)
        · rw [List.length_append, List.length_take, List.length_drop]; simp; omega
      · rw [List.getElem?_eq_none (by omega)] at hp'; cases hp'
    | _ => cases hp
end PL

namespace PL
open PySem PySem.Spec PyProof.Rows L2
/-! ## a thing with something else at a drawn place -/
/-- tuples of tuples of whole numbers -/
def IntT : Nat → D → Prop
  | n + 1, .tup l => l.length ≤ 900 ∧ ∀ e ∈ l, IntT n e
  | _ + 1, .int _ => True
  | _, _ => False
theorem IntT.deep : ∀ {n : Nat} {d : D}, IntT n d → Deep n d
  | 0, d, h => by cases d <;> exact h.elim
  | n + 1, d, h => by
    cases d with
    | tup l => exact fun e he => (h.2 e he).deep
    | int i => exact trivial
    | _ => exact h.elim
theorem IntT.nar : ∀ {n : Nat} {d : D}, IntT n d → Nar n d
  | 0, d, h => by cases d <;> exact h.elim
  | n + 1, d, h => by
    cases d with
    | tup l =>
      obtain ⟨h1, h2⟩ := (show l.length ≤ 900 ∧ ∀ e ∈ l, IntT n e from h)
      exact ⟨by omega, fun e he => (h2 e he).nar⟩
    | int i => exact trivial
    | _ => exact h.elim
theorem IntT.sh : ∀ {n : Nat} {d : D}, IntT n d → Sh n d
  | 0, d, h => by cases d <;> exact h.elim
  | n + 1, d, h => by
    cases d with
    | tup l => exact Sh.tup fun e he => (h.2 e he).sh
    | int i => exact Sh.int _ _
    | _ => exact h.elim
theorem IntT.up : ∀ {n : Nat} {d : D}, IntT n d → IntT (n + 1) d
  | 0, d, h => by cases d <;> exact h.elim
  | n + 1, d, h => by
    cases d with
    | tup l => exact ⟨h.1, fun e he => (h.2 e he).up⟩
    | int i => exact trivial
    | _ => exact h.elim
theorem IntT.path : ∀ {p : List Nat} {n : Nat} {d e : D}, IntT n d → pathD d p = some e → IntT n e
  | [], n, d, e, h, hp => by
    have : d = e := by cases d <;> exact Option.some.inj hp
    rw [← this]; exact h
  | k :: r, n, d, e, h, hp => by
    cases d with
    | tup l =>
      cases n with
      | zero => exact h.elim
      | succ n =>
        have hp' : (match l[k]? with | some e => pathD e r | none => none) = some e := hp
        cases ek : l[k]? with
        | none => rw [ek] at hp'; cases hp'
        | some x =>
          rw [ek] at hp'
          exact (IntT.path (h.2 x (List.mem_of_getElem? ek)) hp').up
    | _ => cases hp
theorem sh_put : ∀ {p : List Nat} {a b : Nat} {d e new : D}, Sh a d → Sh b new → pathD d p = some e → Sh (a + b) (putD d p new)
  | [], a, b, d, e, new, h1, h2, _ => by
    have : putD d [] new = new := by cases d <;> rfl
    rw [this]; exact h2.mono (by omega)
  | k :: r, a, b, d, e, new, h1, h2, hp => by
    cases d with
    | tup l =>
      obtain ⟨m, rfl, hl⟩ := h1.tupI
      have hp' : (match l[k]? with | some e => pathD e r | none => none) = some e := hp
      cases ek : l[k]? with
      | none => rw [ek] at hp'; cases hp'
      | some x =>
        rw [ek] at hp'
        have gx : l.getD k .non = x := by rw [List.getD_eq_getElem?_getD, ek]; rfl
        show Sh (m + 1 + b) (.tup (l.set k (putD (l.getD k .non) r new)))
        rw [gx, show m + 1 + b = (m + b) + 1 by omega]
        refine Sh.tup fun y hy => ?_
        rcases List.mem_or_eq_of_mem_set hy with hy | rfl
        · exact (hl y hy).mono (by omega)
        · exact sh_put (hl x (List.mem_of_getElem? ek)) h2 hp'
    | _ => cases hp
def hereBody : S := .cons (.set true 5 (.prim pIx (.cons (.v 5) (.cons (.v 6) .nil)))) .nil
theorem here_loop {a b c f g : Sl} : ∀ (p : List Nat) (d e : D) (K : Sl), pathD d p = some e → ∃ K', forM (fun s => run hereBody s) (.name 6) (p.map fun (k : Nat) => D.int (k : Int)) [a, b, c, f, g, .ro d, K, .no, .no] = .nx [a, b, c, f, g, .ro e, K', .no, .no]
  | [], d, e, K, h => ⟨K, by
    have : d = e := by cases d <;> exact Option.some.inj h
    rw [this]; rfl⟩
  | k :: r, d, e, K, h => by
    cases d with
    | tup l =>
      have hp' : (match l[k]? with | some e => pathD e r | none => none) = some e := h
      cases ek : l[k]? with
      | none => rw [ek] at hp'; cases hp'
      | some x =>
        rw [ek] at hp'
        obtain ⟨K', ih⟩ := here_loop (a := a) (b := b) (c := c) (f := f) (g := g) r x e (.ro (.int (k : Int))) hp'
        refine ⟨K', ?_⟩
        show seqO (run hereBody [a, b, c, f, g, .ro (.tup l), .ro (.int (k : Int)), .no, .no]) _ = _
        have st : run hereBody [a, b, c, f, g, .ro (.tup l), .ro (.int (k : Int)), .no, .no] = .nx [a, b, c, f, g, .ro x, .ro (.int (k : Int)), .no, .no] := by
          refine rset (e2 rfl rfl ?_) rfl rfl
          show atI l (k : Int) = _
          rw [atN]; exact ek
        rw [st]; exact ih
    | _ => cases h
def someD (e : D) : List D := [.int 0, .int 1, .int 2, .int 99, .int 100, .int (-99), .int (-100), .int 999, .int 1000, .bl true, .non, .str "1", .tup [], .tup [.int 0, .int 0, .int 0], .lst [.int 0], .tup [e], .tup [e, e]]
theorem sh_some {e x : D} {n : Nat} (h : Sh (n + 1) e) (hx : x ∈ someD e) : Sh (n + 2) x := by
  unfold someD at hx
  simp only [List.mem_cons, List.not_mem_nil, or_false] at hx
  rcases hx with rfl | rfl | rfl | rfl | rfl | rfl | rfl | rfl | rfl | rfl | rfl | rfl | rfl | rfl | rfl | rfl | rfl
  · exact Sh.int _ _
  · exact Sh.int _ _
  · exact Sh.int _ _
  · exact Sh.int _ _
  · exact Sh.int _ _
  · exact Sh.int _ _
  · exact Sh.int _ _
  · exact Sh.int _ _
  · exact Sh.int _ _
  · exact ⟨rfl, rfl, Nat.zero_le _⟩
  · exact ⟨rfl, rfl, Nat.zero_le _⟩
  · exact ⟨rfl, by decide +kernel, Nat.zero_le _⟩
  · exact Sh.tup fun d hd => by cases hd
  · exact Sh.tup fun d hd => by
      simp only [List.mem_cons, List.not_mem_nil, or_false] at hd
      rcases hd with rfl | rfl | rfl <;> exact Sh.int _ _
  · exact Sh.lst fun d hd => by
      simp only [List.mem_cons, List.not_mem_nil, or_false] at hd
      rcases hd with rfl <;> exact Sh.int _ _
  · exact Sh.tup fun d hd => by
      simp only [List.mem_cons, List.not_mem_nil, or_false] at hd
      rcases hd with rfl <;> exact h
  · exact Sh.tup fun d hd => by
      simp only [List.mem_cons, List.not_mem_nil, or_false] at hd
      rcases hd with rfl | rfl <;> exact h
/-- of no great width -/
def Wd (w : Nat) (d : D) : Prop := ∀ l, d = .tup l → l.length ≤ w
theorem wd_put {w : Nat} {d new : D} {p : List Nat} (hd : IntT 4 d) (hw : ∀ l, d = .tup l → l.length + 1 ≤ w) (h : p = [] → Wd w new) : Wd w (putD d p new) := by
  cases p with
  | nil => cases d <;> exact h rfl
  | cons k r =>
    cases d with
    | tup l =>
      intro m hm
      have e : D.tup (l.set k (putD (l.getD k .non) r new)) = .tup m := hm
      cases e
      rw [List.length_set]
      have := hw l rfl
      omega
    | int i => exact fun l hl => nomatch hl
    | _ => exact hd.elim
theorem wd_some {w : Nat} {e x : D} (h3 : 3 ≤ w) (hx : x ∈ someD e) : Wd w x := by
  unfold someD at hx
  simp only [List.mem_cons, List.not_mem_nil, or_false] at hx
  rcases hx with rfl | rfl | rfl | rfl | rfl | rfl | rfl | rfl | rfl | rfl | rfl | rfl | rfl | rfl | rfl | rfl | rfl <;> (intro l hl; first | (cases hl; done) | (cases hl; simp; done) | (cases hl; simp; omega))
theorem spoilt_okW {ns : List Int} {k : Int} {d : D} {w : Nat} (h3 : 3 ≤ w) (hdw : ∀ l, d = .tup l → l.length + 1 ≤ w) (h0 : 0 ≤ k) (h1 : k < 900000) (hd : IntT 4 d) (hc : (placesOf 4 d).length ≤ 1000) : ∃ bad, f__law_spoilt_thing [.scr ns, .int k, d] = .ok bad ∧ Sh 9 bad ∧ Wd w bad := by
  have pl := hd.sh.pl
  have pp := places_pos hd.deep
  have ln : opLen (.lst ((placesOf 4 d).map tupN)) = some (.int ((placesOf 4 d).length : Nat)) := by
    rw [o_lenL, List.length_map]
  have q0 := pickI_nn ns k (m := ((placesOf 4 d).length : Nat)) (by omega)
  have q1 := pickI_lt ns k (m := ((placesOf 4 d).length : Nat)) (by omega)
  obtain ⟨j, hj⟩ := Int.eq_ofNat_of_zero_le q0
  have hjl : j < (placesOf 4 d).length := by omega
  obtain ⟨pl4, e, hpath⟩ := places_path 4 d _ (List.getElem_mem hjl)
  generalize hp : (placesOf 4 d)[j] = p at pl4 hpath
  have he := hd.path hpath
  obtain ⟨K', lp⟩ := here_loop (a := .ro (.scr ns)) (b := .ro (.int k)) (c := .ro d) (f := .ro (.lst ((placesOf 4 d).map tupN))) (g := .ro (tupN p)) p d e .no hpath
  have put : ∀ {new : D}, Sh 5 new → (p = [] → Wd w new) → f__law_put 4 [d, tupN p, new] = .ok (putD d p new) ∧ Sh 9 (putD d p new) ∧ Wd w (putD d p new) := fun {new} hn hw => ⟨law_put_ok p 4 d e new pl4 hpath hd.nar, sh_put hd.sh hn hpath, wd_put hd hdw hw⟩
  have w0 := pickI_nn ns (k + 1) (m := 23) (by omega)
  have w1 := pickI_lt ns (k + 1) (m := 23) (by omega)
  have main : ∃ bad, run b__law_spoilt_thing (startS 9 [.scr ns, .int k, d]) = .rt bad ∧ Sh 9 bad ∧ Wd w bad := by
    have pre : ∀ {o : Out}, run (.cons (.ite (.prim pLt (.cons (.v 8) (.cons (.c (.int 17)) .nil)))
          (.cons (.ret (.call "_law_put" (f__law_put 4) (.cons (.v 2) (.cons (.v 4) (.cons (.prim pIx (.cons (.v 7) (.cons (.v 8) .nil))) .nil))))) .nil) .nil)
          (.cons (.ite (.and (.prim pIsTuple (.cons (.v 5) .nil)) (.prim pNe (.cons (.v 5) (.cons (.prim pTup .nil) .nil))))
          (.cons (.set true 6 (.call "_law_pick" fPick (.cons (.v 0) (.cons (.prim pAdd (.cons (.v 1) (.cons (.c (.int 2)) .nil))) (.cons (.prim pLen (.cons (.v 5) .nil)) .nil)))))
          (.cons (.ret (.call "_law_put" (f__law_put 4) (.cons (.v 2) (.cons (.v 4) (.cons (.ite (.prim pLt (.cons (.v 8) (.cons (.c (.int 20)) .nil))) (.prim pAdd (.cons (.prim pSlU (.cons (.v 5) (.cons (.v 6) .nil))) (.cons (.prim pSlL (.cons (.v 5) (.cons (.prim pAdd (.cons (.v 6) (.cons (.c (.int 1)) .nil))) .nil))) .nil))) (.prim pAdd (.cons (.prim pSlU (.cons (.v 5) (.cons (.prim pAdd (.cons (.v 6) (.cons (.c (.int 1)) .nil))) .nil))) (.cons (.prim pSlL (.cons (.v 5) (.cons (.v 6) .nil))) .nil)))) .nil))))) .nil)) .nil)
          (.cons (.ret (.call "_law_put" (f__law_put 4) (.cons (.v 2) (.cons (.v 4) (.cons (.ite (.prim pIsInt (.cons (.v 5) .nil)) (.prim pSub (.cons (.prim pAdd (.cons (.v 5) (.cons (.v 8) .nil))) (.cons (.c (.int 21)) .nil))) (.c (.int 7))) .nil))))) .nil)))
          [.ro (.scr ns), .ro (.int k), .ro d, .ro (.lst ((placesOf 4 d).map tupN)), .ro (tupN p), .ro e, K', .ro (.lst (someD e)), .ro (.int (pickI ns (k + 1) 23))] = o → run b__law_spoilt_thing (startS 9 [.scr ns, .int k, d]) = o := by
      intro o ho
      refine rset (s := [.ro (.scr ns), .ro (.int k), .ro d, .no, .no, .no, .no, .no, .no]) (ec (lc rfl l0) (law_places_ok 4 d (by decide) hd.deep hc pl)) rfl ?_
      refine rset (s := [.ro (.scr ns), .ro (.int k), .ro d, .ro (.lst ((placesOf 4 d).map tupN)), .no, .no, .no, .no, .no]) (d := tupN p) (e2 rfl (ec (lc rfl (lc rfl (lc (e1 rfl ln) l0))) (pick_ok h0 (by omega) (by omega))) ?_) rfl ?_
      · show atI ((placesOf 4 d).map tupN) _ = _
        rw [hj, atN, List.getElem?_map, List.getElem?_eq_getElem hjl, hp]; rfl
      refine rset (s := [.ro (.scr ns), .ro (.int k), .ro d, .ro (.lst ((placesOf 4 d).map tupN)), .ro (tupN p), .no, .no, .no, .no]) (d := d) rfl rfl ?_
      refine rfor (s := [.ro (.scr ns), .ro (.int k), .ro d, .ro (.lst ((placesOf 4 d).map tupN)), .ro (tupN p), .ro d, .no, .no, .no]) (s' := [.ro (.scr ns), .ro (.int k), .ro d, .ro (.lst ((placesOf 4 d).map tupN)), .ro (tupN p), .ro e, K', .no, .no]) (iseq rfl rfl) lp ?_
      refine rset (s := [.ro (.scr ns), .ro (.int k), .ro d, .ro (.lst ((placesOf 4 d).map tupN)), .ro (tupN p), .ro e, K', .no, .no]) (d := .lst (someD e)) rfl rfl ?_
      exact rset (s := [.ro (.scr ns), .ro (.int k), .ro d, .ro (.lst ((placesOf 4 d).map tupN)), .ro (tupN p), .ro e, K', .ro (.lst (someD e)), .no]) (d := .int (pickI ns (k + 1) 23)) (ec (lc rfl (lc (eadd rfl ki) (lc ki l0))) (pick_ok (by omega) (by omega) (by omega))) rfl ho
    by_cases hw : pickI ns (k + 1) 23 < 17
    · obtain ⟨i, hi⟩ := Int.eq_ofNat_of_zero_le w0
      have hil : i < (someD e).length := by
        have : (someD e).length = 17 := rfl
        omega
      obtain ⟨p1, p2⟩ := put (sh_some (n := 3) he.sh (List.getElem_mem hil)) (fun _ => wd_some h3 (List.getElem_mem hil))
      refine ⟨_, pre (riteT ((elt rfl ki).trans (by rw [decide_eq_true hw])) (rret (ec (lc rfl (lc rfl (lc (e2 rfl rfl ?_) l0))) p1))), p2⟩
      show atI (someD e) _ = _
      rw [hi, atN, List.getElem?_eq_getElem hil]
    · have hF : ∀ {o : Out}, run (.cons (.ite (.and (.prim pIsTuple (.cons (.v 5) .nil)) (.prim pNe (.cons (.v 5) (.cons (.prim pTup .nil) .nil))))
          (.cons (.set true 6 (.call "_law_pick" fPick (.cons (.v 0) (.cons (.prim pAdd (.cons (.v 1) (.cons (.c (.int 2)) .nil))) (.cons (.prim pLen (.cons (.v 5) .nil)) .nil)))))
          (.cons (.ret (.call "_law_put" (f__law_put 4) (.cons (.v 2) (.cons (.v 4) (.cons (.ite (.prim pLt (.cons (.v 8) (.cons (.c (.int 20)) .nil))) (.prim pAdd (.cons (.prim pSlU (.cons (.v 5) (.cons (.v 6) .nil))) (.cons (.prim pSlL (.cons (.v 5) (.cons (.prim pAdd (.cons (.v 6) (.cons (.c (.int 1)) .nil))) .nil))) .nil))) (.prim pAdd (.cons (.prim pSlU (.cons (.v 5) (.cons (.prim pAdd (.cons (.v 6) (.cons (.c (.int 1)) .nil))) .nil))) (.cons (.prim pSlL (.cons (.v 5) (.cons (.v 6) .nil))) .nil)))) .nil))))) .nil)) .nil)
          (.cons (.ret (.call "_law_put" (f__law_put 4) (.cons (.v 2) (.cons (.v 4) (.cons (.ite (.prim pIsInt (.cons (.v 5) .nil)) (.prim pSub (.cons (.prim pAdd (.cons (.v 5) (.cons (.v 8) .nil))) (.cons (.c (.int 21)) .nil))) (.c (.int 7))) .nil))))) .nil))
          [.ro (.scr ns), .ro (.int k), .ro d, .ro (.lst ((placesOf 4 d).map tupN)), .ro (tupN p), .ro e, K', .ro (.lst (someD e)), .ro (.int (pickI ns (k + 1) 23))] = o → run b__law_spoilt_thing (startS 9 [.scr ns, .int k, d]) = o := by
        intro o ho
        exact pre (riteF ((elt rfl ki).trans (by rw [decide_eq_false hw])) ho)
      cases e with
      | int i =>
        obtain ⟨p1, p2⟩ := put (new := .int (i + pickI ns (k + 1) 23 - 21)) (Sh.int _ _) (fun _ l h => nomatch h)
        exact ⟨_, hF (riteF (eandF (e1 rfl rfl)) (rret (ec (lc rfl (lc rfl (lc (eite (k := true) (e1 rfl rfl) (esub (eadd rfl rfl) ki)) l0))) p1))), p2⟩
      | tup l =>
        have hl := he.1
        cases l with
        | nil =>
          obtain ⟨p1, p2⟩ := put (new := .int 7) (Sh.int _ _) (fun _ l h => nomatch h)
          exact ⟨_, hF (riteF (eandT (e1 rfl rfl) (e2 rfl rfl ((ne_nilT he.sh (by decide)).trans rfl))) (rret (ec (lc rfl (lc rfl (lc (eite (k := false) (e1 rfl rfl) rfl) l0))) p1))), p2⟩
        | cons x l =>
          have lx : opLen (.tup (x :: l)) = some (.int ((x :: l).length : Nat)) := rfl
          have hpos : 0 < (((x :: l).length : Nat) : Int) := by rw [List.length_cons]; omega
          have r0 := pickI_nn ns (k + 2) hpos
          have r1 := pickI_lt ns (k + 2) hpos
          obtain ⟨m, hm⟩ := Int.eq_ofNat_of_zero_le r0
          obtain ⟨c, ecc, hsh⟩ := he.sh.tupI
          have cutT : ∀ a b : Nat, Sh 5 (.tup ((x :: l).take a ++ (x :: l).drop b)) := fun a b => by
            refine (Sh.tup (n := c) fun y hy => ?_).mono (by omega)
            rcases List.mem_append.mp hy with hy | hy
            · exact hsh y (List.mem_of_mem_take hy)
            · exact hsh y (List.mem_of_mem_drop hy)
          have go : ∀ {new : D}, ev (.ite (.prim pLt (.cons (.v 8) (.cons (.c (.int 20)) .nil))) (.prim pAdd (.cons (.prim pSlU (.cons (.v 5) (.cons (.v 6) .nil))) (.cons (.prim pSlL (.cons (.v 5) (.cons (.prim pAdd (.cons (.v 6) (.cons (.c (.int 1)) .nil))) .nil))) .nil))) (.prim pAdd (.cons (.prim pSlU (.cons (.v 5) (.cons (.prim pAdd (.cons (.v 6) (.cons (.c (.int 1)) .nil))) .nil))) (.cons (.prim pSlL (.cons (.v 5) (.cons (.v 6) .nil))) .nil))))
              [some (.scr ns), some (.int k), some d, some (.lst ((placesOf 4 d).map tupN)), some (tupN p), some (.tup (x :: l)), some (.int (m : Int)), some (.lst (someD (.tup (x :: l)))), some (.int (pickI ns (k + 1) 23))] = .ok new → Sh 5 new → (p = [] → Wd w new) → ∃ bad, run b__law_spoilt_thing (startS 9 [.scr ns, .int k, d]) = .rt bad ∧ Sh 9 bad ∧ Wd w bad := by
            intro new hnew hs5 hw5
            obtain ⟨p1, p2⟩ := put hs5 hw5
            refine ⟨_, hF (riteT (eandT (e1 rfl rfl) (e2 rfl rfl ((ne_nilT he.sh (by decide)).trans rfl))) ?_), p2⟩
            refine rset (s := [.ro (.scr ns), .ro (.int k), .ro d, .ro (.lst ((placesOf 4 d).map tupN)), .ro (tupN p), .ro (.tup (x :: l)), K', .ro (.lst (someD (.tup (x :: l)))), .ro (.int (pickI ns (k + 1) 23))]) (d := .int (m : Int)) (ec (lc rfl (lc (eadd rfl ki) (lc (e1 rfl lx) l0))) ((pick_ok (by omega) (by omega) hpos).trans (by rw [hm]))) rfl ?_
            exact rret (ec (lc rfl (lc rfl (lc hnew l0))) p1)
          by_cases h20 : pickI ns (k + 1) 23 < 20
          · refine go (eite (k := true) ((elt rfl ki).trans (by rw [decide_eq_true h20])) (e2 (x := .tup ((x :: l).take m)) (y := .tup ((x :: l).drop (m + 1))) (e2 rfl rfl (sl_hi m)) (e2 rfl (eadd rfl ki) ?_) (add_tup ?_))) (cutT m (m + 1)) (fun pe z hz => by cases hz; rw [pe] at hpath; cases hpath; have := hdw _ rfl; rw [List.length_append, List.length_take, List.length_drop]; omega)
            · rw [show ((m : Int) + 1) = ((m + 1 : Nat) : Int) by omega]
              exact sl_lo (m + 1)
            · rw [List.length_take, List.length_drop]; omega
          · refine go (eite (k := false) ((elt rfl ki).trans (by rw [decide_eq_false h20])) (e2 (x := .tup ((x :: l).take (m + 1))) (y := .tup ((x :: l).drop m)) (e2 rfl (eadd rfl ki) ?_) (e2 rfl rfl (sl_lo m)) (add_tup ?_))) (cutT (m + 1) m) (fun pe z hz => by cases hz; rw [pe] at hpath; cases hpath; have := hdw _ rfl; rw [List.length_append, List.length_take, List.length_drop]; omega)
            · rw [show ((m : Int) + 1) = ((m + 1 : Nat) : Int) by omega]
              exact sl_hi (m + 1)
            · rw [List.length_take, List.length_drop]; omega
      | _ => exact he.elim
  obtain ⟨bad, hr, hs⟩ := main
  exact ⟨bad, rcall rfl hr, hs⟩
theorem spoilt_ok {ns : List Int} {k : Int} {d : D} (h0 : 0 ≤ k) (h1 : k < 900000) (hd : IntT 4 d) (hc : (placesOf 4 d).length ≤ 1000) : ∃ bad, f__law_spoilt_thing [.scr ns, .int k, d] = .ok bad ∧ Sh 9 bad := by
  obtain ⟨bad, h1, h2, _⟩ := spoilt_okW (ns := ns) (w := 1000) (by decide) (fun l e => by subst e; have := hd.1; omega) h0 h1 hd hc
  exact ⟨bad, h1, h2⟩
theorem intT_trk {T : List P3} (h : T.length ≤ 12) : IntT 4 (trk T) := by
  refine ⟨by rw [List.length_map]; omega, fun e he => ?_⟩
  obtain ⟨p, _, rfl⟩ := List.mem_map.mp he
  refine ⟨by simp, fun x hx => ?_⟩
  simp only [List.mem_cons, List.not_mem_nil, or_false] at hx
  rcases hx with rfl | rfl | rfl <;> exact trivial
theorem len_flatC {g : Nat → List (List Nat)} {c : Nat} : ∀ {ks : List Nat}, (∀ k ∈ ks, (g k).length = c) → (ks.flatMap g).length = c * ks.length
  | [], _ => by simp
  | j :: ks, h => by
    rw [List.flatMap_cons, List.length_append, List.length_cons, h j List.mem_cons_self, len_flatC (g := g) (ks := ks) fun k hk => h k (List.mem_cons_of_mem _ hk), Nat.mul_succ]
    omega
theorem places_trk {T : List P3} (h : T.length ≤ 12) : (placesOf 4 (trk T)).length ≤ 1000 := by
  rw [show trk T = .tup (T.map ptD) from rfl, places_succ, len_flatC (c := 4), List.length_range, List.length_map]
  · omega
  · intro k hk
    have hk' : k < (T.map ptD).length := List.mem_range.mp hk
    rw [getD_get hk', List.getElem_map]
    rfl
/-- a track with something else at a drawn place -/
theorem spoilt_trk {ns : List Int} {k : Int} {T : List P3} (h0 : 0 ≤ k) (h1 : k < 900000) (h : T.length ≤ 12) : ∃ bad, f__law_spoilt_thing [.scr ns, .int k, trk T] = .ok bad ∧ Sh 9 bad :=
  spoilt_ok h0 h1 (intT_trk h) (places_trk h)
end PL

namespace PL
open PySem PySem.Spec PyProof.Rows L2
/-! ## steps of the laws with a try -/
theorem rfrz {i : Nat} {r : S} {s : SE} {l : List D} {o : Out} (hs : s[i]? = some (.own l)) (h : run r (s.set i (.ro (.lst l))) = o) : run (.frz i r) s = o := by
  show (match s[i]? with | some (.own l) => run r (s.set i (.ro (.lst l))) | some (.odt d) => run r (s.set i (.ro d)) | _ => run r s) = _
  rw [hs]; exact h
theorem rtry_nx {body r : S} {i j : Nat} {h : Str} {tab : List (Str × Bool)} {s s' : SE} {o : Out} (h1 : PL.run body s = .nx s') (h2 : PL.run r s' = o) : PL.run (.cons (.atom (aTry body i j h tab)) r) s = o := by
  show seqO (triRun body i j tab s) _ = _
  unfold triRun
  rw [h1]; exact h2
theorem rtry_exc {body r : S} {i j : Nat} {h c : Str} {tab : List (Str × Bool)} {s : SE} {o : Out} (h1 : PL.run body s = .exc c) (ht : tab.lookup c = some true) (h2 : PL.run r ((noneS s.length).set j (.ro (.exc c))) = o) : PL.run (.cons (.atom (aTry body i j h tab)) r) s = o := by
  show seqO (triRun body i j tab s) _ = _
  unfold triRun
  rw [h1]
  dsimp only
  rw [ht]; exact h2
theorem etab {fs : List (Str × (List D → Res D))} {w : Nat} {as : EL} {ρ : En} {k : Int} {f : Str × (List D → Res D)} {ds : List D} {o : Res D} (h1 : ρ[w]? = some (some (.int k))) (h2 : atI fs k = some f) (h3 : evL as ρ = .ok ds) (h4 : f.2 ds = o) : ev (.atom (aTab fs w as)) ρ = o := by
  show (match ρ[w]? with | some (some (.int k)) => (match atI fs k with | some f => (evL as ρ).bind f.2 | none => .stuck) | _ => .stuck) = _
  rw [h1]
  dsimp only
  rw [h2]
  dsimp only
  rw [h3]; exact h4
theorem fm_empty {α β : Type} (c : α → Bool) (f : α → β) : ∀ l : List α, (l.filterMap fun a => if c a then some (f a) else none).isEmpty = l.all fun a => !c a
  | [] => rfl
  | a :: l => by
    rw [List.filterMap_cons, List.all_cons, ← fm_empty c f l]
    cases c a <;> rfl
theorem enumD_range (f : Nat → D) : ∀ n i, enumD i ((List.range n).map fun k => f (i + k)) = (List.range n).map fun k => .tup [.int ((i + k : Nat) : Int), f (i + k)]
  | 0, _ => rfl
  | n + 1, i => by
    rw [List.range_succ_eq_map, List.map_cons, List.map_cons, List.map_map, List.map_map]
    show D.tup [.int (i : Nat), f (i + 0)] :: enumD (i + 1) ((List.range n).map fun k => f (i + (k + 1))) = _
    have e : (List.range n).map (fun k => f (i + (k + 1))) = (List.range n).map fun k => f (i + 1 + k) := List.map_congr_left fun k _ => by rw [show i + (k + 1) = i + 1 + k by omega]
    rw [e, enumD_range f n (i + 1)]
    congr 1
    exact List.map_congr_left fun k _ => by
      show D.tup [.int ((i + 1 + k : Nat) : Int), f (i + 1 + k)] = D.tup [.int ((i + (k + 1) : Nat) : Int), f (i + (k + 1))]
      rw [show i + (k + 1) = i + 1 + k by omega]
theorem enum_range (f : Nat → D) (n : Nat) : enumItems (.lst ((List.range n).map f)) = .ok ((List.range n).map fun (k : Nat) => .tup [.int (k : Int), f k]) := by
  show Res.ok (enumD 0 ((List.range n).map f)) = _
  have e : (List.range n).map f = (List.range n).map fun k => f (0 + k) := List.map_congr_left fun k _ => by rw [Nat.zero_add]
  rw [e, enumD_range f n 0]
  congr 1
  exact List.map_congr_left fun k _ => by rw [Nat.zero_add]
theorem ienum {a : E} {ρ : En} {x : D} {ds : List D} (h1 : ev a ρ = .ok x) (h : enumItems x = .ok ds) : evI (.enum a) ρ = .ok ds := by
  show (ev a ρ).bind enumItems = _
  rw [h1]; exact h
/-- a test that may go either way -/
theorem riteB {t : E} {s : SE} {u v r : S} {k : Bool} {o : Out} (h1 : ev t (full s) = .ok (.bl k)) (hT : k = true → seqO (run u s) (fun s => run r s) = o) (hF : k = false → seqO (run v s) (fun s => run r s) = o) : run (.cons (.ite t u v) r) s = o := by
  refine rite h1 ?_
  cases k with
  | true => rw [if_pos rfl]; exact hT rfl
  | false => rw [if_neg Bool.false_ne_true]; exact hF rfl
theorem nx_seq {u r : S} {s s' : SE} {o : Out} (h : run u s = .nx s') (h2 : run r s' = o) : seqO (run u s) (fun s => run r s) = o := by rw [h]; exact h2
theorem rt_seq {u r : S} {s : SE} {d : D} (h : run u s = .rt d) : seqO (run u s) (fun s => run r s) = .rt d := by rw [h]; rfl
theorem rexc {e : E} {s : SE} {r : S} {c : Str} (h : ev e (full s) = .exc c) : run (.cons (.expr e) r) s = .exc c := by
  show seqO (outE (ev e (full s)) _) _ = _
  rw [h]; rfl
theorem callE {n np : Nat} {bd : S} {ds : List D} {c : Str} (hl : ds.length = np) (h : run bd (startS n ds) = .exc c) : callD n np bd ds = .exc c := by
  unfold callD; rw [if_pos hl, h]; rfl
theorem x_seq {a : E} {ρ : En} {c : Str} (h : ev a ρ = .exc c) : evI (.seq a) ρ = .exc c := by
  show (ev a ρ).bind itemsD = _; rw [h]; rfl
theorem x_comp {own : List (Str × Nat)} {tg : Tg} {it : IT} {cond : EO} {elt : E} {ρ : En} {c : Str} (h : evI it ρ = .exc c) : ev (.comp own tg it cond elt) ρ = .exc c := by
  show (evI it ρ).bind _ = _; rw [h]; rfl
theorem x_prim1 {p : Prim} {a : E} {as : EL} {ρ : En} {c : Str} (h : ev a ρ = .exc c) : ev (.prim p (.cons a as)) ρ = .exc c := by
  show ((ev a ρ).bind fun d => (evL as ρ).bind fun ds => Res.ok (d :: ds)).bind _ = _; rw [h]; rfl
theorem x_ret {e : E} {s : SE} {r : S} {c : Str} (h : ev e (full s) = .exc c) : run (.cons (.ret e) r) s = .exc c := by
  show seqO (outE (ev e (full s)) _) _ = _
  rw [h]; rfl
theorem x_set {h : Bool} {i : Nat} {e : E} {s : SE} {r : S} {c : Str} (h1 : ev e (see h s) = .exc c) : run (.cons (.set h i e) r) s = .exc c := by
  show seqO (outE (ev e (see h s)) _) _ = _
  rw [h1]; rfl
theorem look_no {d : D} (h : d.pl = true) (ht : trackB d = false) : f_look_track [d] = .exc "NoTrack" := by rw [look_any h, ht]; rfl
theorem while_T {c : SE → Res Bool} {f : SE → Out} {n : Nat} {s s' : SE} (h1 : c s = .ok true) (h2 : f s = .nx s') : whileM c f (n + 1) s = whileM c f n s' := by
  show outE (c s) (fun t => if t then seqO (f s) (whileM c f n) else .nx s) = _
  rw [h1]
  show seqO (f s) (whileM c f n) = _
  rw [h2]; rfl
theorem while_F {c : SE → Res Bool} {f : SE → Out} {n : Nat} {s : SE} (h1 : c s = .ok false) : whileM c f (n + 1) s = .nx s := by
  show outE (c s) (fun t => if t then seqO (f s) (whileM c f n) else .nx s) = _
  rw [h1]; rfl
theorem map_erase {α β : Type} (f : α → β) : ∀ (l : List α) (k : Nat), (l.map f).eraseIdx k = (l.eraseIdx k).map f
  | [], _ => rfl
  | a :: l, 0 => rfl
  | a :: l, k + 1 => by
    show f a :: (l.map f).eraseIdx k = f a :: (l.eraseIdx k).map f
    rw [map_erase f l k]
theorem erase_perm {α : Type} : ∀ (l : List α) (k : Nat) (h : k < l.length), (l[k] :: l.eraseIdx k).Perm l
  | [], _, h => by cases h
  | a :: l, 0, _ => .refl _
  | a :: l, k + 1, h => by
    have h' : k < l.length := Nat.lt_of_succ_lt_succ h
    show (l[k] :: a :: l.eraseIdx k).Perm (a :: l)
    exact (List.Perm.swap a l[k] _).trans ((erase_perm l k h').cons a)
theorem eiteT {t a b : E} {ρ : En} {o : Res D} (h1 : ev t ρ = .ok (.bl true)) (h : ev a ρ = o) : ev (.ite t a b) ρ = o := eite h1 h
theorem eiteF {t a b : E} {ρ : En} {o : Res D} (h1 : ev t ρ = .ok (.bl false)) (h : ev b ρ = o) : ev (.ite t a b) ρ = o := eite h1 h
theorem eqBB (a b : Bool) : opEq (.bl a) (.bl b) = some (.bl (a == b)) := by cases a <;> cases b <;> rfl
theorem eqSS {s : Str} (h : Sh 0 (.str s)) : opEq (.str s) (.str s) = some (.bl true) := eq_refl h (by decide)
theorem for_name {f : SE → Out} {i : Nat} {d : D} {ds : List D} {s s1 : SE} {o : Out} (h1 : f (s.set i (.ro d)) = .nx s1) (h2 : forM f (.name i) ds s1 = o) : forM f (.name i) (d :: ds) s = o := by
  show seqO (f (s.set i (.ro d))) (forM f (.name i) ds) = _
  rw [h1]; exact h2
theorem rwhile {n : Nat} {c : E} {b r : S} {s s' : SE} {o : Out} (h : whileM (fun s => (ev c (full s)).bind truth) (fun s => run b s) n s = .nx s') (h2 : run r s' = o) : run (.cons (.while_ n c b) r) s = o := rc h h2
theorem dq_pr (a b : P2) : deq (PL.prD a) (PL.prD b) = decide (a = b) := by
  show ((a.1 == b.1) && ((a.2 == b.2) && true)) = _
  rw [Bool.and_true, Bool.beq_eq_decide_eq, Bool.beq_eq_decide_eq, ← Bool.decide_and]
  exact decide_eq_decide.mpr ⟨fun z => Prod.ext z.1 z.2, fun z => by rw [z]; exact ⟨rfl, rfl⟩⟩
theorem sh_pr2 (p : P2) : Sh 1 (PL.prD p) := Sh.tup (n := 0) fun d hd => by
  simp only [List.mem_cons, List.not_mem_nil, or_false] at hd
  rcases hd with rfl | rfl <;> exact Sh.int 0 _
theorem eq_pr (a b : P2) : opEq (PL.prD a) (PL.prD b) = some (.bl (decide (a = b))) := by
  unfold opEq
  rw [(sh_pr2 a).shp (by decide), (sh_pr2 b).shp (by decide), dq_pr]; rfl
theorem ne_pr (a b : P2) : opNe (PL.prD a) (PL.prD b) = some (.bl (!decide (a = b))) := by
  unfold opNe
  rw [(sh_pr2 a).shp (by decide), (sh_pr2 b).shp (by decide), dq_pr]; rfl
end PL

namespace PL
open PySem PySem.Spec PyProof.Rows L2
/-! ## list(range(a, b, c)), c above nought -/
def rgC (a b c : Int) : List Int := (List.range (Builtin.Range.rangeSize a b c).toNat).map fun (i : Nat) => a + (i : Int) * c
def RgC (a b c : Int) : Prop := 0 ≤ a ∧ a ≤ 1000000 ∧ -1000000 ≤ b ∧ b ≤ 1000000 ∧ 1 ≤ c ∧ c ≤ 1000000
instance (a b c : Int) : Decidable (RgC a b c) := inferInstanceAs (Decidable (_ ∧ _))
theorem rgC_size {a b c : Int} (h : RgC a b c) : (Builtin.Range.rangeSize a b c).toNat ≤ 3000000 := by
  have := rangeSize_toNat_le a b c
  obtain ⟨h1, h2, h3, h4, h5, h6⟩ := h
  omega
theorem small_c {a b c : Int} (h : RgC a b c) : Builtin.Range.small a b c = true := by
  have e := rangeSize_toNat a b c
  have l := rgC_size h
  obtain ⟨h1, h2, h3, h4, h5, h6⟩ := h
  have m : (Builtin.Range.rangeSize a b c) * c ≤ 3000000 * 1000000 := by
    rw [e]
    exact Int.mul_le_mul (by omega) h6 (by omega) (by decide)
  have m0 : 0 ≤ (Builtin.Range.rangeSize a b c) * c := by
    rw [e]
    exact Int.mul_nonneg (by omega) (by omega)
  unfold Builtin.Range.small
  have hc : c > 0 := by omega
  simp only [Builtin.Range.rangeFitsLong, Bool.and_eq_true, Bool.or_eq_true, decide_eq_true_eq, beq_iff_eq, hc, if_true]
  generalize Builtin.Range.rangeSize a b c = n at *
  omega
theorem vals_rgC {a c : Int} {n : Nat} {acc : Array Value} (h : ItemsOf (fun i v => ∃ t, v = .int (a + i * c) t) acc n) : Vals ((List.range n).map fun (i : Nat) => V.int (a + (i : Int) * c)) acc.toList := by
  have e : acc.toList.length = n := by rw [Array.length_toList]; exact h.1
  rw [← e]
  refine vals_of_get acc.toList (fun (i : Nat) => V.int (a + (i : Int) * c)) fun j u hj => ?_
  obtain ⟨t, rfl⟩ := h.2 j u (by rw [← hj, Array.getElem?_toList])
  exact ⟨t, rfl⟩
def rLR3 : V → V → V → Hp → VK → Prop := fun x y z H Q => ∃ a b c : Int, x = .int a ∧ y = .int b ∧ z = .int c ∧ RgC a b c ∧ ∀ p, H p = none → Q (.ref p) (upd H p (.lst ((rgC a b c).map V.int)))
theorem pe_listRg3 {X : Cx} {a b c : Expr} {ta tb tc : TE} {p p2 q pos : Pos} (hc : X.calm = true) (hg : Gl X "list") (hm : X.mg "list" = none) (hg2 : Gl X "range") (hm2 : X.mg "range" = none) (ha : PE X a ta) (hb : PE X b tb) (hcc : PE X c tc)
    (na : notStar a = true) (nb : notStar b = true) (nc : notStar c = true) :
    PE X (.Call (.Name "list" p) [.Call (.Name "range" p2) [a, b, c] [] q] [] pos) (fun σ H Q => ta σ H fun x H1 => tb σ H1 fun y H2 => tc σ H2 fun z H3 => rLR3 x y z H3 Q) := by
  refine ⟨fun pins s σ H Q I h => Call_ (ld_blt I hg hm boot_list (callWith_type1 (args_cons (Call_ (ld_blt I hg2 hm2 boot_range ?_)) rfl) rfl))⟩
  have st : (backTo q (starEach [b, c] X.env)).any (·.1) = false := by rw [star_of nb, star_of nc]; rfl
  refine callWith_type1 (args_cons (thn (ha.run pins s σ H _ I h) fun u1 s1 ⟨x, H1, I1, r1, q1⟩ => args_cons (thn (hb.run pins s1 σ H1 _ I1 q1) fun u2 s2 ⟨y, H2, I2, r2, q2⟩ => args_cons (thn (hcc.run pins s2 σ H2 _ I2 q2) fun u3 s3 ⟨z, H3, I3, r3, q3⟩ => args_nil ?_) (star_of nc [] X.env)) (star_of nb _ X.env)) (star_of na _ X.env)) (star_of na _ X.env) st
  obtain ⟨i, j, k, rfl, rfl, rfl, hr, q3⟩ := q3
  obtain ⟨t1, rfl⟩ := r1
  obtain ⟨t2, rfl⟩ := r2
  obtain ⟨t3, rfl⟩ := r3
  have hk : k ≠ 0 := by have := hr.2.2.2.2.1; omega
  refine call_range_3 hk ?_ (.inl (PyProof.noPylong_small (by have := hr.2.2.2.2; omega)))
  refine args_nil ?_
  have I4 : Inv X pins σ H3 { s3 with heap := s3.heap.push { cls := .type "range", data := .fields #[.int i t1, .int j t2, .int k t3] }, toks := s3.toks } := I3.kept fun b u e => Heap.get?_push_of_some _ e
  have l := rgC_size hr
  refine call_list_range (n := (Builtin.Range.rangeSize i j k).toNat) (I4.ok.hd hc) (IsRange.new _ _ _ _ _ _ _) (small_c hr) (rangeSize_toNat i j k) (by omega) fun h' tk acc c' hk e' hi => ?_
  have v := vals_rgC hi
  have e2 : ((rgC i j k).map V.int) = (List.range (Builtin.Range.rangeSize i j k).toNat).map fun (m : Nat) => V.int (i + (m : Int) * k) := by
    unfold rgC; rw [List.map_map]; rfl
  refine ⟨.ref _, upd H3 _ (.lst ((rgC i j k).map V.int)), I4.laid hk (Nat.le_refl _) (show ObjOk X.prog X.w _ _ _ (.lst ((rgC i j k).map V.int)) from ⟨?_, acc.toList, c', by rw [e2]; exact v, ?_⟩), rfl, q3 _ (I4.hok.fresh (Nat.le_refl _))⟩
  · rw [List.length_map]
    unfold rgC
    rw [List.length_map, List.length_range, sizeLine_eq]; omega
  · rw [Array.toArray_toList]; exact e'
def listRngSyn : Scope → Expr → Option (List Expr) := fun sc e => match e with
  | .Call (.Name x _) [.Call (.Name y _) [a, b, c] [] _] [] _ => if (decide (x = "list") && glB sc x) && (decide (y = "range") && glB sc y) then some [a, b, c] else none
  | _ => none
def opListRng3 : List D → Option D
  | [.int a, .int b, .int c] => if RgC a b c then some (.lst ((rgC a b c).map D.int)) else none
  | _ => none
def pListRng3 : Prim := { syn := listRngSyn, sem := opListRng3 }
theorem three_pesN {X : Cx} {W : WX} {a b c : Expr} {ms : List (En → Res D)} (h : PEs X W [a, b, c] ms) : ∃ ma mb mc, ms = [ma, mb, mc] ∧ (PE X a (tS X W ma) ∧ notStar a = true) ∧ (PE X b (tS X W mb) ∧ notStar b = true) ∧ (PE X c (tS X W mc) ∧ notStar c = true) := by
  cases h with
  | cons h1 n1 t =>
    cases t with
    | cons h2 n2 t =>
      cases t with
      | cons h3 n3 t => cases t; exact ⟨_, _, _, rfl, ⟨h1, n1⟩, ⟨h2, n2⟩, ⟨h3, n3⟩⟩
/-- three parts -/
theorem w_3 {X : Cx} {W : WX} {ma mb mc : En → Res D} {sem : List D → Option D} {r : V → V → V → Hp → VK → Prop} {σ : L2.St} {H : Hp} {Q : VK}
    (hr : ∀ (M : Mk) (H : Hp) (x y z : V) (d1 d2 d3 d : D), DomM M H → Rep X.K M H x d1 → Rep X.K M H y d2 → Rep X.K M H z d3 → sem [d1, d2, d3] = some d → (∀ v H', Same X.K H H' → Rep X.K M H' v d → Q v H') → r x y z H Q)
    (q : tS X W (fun ρ => (seqM [ma, mb, mc] ρ).bind fun ds => ofO (sem ds)) σ H Q) : tS X W ma σ H fun x H1 => tS X W mb σ H1 fun y H2 => tS X W mc σ H2 fun z H3 => r x y z H3 Q := by
  obtain ⟨M, ρ, dm, re, o⟩ := q
  refine ⟨M, ρ, dm, re, ?_⟩
  simp only [seqM, consM] at o
  cases e1 : ma ρ with
  | ok d1 =>
    rw [e1] at o
    intro x H1 s1 r1
    refine ⟨M, ρ, dm.mono s1, re.same s1, ?_⟩
    cases e2 : mb ρ with
    | ok d2 =>
      rw [e2] at o
      intro y H2 s2 r2
      refine ⟨M, ρ, (dm.mono s1).mono s2, (re.same s1).same s2, ?_⟩
      cases e3 : mc ρ with
      | ok d3 =>
        rw [e3] at o
        intro z H3 s3 r3
        simp only [Res.bind_ok] at o
        cases e4 : sem [d1, d2, d3] with
        | none => rw [e4] at o; exact o.elim
        | some d => rw [e4] at o; exact hr M H3 x y z d1 d2 d3 d (((dm.mono s1).mono s2).mono s3) ((r1.same s2).same s3) (r2.same s3) r3 e4 fun v H' s' rv => o v H' (((s1.trans s2).trans s3).trans s') rv
      | exc c => rw [e3] at o; exact fun H' s' => o H' ((s1.trans s2).trans s')
      | stuck => rw [e3] at o; exact o
    | exc c => rw [e2] at o; exact fun H' s' => o H' (s1.trans s')
    | stuck => rw [e2] at o; exact o
  | exc c => rw [e1] at o; exact o
  | stuck => rw [e1] at o; exact o
theorem listRng3G : PrimG pListRng3 := by
  intro X k W xo
  have main : ∀ {e : Expr} {es : List Expr} {ms : List (En → Res D)}, listRngSyn X.env.scope e = some es → PEs X W es ms → ∃ a b pos, e = .Call a b [] pos ∧ PE X e (tS X W fun ρ => (seqM ms ρ).bind fun ds => ofO (opListRng3 ds)) := by
    intro e es ms h hp
    unfold listRngSyn at h
    split at h
    · rename_i x p y p2 a b c q pos
      split at h
      · rename_i hg
        cases h
        rw [Bool.and_eq_true, Bool.and_eq_true, Bool.and_eq_true, decide_eq_true_eq, decide_eq_true_eq] at hg
        obtain ⟨⟨rfl, g1⟩, rfl, g2⟩ := hg
        obtain ⟨ma, mb, mc, rfl, ⟨h1, n1⟩, ⟨h2, n2⟩, ⟨h3, n3⟩⟩ := three_pesN hp
        refine ⟨_, _, pos, rfl, pe_weak (pe_listRg3 xo.calm (gl_of g1) (xo.bf _ (by decide)) (gl_of g2) (xo.bf _ (by decide)) h1 h2 h3 n1 n2 n3) fun σ H Q q => w_3 (r := rLR3) (fun M H x y z d1 d2 d3 d dm r1 r2 r3 e k => ?_) q⟩
        cases d1 with
        | int i =>
          cases d2 with
          | int j =>
            cases d3 with
            | int m =>
              cases r1; cases r2; cases r3
              have e' : (if RgC i j m then some (D.lst ((rgC i j m).map D.int)) else none) = some d := e
              split at e'
              · rename_i hr
                cases e'
                exact ⟨i, j, m, rfl, rfl, rfl, hr, fun p hn => k _ _ (same_new hn) (.lst upd_same (dm.fresh hn) (RepAll.of_ints _))⟩
              · cases e'
            | _ => cases e
          | _ => cases e
        | _ => cases e
      · cases h
    · cases h
  refine ⟨fun h hp => (main h hp).choose_spec.choose_spec.choose_spec.2, (fun z => nomatch z), fun {e es ms} h hp => ?_⟩
  obtain ⟨a, b, pos, rfl, pe⟩ := main h hp
  exact pt_of_pe pe (fun _ => rfl)
end PL

namespace PL
open PySem PySem.Spec PyProof.Rows L2
/-! ## each second one: x[::2] of a tuple -/
def evens {α : Type} : List α → List α
  | a :: _ :: r => a :: evens r
  | l => l
def halfU (n : Nat) : Nat := (n + 1) / 2
theorem evens_pick {α : Type} : ∀ (l : List α), ((List.range (halfU l.length)).filterMap fun (m : Nat) => l[2 * m]?) = evens l
  | [] => by
    rw [show halfU ([] : List α).length = 0 from by unfold halfU; rw [List.length_nil]]
    rfl
  | [a] => by
    rw [show halfU [a].length = 0 + 1 from by unfold halfU; rw [List.length_singleton], List.range_succ_eq_map]
    rfl
  | a :: b :: r => by
    have h : halfU (a :: b :: r).length = halfU r.length + 1 := by
      unfold halfU
      rw [List.length_cons, List.length_cons]; omega
    rw [h, List.range_succ_eq_map, List.filterMap_cons]
    show a :: _ = a :: evens r
    congr 1
    rw [List.filterMap_map, ← evens_pick r]
    refine fm_congr fun m _ => ?_
    show (a :: b :: r)[2 * (m + 1)]? = r[2 * m]?
    rw [show 2 * (m + 1) = 2 * m + 1 + 1 by omega, List.getElem?_cons_succ, List.getElem?_cons_succ]
section
variable {prog : Program} {w : World} {A : Around} {E : Value → Shared → Prop} {s : Shared}
theorem pick_two (xs : Array Value) : ((List.range (halfU xs.size)).filterMap fun (m : Nat) => xs[((0 : Int) + (m : Int) * 2).toNat]?) = evens xs.toList := by
  rw [← evens_pick, Array.length_toList]
  refine fm_congr fun m _ => ?_
  rw [Array.getElem?_toList]
  have : ((0 : Int) + (m : Int) * 2).toNat = 2 * m := by omega
  rw [this]
theorem applied_two {sl : Addr} {vl vu vs : Value} {n : Nat} {Q : Int × Int × Nat → Shared → Prop} (hs : s.heap.IsSliceOf sl vl vu vs) (pl : IsPart vl none) (pu : IsPart vu none) (ps : IsPart vs (some 2))
    (h : Q (0, 2, halfU n) s) : wpAny (model prog w) A (Builtin.Slice.sliceApplied (.ref sl) (pure (n : Int))) Q E s := by
  obtain ⟨os, hos, hcs, hds⟩ := id hs
  unfold Builtin.Slice.sliceApplied Builtin.Slice.sliceFields; refine wpAny_bind (wpAny_bind (wpAny_field hos hds (x := vl) rfl (wpAny_bind (wpAny_field hos hds (x := vu) rfl (wpAny_bind (wpAny_field hos hds (x := vs) rfl (wpAny_pure ?_)))))))
  refine wpAny_bind (HT.slicePart_ ps ?_)
  show wpAny _ _ (if ((2 : Int) == 0) = true then _ else _) _ _ s
  rw [if_neg (by decide)]; refine wpAny_bind (HT.slicePart_ pl (wpAny_bind (HT.slicePart_ pu (wpAny_bind (wpAny_pure ?_)))))
  have e : Builtin.Slice.slicePlaces 0 (n : Int) 2 = halfU n := by
    unfold Builtin.Slice.slicePlaces halfU
    rw [if_pos (by decide)]
    split
    · omega
    · have : n = 0 := by omega
      subst this; rfl
  show wpAny _ _ (pure ((0 : Int), (2 : Int), Builtin.Slice.slicePlaces 0 (n : Int) 2)) _ _ s
  rw [e]; exact wpAny_pure h
theorem evens_len {α : Type} : ∀ l : List α, (evens l).length ≤ l.length
  | [] => Nat.le_refl _
  | [a] => Nat.le_refl _
  | a :: b :: r => by
    show (evens r).length + 1 ≤ r.length + 1 + 1
    have := evens_len r
    omega
theorem getItem_two {t sl : Addr} {items : Array Value} {vl vu vs : Value} {Q : Value → Shared → Prop} (ht : IsTup s.heap t items) (hs : s.heap.IsSliceOf sl vl vu vs) (pl : IsPart vl none) (pu : IsPart vu none) (ps : IsPart vs (some 2))
    (h : Q (.ref s.heap.objs.size) { s with heap := s.heap.push { cls := .type "tuple", data := .seq (evens items.toList).toArray } }) (hsz : items.size ≤ sizeLine) :
    wpAny (model prog w) A (getItem (.ref t) (.ref sl)) Q E s := by
  have hok : sizeOk (.seq (evens items.toList).toArray) := by
    show (evens items.toList).toArray.size ≤ sizeLine
    rw [List.size_toArray]
    exact Nat.le_trans (evens_len items.toList) (by rw [Array.length_toList]; exact hsz)
  obtain ⟨os, hos, hcs, hds⟩ := id hs
  have hT : s.TypeIs (.ref sl) "slice" := ⟨os, hos, hcs⟩
  unfold getItem; (try with_reducible refine wpAny_holding ?_); (first | refine wpAny_bind (wpAny_pure ?_) | skip); refine wpAny_bind (wpAny_sequenceKey ht.typeIs (by decide) ?_)
  refine wpAny_bind (wpAny_callSpecial?_slot (name := Str.ofString "__getitem__") ht.typeIs PyProof.Rows.slot_tuple_getitem (wpAny_call_entry PyProof.Rows.slot_tuple_getitem ht.typeIs entry_tuple_getitem ?_ (args_tuple_getitem _ _)))
  show wpAny (model prog w) A.in1 (Builtin.Tuple.tupleItemsOf (.ref t) >>= _) _ _ s
  refine wpAny_bind (tupleItemsOf_ ht (wpAny_bind (wpAny_typeOf hT ?_))); rw [if_pos (by decide)]
  refine wpAny_bind (applied_two hs pl pu ps ?_)
  have hno : ¬ (((0 : Int) == 0 && (2 : Int) == 1 && halfU items.size == items.size) = true) := by
    rw [show ((2 : Int) == 1) = false from rfl, Bool.and_false, Bool.false_and]; exact Bool.false_ne_true
  show wpAny _ _ (if ((0 : Int) == 0 && (2 : Int) == 1 && halfU items.size == items.size) = true then _ else _) _ _ s
  rw [if_neg hno, pick_two]
  first
    | exact wpAny_bind (m := Builtin.Tuple.tupleExact _) (wpAny_newObj_type (wpAny_pure ⟨_, rfl, wpAny_pure h⟩) hok)
    | exact wpAny_bind (m := Builtin.Tuple.tupleExact _) (wpAny_newObj_type (wpAny_bind (wpAny_pure (wpAny_pure ⟨_, rfl, wpAny_pure h⟩))) hok)
    | exact wpAny_bind (wpAny_bind (m := Builtin.Tuple.tupleExact _) (wpAny_newObj_type (wpAny_pure (wpAny_pure ⟨_, rfl, wpAny_pure h⟩)) hok))
    | exact wpAny_bind (wpAny_bind (m := Builtin.Tuple.tupleExact _) (wpAny_newObj_type (wpAny_pure ⟨_, rfl, wpAny_pure h⟩) hok))
end
def rTwo (K : PySem.W.Frag) : V → Hp → VK → Prop := fun x H Q => ∃ a xs, x = .ref a ∧ SqT K H a xs ∧ ∀ p, H p = none → Q (.ref p) (upd H p (.tup (evens xs)))
theorem vals_evens : ∀ {xs : List V} {us : List Value}, Vals xs us → Vals (evens xs) (evens us)
  | _, _, .nil => .nil
  | _, _, .cons r .nil => .cons r .nil
  | _, _, .cons r (.cons _ t) => .cons r (vals_evens t)
theorem pe_two {X : Cx} {e : Expr} {te : TE} {k : Nat} {p1 p3 pos : Pos} (he : PE X e te) : PE X (.Subscript e (.Slice none none (some (.Constant (.int 2) k p1)) p3) pos) (fun σ H Q => te σ H fun x H1 => rTwo X.K x H1 Q) := by
  refine ⟨fun pins s σ H Q I h => Subscript_ (thn (he.run pins s σ H _ I h) fun v s1 ⟨x, H1, I1, r1, q1⟩ => ?_)⟩
  obtain ⟨a, xs, ex, hx, q⟩ := q1
  subst ex
  cases r1
  have hst : PO X (some (.Constant (.int 2) k p1)) (tPart (tC (.int 2))) := by exact po_some pe_int
  refine wpAny_Slice (thn (po_none.run pins s1 σ H1 (fun o H2 => o = none ∧ H2 = H1) I1 ⟨rfl, rfl⟩) fun vl s2 ⟨l, H2, I2, pl, el, f2⟩ => ?_)
  subst el f2
  refine thn (po_none.run pins s2 σ H2 (fun o H3 => o = none ∧ H3 = H2) I2 ⟨rfl, rfl⟩) fun vu s3 ⟨u, H3, I3, pu, eu, f3⟩ => ?_
  subst eu f3
  refine thn (hst.run pins s3 σ H3 (fun o H4 => o = some 2 ∧ H4 = H3) I3 ⟨2, rfl, rfl, rfl⟩) fun vs s4 ⟨o, H4, I4, ps, eo, f4⟩ => ?_
  subst eo f4
  generalize hsp : { s4 with heap := s4.heap.push { cls := .type "slice", data := .fields #[vl, vu, vs] } } = sp
  have I5 : Inv X pins σ H4 sp := by rw [← hsp]; exact I4.kept (t' := s4.toks) fun b ob q => Heap.get?_push_of_some _ q
  have hsl : sp.heap.IsSliceOf s4.heap.objs.size vl vu vs := by rw [← hsp]; exact Heap.IsSliceOf.new _ vl vu vs
  show wpAny (model X.prog X.w) X.A (subscriptTail e (.Slice none none (some (.Constant (.int 2) k p1)) p3) (.ref a) (.ref s4.heap.objs.size)) (EP X pins σ Q) X.xe _
  obtain ⟨its, r, ht, hz⟩ := I5.tuple hx
  have hlen := r.length
  refine tail_any (ops := [.ref a, .ref s4.heap.objs.size]) ht.typeIs (PyProof.Rows.slot_tuple_getitem.lookup) (getItem_two ht hsl pl pu ps ?_ (by rw [List.size_toArray]; omega)) (by with_unfolding_all rfl)
  refine ⟨.ref _, _, I5.laid (t' := sp.toks) (o := .tup (evens xs)) (fun b ob q => Heap.get?_push_of_some _ q) (Nat.le_refl _) ⟨by have := evens_len xs; omega, _, vals_evens r, IsTup.new _ _⟩, rfl, q _ (I5.hok.fresh (Nat.le_refl _))⟩
def twoSyn : Scope → Expr → Option (List Expr) := fun _ e => match e with
  | .Subscript a (.Slice none none (some (.Constant (.int 2) _ _)) _) _ => some [a]
  | _ => none
def opTwo : D → Option D
  | .tup l => some (.tup (evens l))
  | _ => none
def pTwo : Prim := { syn := twoSyn, sem := one1 opTwo }
theorem RepAll.evens {K : PySem.W.Frag} {M : Mk} {H : Hp} : ∀ {xs : List V} {ds : List D}, RepAll K M H xs ds → RepAll K M H (PL.evens xs) (PL.evens ds)
  | _, _, .nil => .nil
  | _, _, .cons r .nil => .cons r .nil
  | _, _, .cons r (.cons _ t) => .cons r (RepAll.evens t)
theorem twoG : PrimG pTwo := by
  intro X k W xo
  have main : ∀ {e : Expr} {es : List Expr} {ms : List (En → Res D)}, twoSyn X.env.scope e = some es → PEs X W es ms → ∃ a b pos, e = .Subscript a b pos ∧ PE X e (tS X W fun ρ => (seqM ms ρ).bind fun ds => ofO (one1 opTwo ds)) := by
    intro e es ms h hp
    unfold twoSyn at h
    split at h
    · rename_i a kk p1 p3 pos
      cases h
      obtain ⟨ma, rfl, h1, _⟩ := one_pes hp
      refine ⟨a, _, pos, rfl, pe_weak (pe_two h1) fun σ H Q q => w_1 (r := fun x H Q => rTwo X.K x H Q) (fun M H x d1 d dm r1 e k => ?_) q⟩
      have e' : opTwo d1 = some d := e
      cases d1 with
      | tup l => cases e'; cases r1 with | tup s n ra => exact ⟨_, _, rfl, SqT.of s, fun p hp => k _ _ (same_new hp) (.tup upd_same (dm.fresh hp) ((RepAll.evens ra).same (same_new hp)))⟩
      | _ => cases e'
    · cases h
  refine ⟨fun h hp => (main h hp).choose_spec.choose_spec.choose_spec.2, (fun z => nomatch z), fun {e es ms} h hp => ?_⟩
  obtain ⟨a, b, pos, rfl, pe⟩ := main h hp
  exact pt_of_pe pe (fun _ => rfl)
end PL

namespace PL
open PySem PySem.Spec PyProof.Rows L2
/-! ## fractions as Lean's own -/
def frQ (q : Rat) : D := .tup [.int q.num, .int (q.den : Nat)]
theorem fr_frQ {n d : Int} (h : 0 < d) : fr n d = frQ ((n : Rat) / (d : Rat)) := by
  obtain ⟨m, rfl⟩ := Int.eq_ofNat_of_zero_le (Int.le_of_lt h)
  have hm : m ≠ 0 := by omega
  have e : ((n : Rat) / ((m : Int) : Rat)) = Rat.normalize n m hm := by
    rw [← Rat.divInt_eq_div]
    show Rat.divInt n (m : Nat) = _
    rw [Rat.divInt_ofNat, Rat.mkRat_def, dif_neg hm]
  rw [e, Rat.normalize_eq]
  unfold frQ fr gd
  show D.tup [.int (n / ((n.natAbs.gcd m : Nat) : Int)), .int ((m : Int) / ((n.natAbs.gcd m : Nat) : Int))] = D.tup [.int _, .int (((m / n.natAbs.gcd m : Nat)) : Int)]
  rw [Int.natCast_ediv]
theorem frQ_nd (q : Rat) : frQ q = fr q.num q.den := by
  have h : (0 : Int) < (q.den : Int) := by have := q.den_pos; omega
  rw [fr_frQ h]
  congr 1
  rw [← Rat.divInt_eq_div]
  exact (Rat.num_divInt_den q).symm
/-- all reckoned times: parts of L, of bounded size -/
structure Lq (L B : Nat) (q : Rat) : Prop where
  wh : ∃ k : Int, q * (L : Rat) = (k : Rat)
  lo : -(B : Rat) ≤ q
  hi : q ≤ (B : Rat)
theorem Lq.add {L B C : Nat} {p q : Rat} (a : Lq L B p) (b : Lq L C q) : Lq L (B + C) (p + q) := by
  obtain ⟨k, hk⟩ := a.wh
  obtain ⟨m, hm⟩ := b.wh
  have h1 := a.lo
  have h2 := a.hi
  have h3 := b.lo
  have h4 := b.hi
  have e : ((B + C : Nat) : Rat) = (B : Rat) + (C : Rat) := Rat.natCast_add B C
  refine ⟨⟨k + m, ?_⟩, ?_, ?_⟩
  · rw [Rat.intCast_add, ← hk, ← hm]; grind
  · rw [e]; grind
  · rw [e]; grind
theorem Lq.sub {L B C : Nat} {p q : Rat} (a : Lq L B p) (b : Lq L C q) : Lq L (B + C) (p - q) := by
  obtain ⟨k, hk⟩ := a.wh
  obtain ⟨m, hm⟩ := b.wh
  have h1 := a.lo
  have h2 := a.hi
  have h3 := b.lo
  have h4 := b.hi
  have e : ((B + C : Nat) : Rat) = (B : Rat) + (C : Rat) := Rat.natCast_add B C
  refine ⟨⟨k - m, ?_⟩, ?_, ?_⟩
  · rw [Rat.intCast_sub, ← hk, ← hm]; grind
  · rw [e]; grind
  · rw [e]; grind
theorem Lq.mono {L B C : Nat} {p : Rat} (a : Lq L B p) (h : B ≤ C) : Lq L C p := by
  have e : (B : Rat) ≤ (C : Rat) := Rat.natCast_le_natCast.mpr h
  have := a.lo
  have := a.hi
  exact ⟨a.wh, by grind, by grind⟩
theorem Lq.parts {L B : Nat} {q : Rat} (hL : 0 < L) (a : Lq L B q) : q.den ≤ L ∧ q.num.natAbs ≤ B * L := by
  obtain ⟨k, hk⟩ := a.wh
  have hl : L ≠ 0 := by omega
  have h1 := a.lo
  have h2 := a.hi
  have lp : (0 : Rat) < (L : Rat) := by
    have := Rat.natCast_lt_natCast.mpr hL
    exact this
  have ek : -(B : Rat) * (L : Rat) ≤ (k : Rat) ∧ (k : Rat) ≤ (B : Rat) * (L : Rat) := by
    rw [← hk]
    exact ⟨Rat.mul_le_mul_of_nonneg_right h1 (by grind), Rat.mul_le_mul_of_nonneg_right h2 (by grind)⟩
  have kb : k.natAbs ≤ B * L := by
    have c1 : (((-((B * L : Nat) : Int)) : Int) : Rat) ≤ (k : Rat) := by
      rw [Rat.intCast_neg, Rat.intCast_natCast, Rat.natCast_mul]; grind
    have c2 : (k : Rat) ≤ ((((B * L : Nat) : Int) : Int) : Rat) := by
      rw [Rat.intCast_natCast, Rat.natCast_mul]; grind
    have c1 := Rat.intCast_le_intCast.mp c1
    have c2 := Rat.intCast_le_intCast.mp c2
    omega
  have e : q = Rat.normalize k L hl := by
    have : q = (k : Rat) / ((L : Int) : Rat) := by
      rw [Rat.intCast_natCast, ← hk]; grind
    rw [this, ← Rat.divInt_eq_div]
    show Rat.divInt k (L : Nat) = _
    rw [Rat.divInt_ofNat, Rat.mkRat_def, dif_neg hl]
  rw [e, Rat.normalize_eq]
  refine ⟨Nat.div_le_self _ _, ?_⟩
  show (k / ((k.natAbs.gcd L : Nat) : Int)).natAbs ≤ _
  refine Nat.le_trans ?_ kb
  have := num_le (n := k) (d := (L : Int)) (by omega)
  exact this
section
variable {L B C : Nat} {p q : Rat} (hL : 0 < L) (a : Lq L B p) (b : Lq L C q) (hB : (B + 1) * L < 10000000000000000000000000000000000000) (hC : (C + 1) * L < 10000000000000000000000000000000000000)
theorem den_ne (q : Rat) : ((q.den : Int) : Rat) ≠ 0 := by
  have h : (0 : Int) < (q.den : Int) := by have := q.den_pos; omega
  intro e
  have : (q.den : Int) = 0 := Rat.intCast_eq_zero_iff.mp e
  omega
theorem q_parts (q : Rat) : q * ((q.den : Int) : Rat) = ((q.num : Int) : Rat) := by
  have h : q = ((q.num : Int) : Rat) / ((q.den : Int) : Rat) := by
    rw [← Rat.divInt_eq_div]; exact (Rat.num_divInt_den q).symm
  have := den_ne q
  grind
include hL a hB in
theorem Lq.bn : bnd p.num = true ∧ bnd p.den = true := by
  obtain ⟨h1, h2⟩ := a.parts hL
  have e : (B + 1) * L = B * L + L := Nat.succ_mul B L
  exact ⟨bndN (A := B * L) h2 (by omega), bndN (A := L) (by omega) (by omega)⟩
include hL a b hB hC
theorem qq_plus : fPlus [frQ p, frQ q] = .ok (frQ (p + q)) := by
  have dp : (0 : Int) < (p.den : Int) := by have := p.den_pos; omega
  have dq : (0 : Int) < (q.den : Int) := by have := q.den_pos; omega
  rw [frQ_nd p, frQ_nd q, plus_fr dp dq (a.bn hL hB).1 (a.bn hL hB).2 (b.bn hL hC).1 (b.bn hL hC).2, fr_frQ (Int.mul_pos dp dq)]
  congr 2
  rw [Rat.intCast_add, Rat.intCast_mul, Rat.intCast_mul, Rat.intCast_mul, ← q_parts p, ← q_parts q]
  have := den_ne p
  have := den_ne q
  grind
theorem qq_minus : fMinus [frQ p, frQ q] = .ok (frQ (p - q)) := by
  have dp : (0 : Int) < (p.den : Int) := by have := p.den_pos; omega
  have dq : (0 : Int) < (q.den : Int) := by have := q.den_pos; omega
  rw [frQ_nd p, frQ_nd q, minus_fr dp dq (a.bn hL hB).1 (a.bn hL hB).2 (b.bn hL hC).1 (b.bn hL hC).2, fr_frQ (Int.mul_pos dp dq)]
  congr 2
  rw [Rat.intCast_sub, Rat.intCast_mul, Rat.intCast_mul, Rat.intCast_mul, ← q_parts p, ← q_parts q]
  have := den_ne p
  have := den_ne q
  grind
theorem qq_less : fLess [frQ p, frQ q] = .ok (.bl (decide (p < q))) := by
  have dp : (0 : Int) < (p.den : Int) := by have := p.den_pos; omega
  have dq : (0 : Int) < (q.den : Int) := by have := q.den_pos; omega
  rw [frQ_nd p, frQ_nd q, less_fr dp dq (a.bn hL hB).1 (a.bn hL hB).2 (b.bn hL hC).1 (b.bn hL hC).2]
  congr 2
  exact decide_eq_decide.mpr (by rw [Rat.lt_iff])
end
theorem frQ_inj {p q : Rat} (h : frQ p = frQ q) : p = q := by
  injection h with h
  injection h with h1 h2
  injection h2 with h2 _
  injection h1 with h1
  injection h2 with h2
  exact Rat.ext h1 (by omega)
theorem sh_frQ (q : Rat) : Sh 1 (frQ q) := Sh.tup (n := 0) fun d hd => by
  rcases List.mem_cons.mp hd with rfl | hd
  · exact Sh.int 0 _
  · rw [List.mem_singleton] at hd; rw [hd]; exact Sh.int 0 _
end PL

namespace PL
open PySem PySem.Spec PyProof.Rows L2
/-! ## texts of the program that many laws reach -/
def b_between : S :=
  (.cons (.ite (.prim pEq (.cons (.prim pIx (.cons (.v 1) (.cons (.c (.int 0)) .nil))) (.cons (.prim pIx (.cons (.v 0) (.cons (.c (.int 0)) .nil))) .nil)))
  (.cons (.ret (.prim pTup (.cons (.prim pTup (.cons (.prim pIx (.cons (.v 0) (.cons (.c (.int 1)) .nil))) (.cons (.c (.int 1)) .nil))) (.cons (.prim pTup (.cons (.prim pIx (.cons (.v 0) (.cons (.c (.int 2)) .nil))) (.cons (.c (.int 1)) .nil))) .nil))))
  .nil)
  .nil)
  (.cons (.set true 3 (.call "share" fShare (.cons (.prim pSub (.cons (.v 2) (.cons (.prim pIx (.cons (.v 0) (.cons (.c (.int 0)) .nil))) .nil))) (.cons (.prim pSub (.cons (.prim pIx (.cons (.v 1) (.cons (.c (.int 0)) .nil))) (.cons (.prim pIx (.cons (.v 0) (.cons (.c (.int 0)) .nil))) .nil))) .nil))))
  (.cons (.own true 4 (.prim pLst .nil))
  (.cons (.for_ (.name 5) (.seq (.prim pTup (.cons (.c (.int 1)) (.cons (.c (.int 2)) .nil))))
  (.cons (.app true 4 (.call "plus" fPlus (.cons (.prim pTup (.cons (.prim pIx (.cons (.v 0) (.cons (.v 5) .nil))) (.cons (.c (.int 1)) .nil))) (.cons (.call "share" fShare (.cons (.prim pMul (.cons (.prim pIx (.cons (.v 3) (.cons (.c (.int 0)) .nil))) (.cons (.prim pSub (.cons (.prim pIx (.cons (.v 1) (.cons (.v 5) .nil))) (.cons (.prim pIx (.cons (.v 0) (.cons (.v 5) .nil))) .nil))) .nil))) (.cons (.prim pIx (.cons (.v 3) (.cons (.c (.int 1)) .nil))) .nil))) .nil))))
  .nil))
  (.cons (.ret (.prim pTup (.cons (.prim pIx (.cons (.v 4) (.cons (.c (.int 0)) .nil))) (.cons (.prim pIx (.cons (.v 4) (.cons (.c (.int 1)) .nil))) .nil))))
  .nil)))))
def f_between : List D → Res D := callD 6 3 b_between
def b_position : S :=
  (.cons (.expr (.call "look_track" f_look_track (.cons (.v 0) .nil)))
  (.cons (.ite (.not (.call "is_whole" f_is_whole (.cons (.v 1) (.cons (.prim pIx (.cons (.prim pIx (.cons (.v 0) (.cons (.c (.int 0)) .nil))) (.cons (.c (.int 0)) .nil))) (.cons (.prim pIx (.cons (.prim pIx (.cons (.v 0) (.cons (.prim pNeg (.cons (.c (.int 1)) .nil)) .nil))) (.cons (.c (.int 0)) .nil))) .nil)))))
  (.cons (.raise "NoTime")
  .nil)
  .nil)
  (.cons (.set true 2 (.prim pIx (.cons (.comp [("point", 4)] (.name 4) (.seq (.v 0)) (.some (.prim pLe (.cons (.prim pIx (.cons (.v 4) (.cons (.c (.int 0)) .nil))) (.cons (.v 1) .nil)))) (.v 4)) (.cons (.prim pNeg (.cons (.c (.int 1)) .nil)) .nil))))
  (.cons (.set true 3 (.prim pIx (.cons (.comp [("point", 4)] (.name 4) (.seq (.v 0)) (.some (.prim pGe (.cons (.prim pIx (.cons (.v 4) (.cons (.c (.int 0)) .nil))) (.cons (.v 1) .nil)))) (.v 4)) (.cons (.c (.int 0)) .nil))))
  (.cons (.ret (.call "between" f_between (.cons (.v 2) (.cons (.v 3) (.cons (.v 1) .nil)))))
  .nil)))))
def f_position : List D → Res D := callD 5 2 b_position
end PL

namespace PL
open PySem PySem.Spec PyProof.Rows
open L2 hiding prD ltP
/-! ## where one is -/
theorem frQ_int (x : Int) : frQ (x : Rat) = .tup [.int x, .int 1] := rfl
def posD (v : Rat × Rat) : D := .tup [frQ v.1, frQ v.2]
def lerp1 (a b x y : Int) (t : Rat) : Rat := (x : Rat) + (t - (a : Rat)) * ((y : Rat) - (x : Rat)) / ((b : Rat) - (a : Rat))
def lerp (p q : P3) (t : Rat) : Rat × Rat := if q.1 = p.1 then ((p.2.1 : Rat), (p.2.2 : Rat)) else (lerp1 p.1 q.1 p.2.1 q.2.1 t, lerp1 p.1 q.1 p.2.2 q.2.2 t)
def bwBody : S := S.loop (S.drop b_between 3)
theorem bw_num {a b x y t : Int} (h : a < b) : fr (x * den (t - a) (b - a) + num (t - a) (b - a) * (y - x) * 1) (1 * den (t - a) (b - a)) = frQ (lerp1 a b x y (t : Rat)) := by
  have hd : 0 < b - a := by omega
  have hp := den_pos (n := t - a) hd
  have e := num_den (n := t - a) (d := b - a)
  rw [Int.mul_one, Int.one_mul, fr_frQ hp]
  congr 1
  unfold lerp1
  generalize den (t - a) (b - a) = d at *
  generalize num (t - a) (b - a) = n at *
  have e' : (((t - a) * d : Int) : Rat) = ((n * (b - a) : Int) : Rat) := by rw [e]
  rw [Rat.intCast_mul, Rat.intCast_mul, Rat.intCast_sub, Rat.intCast_sub] at e'
  rw [Rat.intCast_add, Rat.intCast_mul, Rat.intCast_mul, Rat.intCast_sub]
  have d0 : (d : Rat) ≠ 0 := fun z => by
    have := Rat.intCast_eq_zero_iff.mp z
    omega
  have b0 : (b : Rat) - (a : Rat) ≠ 0 := fun z => by
    rw [← Rat.intCast_sub] at z
    have := Rat.intCast_eq_zero_iff.mp z
    omega
  grind
theorem bw_step {p q : P3} {t k x y : Int} {l : List D} {K : Sl} (ip : InPt p) (iq : InPt q) (hp : opIx (ptD p) (.int k) = some (.int x)) (hq : opIx (ptD q) (.int k) = some (.int y)) (hx : -99 ≤ x ∧ x ≤ 99) (hy : -99 ≤ y ∧ y ≤ 99) (h : p.1 < q.1) (h1 : p.1 ≤ t) (h2 : t ≤ q.1) (hl : l.length < 100) :
    PL.run bwBody [.ro (ptD p), .ro (ptD q), .ro (.int t), .ro (fr (t - p.1) (q.1 - p.1)), .own l, .ro (.int k)] = .nx [.ro (ptD p), .ro (ptD q), .ro (.int t), .ro (fr (t - p.1) (q.1 - p.1)), .own (l ++ [frQ (lerp1 p.1 q.1 x y (t : Rat))]), .ro (.int k)] := by
  obtain ⟨a1, a2, a3, a4, a5, a6⟩ := ip
  obtain ⟨b1, b2, b3, b4, b5, b6⟩ := iq
  have hd : 0 < q.1 - p.1 := by omega
  have dp := den_pos (n := t - p.1) hd
  have dl := den_le (n := t - p.1) hd
  have nl := num_le (n := t - p.1) hd
  have nb : -999 ≤ num (t - p.1) (q.1 - p.1) ∧ num (t - p.1) (q.1 - p.1) ≤ 999 := by omega
  have mb : -1000000 ≤ num (t - p.1) (q.1 - p.1) * (y - x) ∧ num (t - p.1) (q.1 - p.1) * (y - x) ≤ 1000000 := by
    generalize num (t - p.1) (q.1 - p.1) = n at *
    have hm := bm (A := 999) (B := 198) (a := n) (b := y - x) (by omega) (by omega)
    omega
  have sh : fShare [.int (num (t - p.1) (q.1 - p.1) * (y - x)), .int (den (t - p.1) (q.1 - p.1))] = .ok (fr (num (t - p.1) (q.1 - p.1) * (y - x)) (den (t - p.1) (q.1 - p.1))) := share_ok dp (by unfold topD; omega)
  have pl : fPlus [.tup [.int x, .int 1], fr (num (t - p.1) (q.1 - p.1) * (y - x)) (den (t - p.1) (q.1 - p.1))] = .ok (frQ (lerp1 p.1 q.1 x y (t : Rat))) := by
    rw [← one_fr, plus_fr (by decide) dp (bndN (A := 99) (by omega) (by decide)) (by decide) (bndN (A := 1000000) (by omega) (by decide)) (bndN (A := 999) (by omega) (by decide)), bw_num h]
  refine rapp (l := l) (d := frQ (lerp1 p.1 q.1 x y (t : Rat))) ?_ ?_ ?_ ?_ ?_
  · rfl
  · exact ec (lc (e2 (e2 rfl rfl hp) ki rfl) (lc (ec (lc (emul (ex0 rfl) (esub (e2 rfl rfl hq) (e2 rfl rfl hp)) (mul_small (by omega))) (lc (ex1 rfl) l0)) sh) l0)) pl
  · rfl
  · have : sizeD = 100000 := rfl
    omega
  · rfl
theorem btw_ok {p q : P3} {t : Int} (ip : InPt p) (iq : InPt q) (h1 : p.1 ≤ t) (h2 : t ≤ q.1) : f_between [ptD p, ptD q, .int t] = .ok (posD (lerp p q (t : Rat))) := by
  by_cases h : q.1 = p.1
  · unfold lerp
    rw [if_pos h]
    refine rcall rfl (riteT (s := [.ro (ptD p), .ro (ptD q), .ro (.int t), .no, .no, .no]) ((e2 (x := .int q.1) (y := .int p.1) (e2 (x := ptD q) rfl ki rfl) (e2 (x := ptD p) rfl ki rfl) (o_eqI _ _)).trans (by rw [decide_eq_true h])) ?_)
    exact rret rfl
  · have hl : p.1 < q.1 := by omega
    unfold lerp
    rw [if_neg h]
    refine rcall rfl (riteF (s := [.ro (ptD p), .ro (ptD q), .ro (.int t), .no, .no, .no]) ((e2 (x := .int q.1) (y := .int p.1) (e2 (x := ptD q) rfl ki rfl) (e2 (x := ptD p) rfl ki rfl) (o_eqI _ _)).trans (by rw [decide_eq_false h])) ?_)
    have i1 := ip
    have i2 := iq
    obtain ⟨a1, a2, a3, a4, a5, a6⟩ := ip
    obtain ⟨b1, b2, b3, b4, b5, b6⟩ := iq
    refine rset (s := [.ro (ptD p), .ro (ptD q), .ro (.int t), .no, .no, .no]) (d := fr (t - p.1) (q.1 - p.1)) ?_ ?_ ?_
    · exact ec (lc (esub rfl (e2 (x := ptD p) rfl ki rfl)) (lc (esub (e2 (x := ptD q) rfl ki rfl) (e2 (x := ptD p) rfl ki rfl)) l0)) (share_ok (by omega) (by unfold topD; omega))
    · rfl
    refine rown (s := [.ro (ptD p), .ro (ptD q), .ro (.int t), .ro (fr (t - p.1) (q.1 - p.1)), .no, .no]) (l := []) ?_ ?_ ?_
    · rfl
    · rfl
    have s1 := bw_step (k := 1) (l := []) (K := .no) (t := t) i1 i2 rfl rfl ⟨a3, a4⟩ ⟨b3, b4⟩ hl h1 h2 (by decide)
    have s2 := bw_step (k := 2) (l := [frQ (lerp1 p.1 q.1 p.2.1 q.2.1 (t : Rat))]) (K := .no) (t := t) i1 i2 rfl rfl ⟨a5, a6⟩ ⟨b5, b6⟩ hl h1 h2 (by simp)
    refine rfor (s := [.ro (ptD p), .ro (ptD q), .ro (.int t), .ro (fr (t - p.1) (q.1 - p.1)), .own [], .no]) (s' := [.ro (ptD p), .ro (ptD q), .ro (.int t), .ro (fr (t - p.1) (q.1 - p.1)), .own [frQ (lerp1 p.1 q.1 p.2.1 q.2.1 (t : Rat)), frQ (lerp1 p.1 q.1 p.2.2 q.2.2 (t : Rat))], .ro (.int 2)]) (ds := [.int 1, .int 2]) ?_ ?_ ?_
    · rfl
    · refine for_name (s1 := [.ro (ptD p), .ro (ptD q), .ro (.int t), .ro (fr (t - p.1) (q.1 - p.1)), .own [frQ (lerp1 p.1 q.1 p.2.1 q.2.1 (t : Rat))], .ro (.int 1)]) ?_ ?_
      · exact s1
      refine for_name (s1 := [.ro (ptD p), .ro (ptD q), .ro (.int t), .ro (fr (t - p.1) (q.1 - p.1)), .own [frQ (lerp1 p.1 q.1 p.2.1 q.2.1 (t : Rat)), frQ (lerp1 p.1 q.1 p.2.2 q.2.2 (t : Rat))], .ro (.int 2)]) ?_ ?_
      · exact s2
      rfl
    exact rret rfl
/-! ## the point ahead, the point behind -/
def posQ : List P3 → Rat → Rat × Rat
  | [], _ => (0, 0)
  | [p], _ => ((p.2.1 : Rat), (p.2.2 : Rat))
  | p :: q :: r, t => if t ≤ (q.1 : Rat) then lerp p q t else posQ (q :: r) t
theorem lerp_start {p q : P3} (h : p.1 < q.1) : lerp p q (p.1 : Rat) = ((p.2.1 : Rat), (p.2.2 : Rat)) := by
  unfold lerp lerp1
  rw [if_neg (by omega)]
  have : (q.1 : Rat) - (p.1 : Rat) ≠ 0 := fun z => by
    rw [← Rat.intCast_sub] at z
    have := Rat.intCast_eq_zero_iff.mp z
    omega
  refine Prod.ext ?_ ?_ <;> (dsimp only; grind)
theorem lerp_end {p q : P3} (h : p.1 < q.1) : lerp p q (q.1 : Rat) = ((q.2.1 : Rat), (q.2.2 : Rat)) := by
  unfold lerp lerp1
  rw [if_neg (by omega)]
  have : (q.1 : Rat) - (p.1 : Rat) ≠ 0 := fun z => by
    rw [← Rat.intCast_sub] at z
    have := Rat.intCast_eq_zero_iff.mp z
    omega
  refine Prod.ext ?_ ?_ <;> (dsimp only; grind)
theorem lerp_self (p : P3) (t : Rat) : lerp p p t = ((p.2.1 : Rat), (p.2.2 : Rat)) := by unfold lerp; rw [if_pos rfl]
theorem filt_none {p : P3} {r : List P3} {t : Int} (h : (p :: r).Pairwise fun a b => a.1 < b.1) (ht : t < p.1) : ((p :: r).filter fun x => decide (x.1 ≤ t)) = [] := by
  rw [List.filter_eq_nil_iff]
  intro x hx
  rw [decide_eq_true_eq]
  rcases List.mem_cons.mp hx with rfl | hx
  · omega
  · have := List.rel_of_pairwise_cons h hx
    omega
theorem filt_all {p : P3} {r : List P3} {t : Int} (h : (p :: r).Pairwise fun a b => a.1 < b.1) (ht : t ≤ p.1) : ((p :: r).filter fun x => decide (x.1 ≥ t)) = p :: r := by
  rw [List.filter_eq_self]
  intro x hx
  rw [decide_eq_true_eq]
  rcases List.mem_cons.mp hx with rfl | hx
  · exact ht
  · have := List.rel_of_pairwise_cons h hx
    omega
/-- ahead and behind, and where one is then -/
theorem ends_at : ∀ (r : List P3) (p : P3) (t : Int), (p :: r).Pairwise (fun a b => a.1 < b.1) → p.1 ≤ t → (∀ b, (p :: r).getLast? = some b → t ≤ b.1) →
    ∃ a b, ((p :: r).filter fun x => decide (x.1 ≤ t)).getLast? = some a ∧ ((p :: r).filter fun x => decide (x.1 ≥ t)).head? = some b ∧ a ∈ p :: r ∧ b ∈ p :: r ∧ a.1 ≤ t ∧ t ≤ b.1 ∧ lerp a b (t : Rat) = posQ (p :: r) (t : Rat)
  | [], p, t, h, h1, h2 => by
    have ht : t = p.1 := by have := h2 p rfl; omega
    subst ht
    refine ⟨p, p, ?_, ?_, List.mem_cons_self, List.mem_cons_self, Int.le_refl _, Int.le_refl _, lerp_self p _⟩
    · rw [List.filter_cons_of_pos (by simp)]; rfl
    · rw [List.filter_cons_of_pos (by simp)]; rfl
  | q :: r, p, t, h, h1, h2 => by
    have pq : p.1 < q.1 := List.rel_of_pairwise_cons h List.mem_cons_self
    have cst : ∀ {a b : Int}, (a : Rat) ≤ (b : Rat) ↔ a ≤ b := Rat.intCast_le_intCast
    by_cases hq : q.1 ≤ t
    · obtain ⟨a, b, e1, e2, m1, m2, l1, l2, e3⟩ := ends_at r q t h.of_cons hq (fun b hb => h2 b (by rw [List.getLast?_cons_cons]; exact hb))
      have ne : ((q :: r).filter fun x => decide (x.1 ≤ t)) ≠ [] := fun z => by rw [z] at e1; cases e1
      refine ⟨a, b, ?_, ?_, List.mem_cons_of_mem _ m1, List.mem_cons_of_mem _ m2, l1, l2, ?_⟩
      · rw [List.filter_cons_of_pos (by simpa using h1), List.getLast?_cons_of_ne_nil ne]; exact e1
      · rw [List.filter_cons_of_neg (by simpa using (show p.1 < t by omega))]; exact e2
      · rw [e3]
        show _ = if (t : Rat) ≤ (q.1 : Rat) then lerp p q t else posQ (q :: r) t
        by_cases ht : t ≤ q.1
        · have : t = q.1 := by omega
          subst this
          rw [if_pos (Rat.le_refl), lerp_end pq]
          cases r with
          | nil => rfl
          | cons s r =>
            have qs : q.1 < s.1 := List.rel_of_pairwise_cons h.of_cons List.mem_cons_self
            show (if (q.1 : Rat) ≤ (s.1 : Rat) then lerp q s _ else _) = _
            rw [if_pos (cst.mpr (by omega)), lerp_start qs]
        · rw [if_neg (fun z => ht (cst.mp z))]
    · have ht : t < q.1 := by omega
      have n1 := filt_none h.of_cons ht
      by_cases hp : t = p.1
      · subst hp
        refine ⟨p, p, ?_, ?_, List.mem_cons_self, List.mem_cons_self, Int.le_refl _, Int.le_refl _, ?_⟩
        · rw [List.filter_cons_of_pos (by simp), n1]; rfl
        · rw [List.filter_cons_of_pos (by simp)]; rfl
        · show _ = if (p.1 : Rat) ≤ (q.1 : Rat) then lerp p q _ else _
          rw [if_pos (cst.mpr (by omega)), lerp_start pq, lerp_self]
      · refine ⟨p, q, ?_, ?_, List.mem_cons_self, List.mem_cons_of_mem _ List.mem_cons_self, h1, by omega, ?_⟩
        · rw [List.filter_cons_of_pos (by simpa using h1), n1]; rfl
        · rw [List.filter_cons_of_neg (by simpa using (show p.1 < t by omega)), filt_all h.of_cons (by omega)]; rfl
        · show _ = if (t : Rat) ≤ (q.1 : Rat) then lerp p q _ else _
          rw [if_pos (cst.mpr (by omega))]
end PL

namespace PL
open PySem PySem.Spec PyProof.Rows
open L2 hiding prD ltP
theorem ends_of {T : List P3} (G : Good T) : ∃ a b, T.head? = some a ∧ T.getLast? = some b := by
  have h1 := G.ne
  exact ⟨_, _, List.head?_eq_some_head (by intro z; rw [z] at h1; cases h1), List.getLast?_eq_some_getLast (by intro z; rw [z] at h1; cases h1)⟩
theorem ix_first {T : List P3} {a : P3} (h : T.head? = some a) : opIx (trk T) (.int 0) = some (ptD a) := atI_first (head_map _ h)
theorem ix_last {T : List P3} {b : P3} (h : T.getLast? = some b) : opIx (trk T) (.int (-1)) = some (ptD b) := atI_last (getLast_map _ h)
theorem position_ok {T : List P3} {a b : P3} {t : Int} (G : Good T) (ha : T.head? = some a) (hb : T.getLast? = some b) (h1 : a.1 ≤ t) (h2 : t ≤ b.1) : f_position [trk T, .int t] = .ok (posD (posQ T (t : Rat))) := by
  have h12 := G.le
  match T, G, ha, hb with
  | p :: r, G, ha, hb =>
    cases ha
    obtain ⟨x, y, e1', e2', m1, m2, l1, l2, e3⟩ := ends_at r a t (rise_pw G.up) h1 (fun b' hb' => by rw [hb] at hb'; cases hb'; exact h2)
    generalize hT : a :: r = T at *
    have ha : T.head? = some a := by rw [← hT]; rfl
    have i0 := ix_first ha
    have i1 := ix_last hb
    refine rcall rfl (rexpr (s := [.ro (trk T), .ro (.int t), .no, .no, .no]) (ec (lc rfl l0) (look_ok G)) ?_)
    refine riteF (s := [.ro (trk T), .ro (.int t), .no, .no, .no]) ?_ ?_
    · exact enT (ec (lc rfl (lc (e2 (x := ptD a) (e2 rfl ki i0) ki rfl) (lc (e2 (x := ptD b) (e2 rfl (e1 (x := .int 1) ki rfl) i1) ki rfl) l0))) (whole_in h1 h2))
    refine rset (s := [.ro (trk T), .ro (.int t), .no, .no, .no]) (d := ptD x) ?_ ?_ ?_
    · refine e2 (ecompF T ptD (fun p => if decide (p.1 ≤ t) then some (ptD p) else none) (iseq rfl rfl) (by omega) (fun p _ => ⟨_, decide (p.1 ≤ t), rfl, ele (e2 (x := ptD p) rfl ki rfl) rfl, fun h => by rw [h]; rfl, fun h => ⟨_, rfl, by rw [h]; rfl⟩⟩)) (e1 (x := .int 1) ki rfl) ?_
      rw [filterMap_ite]
      exact atI_last (getLast_map _ e1')
    · rfl
    refine rset (s := [.ro (trk T), .ro (.int t), .ro (ptD x), .no, .no]) (d := ptD y) ?_ ?_ ?_
    · refine e2 (ecompF T ptD (fun p => if decide (p.1 ≥ t) then some (ptD p) else none) (iseq rfl rfl) (by omega) (fun p _ => ⟨_, decide (p.1 ≥ t), rfl, ege (e2 (x := ptD p) rfl ki rfl) rfl, fun h => by rw [h]; rfl, fun h => ⟨_, rfl, by rw [h]; rfl⟩⟩)) ki ?_
      rw [filterMap_ite]
      exact atI_first (head_map _ e2')
    · rfl
    rw [← e3]
    exact rret (s := [.ro (trk T), .ro (.int t), .ro (ptD x), .ro (ptD y), .no]) (ec (lc rfl (lc rfl (lc rfl l0))) (btw_ok (G.pt x m1) (G.pt y m2) l1 l2))
theorem position_no {T : List P3} {a b : P3} {d : D} (G : Good T) (ha : T.head? = some a) (hb : T.getLast? = some b) (h : d.pl = true) (hw : wholeB d a.1 b.1 = false) : f_position [trk T, d] = .exc "NoTime" := by
  have i0 := ix_first ha
  have i1 := ix_last hb
  have w := whole_any h a.1 b.1
  rw [hw] at w
  refine callE rfl (rexpr (s := [.ro (trk T), .ro d, .no, .no, .no]) (ec (lc rfl l0) (look_ok G)) ?_)
  refine rite (k := true) (s := [.ro (trk T), .ro d, .no, .no, .no]) ?_ rfl
  exact enF (ec (lc rfl (lc (e2 (x := ptD a) (e2 rfl ki i0) ki rfl) (lc (e2 (x := ptD b) (e2 rfl (e1 (x := .int 1) ki rfl) i1) ki rfl) l0))) w)
theorem no_position {d x : D} (h : d.pl = true) (ht : trackB d = false) : f_position [d, x] = .exc "NoTrack" := callE rfl (rexc (ec (lc rfl l0) (look_no h ht)))
/-! ## at the track's own times -/
theorem posQ_start {p : P3} {r : List P3} (h : (p :: r).Pairwise fun a b => a.1 < b.1) : posQ (p :: r) (p.1 : Rat) = ((p.2.1 : Rat), (p.2.2 : Rat)) := by
  cases r with
  | nil => rfl
  | cons q r =>
    have pq : p.1 < q.1 := List.rel_of_pairwise_cons h List.mem_cons_self
    show (if (p.1 : Rat) ≤ (q.1 : Rat) then lerp p q _ else _) = _
    rw [if_pos (Rat.intCast_le_intCast.mpr (by omega)), lerp_start pq]
theorem posQ_at : ∀ {r : List P3} {p x : P3}, (p :: r).Pairwise (fun a b => a.1 < b.1) → x ∈ p :: r → posQ (p :: r) (x.1 : Rat) = ((x.2.1 : Rat), (x.2.2 : Rat))
  | r, p, x, h, hx => by
    rcases List.mem_cons.mp hx with rfl | hx
    · exact posQ_start h
    · match r, h, hx with
      | q :: r, h, hx =>
        have pq : p.1 < q.1 := List.rel_of_pairwise_cons h List.mem_cons_self
        show (if (x.1 : Rat) ≤ (q.1 : Rat) then lerp p q _ else posQ (q :: r) _) = _
        by_cases hle : x.1 ≤ q.1
        · have hxq : x = q := by
            rcases List.mem_cons.mp hx with e | hx
            · exact e
            · have := List.rel_of_pairwise_cons h.of_cons hx
              omega
          subst hxq
          rw [if_pos Rat.le_refl, lerp_end pq]
        · rw [if_neg (fun z => hle (Rat.intCast_le_intCast.mp z))]
          exact posQ_at h.of_cons hx
theorem posQ_in {T : List P3} {x : P3} (G : Good T) (hx : x ∈ T) : posQ T (x.1 : Rat) = ((x.2.1 : Rat), (x.2.2 : Rat)) := by
  match T, G, hx with
  | p :: r, G, hx => exact posQ_at (rise_pw G.up) hx
theorem pos_pt (x : P3) : posD ((x.2.1 : Rat), (x.2.2 : Rat)) = .tup [.tup [.int x.2.1, .int 1], .tup [.int x.2.2, .int 1]] := rfl
theorem sh_pos (v : Rat × Rat) : Sh 2 (posD v) := Sh.tup (n := 1) fun d hd => by
  simp only [List.mem_cons, List.not_mem_nil, or_false] at hd
  rcases hd with rfl | rfl <;> exact sh_frQ _
end PL

namespace PL
open PySem PySem.Spec PyProof.Rows L2
/-! ## sorted(set(xs)), xs a list of whole numbers -/
section
variable {P : Program} {w : World} {A : Around} {E : Value → Shared → Prop} {s : Shared}
/-- what set() lays -/
abbrev bareSet (w : World) : Obj := { cls := .type "set", dict := none, data := .set #[] 0 (.fresh 0 0 (!w.params.followText "set-order")) }
/-- the set of ns stands at the new place, all else as before -/
def Filled (w : World) (s : Shared) (ns : List Int) (z : Shared) : Prop := ∃ h' tk c, z = { s with heap := h', toks := tk } ∧ SetR w h' s.heap.objs.size (fun j => decide (j ∈ ns)) c ∧ c ≤ ns.length ∧ ∀ b o, s.heap.get? b = some o → h'.get? b = some o
theorem set_ints {l : Addr} {its : Array Value} (ns : List Int) {Q : Value → Shared → Prop} (free : A.handled = none) (isl : s.heap.IsList l its) (inz : IntsAre its.toList ns) (few : ns.length + 1 < scanBound) (then_ : ∀ z, Filled w s ns z → Q (.ref s.heap.objs.size) z) :
    wpAny (model P w) A (call (.type "set") [.ref l]) Q E s := by
  have len : its.size = ns.length := by have q := inz.length; rwa [Array.length_toList] at q
  have ⟨c0, tl0, mro0⟩ := F.called_set.mro
  have made0 := F.called_set.made; have sub0 := F.called_set.sub; have nt0 := F.called_set.notType; have cc0 := F.called_set.canCreate; have tc0 := F.typeCall_set_1 (.ref l)
  refine wpAny_call (codeAny_of_tree (show wpAny _ _ (callAny (.type "set") _) _ _ _ from wpAny_pure ⟨Code.quiet_builtin _ (by decide +kernel), codeAny_builtin F.entry_type_call ?_⟩))
  rw [Around.under_plain (weight_type_call_type "set" [.ref l] []) rfl]
  repeat (any_goals (first | assumption | wp_step))
  refine codeAny_mono (code_set_led1 (w := w) (.ref l) (E := E) (Q₁ := fun v z => v = .ref s.heap.objs.size ∧ z = { s with heap := s.heap.push (bareSet w) }) ⟨rfl, rfl⟩) fun r z rz => ?_
  match r, rz with
  | .error e, rz => exact rz
  | .ok (.ret v), ⟨e1, e2⟩ =>
    subst e1 e2
    have at0 : (s.heap.push (bareSet w)).get? s.heap.objs.size = some (bareSet w) := Heap.get?_push_size _ rfl
    have ty0 : Shared.TypeIs { s with heap := s.heap.push (bareSet w) } (.ref s.heap.objs.size) "set" := ⟨_, at0, rfl⟩
    have il0 := F.called_set.init.lookup; have ib0 := F.called_set.init.bind (.ref s.heap.objs.size)
    repeat (any_goals (first | assumption | wp_step))
    refine codeAny_mono (codeAny_call_builtin (R := wants (fun v z => v = .none ∧ Filled w s ns z) E) F.called_set.init.plain F.entry_set_init (check_set_init_1 ty0 ?_)) fun r2 z2 rz2 => ?_
    · obtain ⟨⟨kc, kd, ka, ks⟩, lo, kcl, m, kda⟩ := isl
      dsimp only at kcl kda
      subst kcl kda
      have lo1 : (s.heap.push (bareSet w)).get? l = some { cls := .type "list", dict := kd, data := .seq its m, slots := ks } := Heap.get?_push_of_some _ lo
      have isl1 : (s.heap.push (bareSet w)).IsList l its := ⟨_, lo1, rfl, m, rfl⟩
      have f1 := F.sub_list_set; have f2 := F.sub_list_frozenset
      have f3 : (Value.type "list" == Value.type "dict") = false := by decide
      unfold Builtin.«set.__init__» noKeywords Builtin.Frozenset.updateFrom
      generalize gi : pyIter = itr
      wp_walk
      subst gi
      refine wpAny_pyIter_list isl1 (wpAny_bind (wpAny_runValue ?_))
      have low : l < s.heap.objs.size := Heap.lt_size lo
      have sz1 : (s.heap.push (bareSet w)).objs.size = s.heap.objs.size + 1 := Heap.size_push ..
      have apart : l ≠ (s.heap.push (bareSet w)).objs.size := by rw [sz1]; exact Nat.ne_of_lt (Nat.lt_succ_of_lt low)
      have out : s.heap.objs.size ∉ [(s.heap.push (bareSet w)).objs.size, l] := by
        rw [sz1]; simp only [List.mem_cons, List.not_mem_nil, or_false, not_or]; exact ⟨Nat.ne_of_lt (Nat.lt_succ_self _), Nat.ne_of_gt low⟩
      have vals : ∀ (i : Nat) (v : Value), its[i]? = some v → ∃ k t, ns[i]? = some k ∧ v = .int k t := fun i v hv => by
        have hi : i < ns.length := by rw [← len]; exact (Array.getElem?_eq_some_iff.mp hv).1
        obtain ⟨t, e⟩ := inz.int_at i v (by rw [Array.getElem?_toList]; exact hv)
        exact ⟨ns[i], t, List.getElem?_eq_getElem hi, by rw [e, List.getD_eq_getElem?_getD, List.getElem?_eq_getElem hi]; rfl⟩
      refine set_update_ints ((Walks.list (by simp [free]) _ l apart its).toS) s.heap.objs.size out ns len few vals (its.size - 0) 0 _ (by omega) (Nat.zero_le _) ⟨⟨_, Heap.get?_push_size _ rfl, rfl, rfl⟩, isl1.push _⟩ ⟨0, Nat.le_refl 0, setR_new_at (Heap.get?_push_of_some _ at0)⟩ fun z c mv hc hz => ?_
      obtain ⟨h', g', d', t', o'⟩ := z
      obtain rfl : g' = s.gens := mv.gens
      obtain rfl : d' = s.drawn := mv.drawn
      obtain rfl : o' = s.os := mv.os
      rw [len] at hc
      refine wpAny_pure (show wpAny _ _ (ret Value.none) _ _ _ from wpAny_pure ⟨rfl, h', t', c, rfl, hz, hc, fun b o e => ?_⟩)
      have lb : b < s.heap.objs.size := Heap.lt_size e
      refine mv.heap b o ?_ (Heap.get?_push_of_some _ (Heap.get?_push_of_some _ e))
      rw [sz1]; simp only [List.mem_cons, List.not_mem_nil, or_false, not_or]; exact ⟨Nat.ne_of_lt lb, Nat.ne_of_lt (Nat.lt_succ_of_lt lb)⟩
    · match r2, rz2 with
      | .error e, rz2 => exact rz2
      | .ok (.ret v), ⟨e1, fz⟩ =>
        subst e1
        repeat (any_goals (first | assumption | wp_step))
        exact then_ _ fz
end
end PL

/-! ## sorted(xs), xs a list of tuples of whole numbers, all of one length -/
namespace SrtL
open PySem PySem.Spec PyProof.Rows
section
variable {prog : Program} {w : World} {A : Around} {E : Value → Shared → Prop} {s : Shared}
theorem lex_intsL {Q : Bool → Shared → Prop} {b : Bool} {xs ys : List Value} {ns ms : List Int} (i : Nat) (hx : IntsAre xs ns) (hy : IntsAre ys ms) (hl : ns.length = ms.length) (h : Q (HT.lexLt ns ms) s) : PySem.W.KatLex prog w A b false Q (xs.zip ys) i s := by
  induction hx generalizing ys ms i with
  | nil =>
    cases hy with
    | nil =>
      rw [HT.lexLt_nil_nil] at h
      exact PySem.W.kat_nil h
    | cons q u hy => simp at hl
  | @cons p t xs ns hx ih =>
    cases hy with
    | nil => simp at hl
    | @cons q u ys ms hy =>
      have hl' : ns.length = ms.length := by simpa using hl
      show PySem.W.KatLex prog w A b false Q ((Value.int p t, Value.int q u) :: xs.zip ys) i s
      refine PySem.W.kat_cons (wpAny_eqBool_int ?_)
      rw [HT.lexLt_cons] at h
      by_cases e : p = q
      · subst e
        rw [beq_self_eq_true]
        rw [if_pos rfl] at h
        refine PySem.W.kat_yes ?_
        first
          | exact ih (i + 1) hy hl' h
          | exact ih _ _ (i + 1) hy hl' h
      · rw [show (p == q) = false from beq_eq_false_iff_ne.mpr e]
        rw [if_neg e] at h
        exact PySem.W.kat_no (TS.oneLt_ints _ h)
theorem tup_cmp {vs : List Value} {k : Value → List Int} {d : Nat} (hp : ∀ v ∈ vs, TS.TupInts s.heap v (k v) ∧ (k v).length = d) : SrtO.Cmp prog w A s (tuples' true) (fun p => p.1 ∈ vs) (SrtO.lt2 fun v u => HT.lexLt (k v) (k u)) := by
  intro p q hm hm'
  obtain ⟨h1, l1⟩ := hp _ hm
  obtain ⟨h2, l2⟩ := hp _ hm'
  show wpAny (model prog w) A (keyLt' (tuples' true) p.1 q.1) (fun r s' => s' = s ∧ r = HT.lexLt (k p.1) (k q.1)) (fun _ _ => False) s
  generalize k p.1 = ns at *
  generalize k q.1 = ms at *
  obtain ⟨a, xs, e1, ⟨o, ho, hc, n, hdt⟩, i⟩ := h1
  obtain ⟨a', ys, e2, ⟨o', ho', hc', n', hdt'⟩, i'⟩ := h2
  rw [e1, e2]
  refine PySem.W.kat_lt ho hdt ho' hdt' ?_
  have sz : decide (xs.size < ys.size) = false := by
    have l1 := i.length
    have l2 := i'.length
    rw [Array.length_toList] at l1 l2
    exact decide_eq_false (by omega)
  rw [sz]
  exact lex_intsL 0 i i' (by omega) ⟨rfl, rfl⟩
theorem firsts_of {h : Heap} {d : Nat} (hd : 1 ≤ d) : ∀ vs : List Value, (∀ v ∈ vs, ∃ ns, TS.TupInts h v ns ∧ ns.length = d) → ∃ fs, PySem.W.KatTups h vs fs ∧ fs.length = vs.length ∧ ∀ f, f ∈ fs → ∃ n t, f = Value.int n t
  | [], _ => ⟨[], PySem.W.KatTups.nil, rfl, fun f hf => by simp at hf⟩
  | v :: vs, x => by
    obtain ⟨fs, k, hl, hi⟩ := firsts_of hd vs fun u hu => x u (List.mem_cons_of_mem _ hu)
    obtain ⟨ns, ⟨a, xs, rfl, ⟨o, ho, hc, n, hdt⟩, i⟩, hn⟩ := x v (List.mem_cons_self ..)
    obtain ⟨y, ys, e⟩ : ∃ y ys, xs.toList = y :: ys := by
      cases q : xs.toList with
      | nil =>
        rw [q] at i
        have l := i.length
        rw [List.length_nil, hn] at l
        omega
      | cons y ys => exact ⟨y, ys, rfl⟩
    obtain ⟨m, t, hy⟩ := i.all y (by rw [e]; exact List.mem_cons_self ..)
    refine ⟨y :: fs, PySem.W.KatTups.cons ho hc hdt ?_ k, by simp [hl], ?_⟩
    · have z := congrArg (fun l : List Value => l[0]?) e
      simpa using z
    · intro f hf
      rcases List.mem_cons.mp hf with rfl | hf
      · exact ⟨m, t, hy⟩
      · exact hi f hf
theorem tups_sortable {a : Addr} {vs : List Value} {k : Value → List Int} {d : Nat} (hd : 1 ≤ d) (h0 : 0 < vs.length) (hp : ∀ v ∈ vs, TS.TupInts s.heap v (k v) ∧ (k v).length = d) (ha : ∀ o, s.heap.get? a = some o → o.cls ≠ .type "tuple") : SrtO.SortableO prog w A s a vs fun v u => HT.lexLt (k v) (k u) := by
  intro h' keep
  have hp' : ∀ v ∈ vs, TS.TupInts h' v (k v) ∧ (k v).length = d := fun v hm => ⟨(hp v hm).1.keeps fun b o e c => keep b o (fun z => by subst z; exact ha o e c) e, (hp v hm).2⟩
  obtain ⟨fs, h1, h2, h3⟩ := firsts_of (h := h') hd vs fun v hm => ⟨_, hp' v hm⟩
  refine ⟨tuples' true, fun Q E hq => ?_, tup_cmp (s := { s with heap := h' }) hp'⟩
  refine PySem.W.kat_kind (T := .type "int") h1 (by omega) (fun f hm => ?_) (by rfl) ?_
  · obtain ⟨x, t, rfl⟩ := h3 f hm
    exact PySem.W.Looks.now
  · have e : (Value.type "int" != Value.type "tuple") = true := by first | decide +kernel | rfl | decide
    rw [e]
    exact hq
theorem sorted_tups {l : Addr} {vs : List Value} {k : Value → List Int} {d : Nat} {Q : Value → Shared → Prop} (hd : 1 ≤ d) (hl : s.heap.IsList l vs.toArray) (hz : vs.length ≤ sizeLine) (hp : ∀ v ∈ vs, TS.TupInts s.heap v (k v) ∧ (k v).length = d)
    (h : ∀ (h' : Heap) (d : Addr) (out : List Value), SrtO.Srtd (fun v u => HT.lexLt (k v) (k u)) out → SrtO.Stb (fun v u => HT.lexLt (k v) (k u)) out vs → (∀ b o, s.heap.get? b = some o → h'.get? b = some o) → s.heap.objs.size ≤ d → (∃ n, h'.get? d = some (seqObj "list" out.toArray n)) → Q (.ref d) { s with heap := h' }) :
    wpAny (model prog w) A (call (.builtin "sorted") [.ref l]) Q E s := by
  refine SrtO.sorted_ord (NtL.swo_lexL k) hl hz (fun h2 h₁ a ha kk => ?_) fun out hs hb => ?_
  · refine tups_sortable (s := { s with heap := h₁ }) hd (by omega) (fun v hm => ⟨(hp v hm).1.keeps fun b o e _ => (kk b o e).2, (hp v hm).2⟩) fun o e => ?_
    have e' : some o = some (seqObj "list" vs.toArray 0) := e.symm.trans ha
    cases e'
    intro c
    exact absurd (Value.type.inj c) (by decide)
  · exact h _ _ out hs hb (fun b o e => sortedAll_old e) (Nat.le_succ _) (sortedAll_at s.heap vs out.toArray)
end
end SrtL
namespace PL
open PySem PySem.Spec PyProof.Rows L2
abbrev ltL (k : V → List Int) (x y : V) : Bool := HT.lexLt (k x) (k y)
def rSortedL (K : PySem.W.Frag) : List V → Hp → VK → Prop := fun vs H Q => ∃ (a : Addr) (xs : List V) (k : V → List Int) (d : Nat), vs = [V.ref a] ∧ SqL K H a xs ∧ 1 ≤ d ∧ (∀ x ∈ xs, (k x).length = d ∧ ∃ t, x = V.ref t ∧ H t = some (.tup ((k x).map V.int))) ∧
  ∀ ys p, SrtO.Srtd (ltL k) ys → SrtO.Stb (ltL k) ys xs → H p = none → Q (.ref p) (upd H p (.lst ys))
theorem cr_sortedL {X : Cx} : CallR X (.builtin "sorted") (rSortedL X.K) := by
  intro pins s σ H vs us Q I r h
  obtain ⟨a, xs, k, d, rfl, hs, hd1, hx, q⟩ := h
  obtain ⟨its, rv, hl, hz⟩ := I.list hs
  obtain ⟨u, rfl, ru⟩ := vals1 r
  obtain rfl : u = Value.ref a := ru
  obtain ⟨e1, e2⟩ := refs_back rv fun x m => by
    obtain ⟨_, t, e, _⟩ := hx x m
    exact ⟨t, e⟩
  refine SrtL.sorted_tups (k := fun u => k (backV u)) hd1 hl.isList (by rw [← rv.length]; exact hz) (fun v hv => ?_) fun h' d out h1 h2 kp hd hn => ?_
  · obtain ⟨t, rfl⟩ := e2 v hv
    have hm : V.ref t ∈ xs := by rw [e1]; exact List.mem_map.mpr ⟨_, hv, rfl⟩
    obtain ⟨ld, t', e, ht⟩ := hx _ hm
    cases e
    exact ⟨tupI_raw I (SqT.of ht), ld⟩
  · have h3 : ∀ u ∈ out, ∃ a, u = Value.ref a := fun u hu => e2 u (h2.perm.mem_iff.mp hu)
    obtain ⟨n, hn⟩ := hn
    have hb : SrtO.Stb (ltL k) (out.map backV) xs := by
      rw [e1]
      exact SrtO.Stb.map (NtL.swo_lexL k) backV h2
    refine ⟨.ref d, upd H d (.lst (out.map backV)), I.laid (t' := s.toks) kp hd ⟨?_, out, n, vals_back h3, hn⟩, rfl, q _ d (SrtO.srtd_map h1) hb (I.hok.fresh hd)⟩
    rw [hb.len]
    exact hz
/-! plain -/
def tupI (ns : List Int) : D := .tup (ns.map D.int)
def insL (a : List Int) : List (List Int) → List (List Int)
  | [] => [a]
  | b :: r => if HT.lexLt b a = false then a :: b :: r else b :: insL a r
def sortL : List (List Int) → List (List Int)
  | [] => []
  | a :: r => insL a (sortL r)
theorem insL_perm (a : List Int) : ∀ l : List (List Int), (insL a l).Perm (a :: l)
  | [] => .refl _
  | b :: r => by
    unfold insL
    split
    · exact .refl _
    · exact ((insL_perm a r).cons b).trans (.swap a b r)
theorem sortL_perm : ∀ l : List (List Int), (sortL l).Perm l
  | [] => .refl _
  | a :: r => (insL_perm a (sortL r)).trans ((sortL_perm r).cons a)
theorem insL_pw (a : List Int) : ∀ {l : List (List Int)}, (l.Pairwise fun p q => HT.lexLt q p = false) → (insL a l).Pairwise fun p q => HT.lexLt q p = false
  | [], _ => .cons (fun _ h => by cases h) .nil
  | b :: r, h => by
    unfold insL
    split
    · rename_i hab
      refine .cons (fun q hq => ?_) h
      rcases List.mem_cons.mp hq with rfl | hq
      · exact hab
      · exact NtL.lex_tr _ _ _ hab (List.rel_of_pairwise_cons h hq)
    · rename_i hab
      refine .cons (fun q hq => ?_) (insL_pw a (List.Pairwise.of_cons h))
      rcases List.mem_cons.mp ((insL_perm a r).mem_iff.mp hq) with rfl | hq
      · exact NtL.lex_asym _ _ (by simpa using hab)
      · exact List.rel_of_pairwise_cons h hq
theorem sortL_pw : ∀ l : List (List Int), (sortL l).Pairwise fun p q => HT.lexLt q p = false
  | [] => .nil
  | a :: r => insL_pw a (sortL_pw r)
theorem lex_anti : ∀ a b : List Int, HT.lexLt a b = false → HT.lexLt b a = false → a = b
  | [], [], _, _ => rfl
  | [], y :: ys, h, _ => by rw [HT.lexLt_nil_cons] at h; cases h
  | x :: xs, [], _, h => by rw [HT.lexLt_nil_cons] at h; cases h
  | x :: xs, y :: ys, h1, h2 => by
    rw [HT.lexLt_cons] at h1 h2
    by_cases e : x = y
    · subst e
      rw [if_pos rfl] at h1 h2
      rw [lex_anti xs ys h1 h2]
    · rw [if_neg e] at h1
      rw [if_neg (Ne.symm e)] at h2
      have := of_decide_eq_false h1
      have := of_decide_eq_false h2
      omega
theorem sortL_is {l m : List (List Int)} (hp : m.Perm l) (hs : m.Pairwise fun p q => HT.lexLt q p = false) : m = sortL l :=
  List.Perm.eq_of_pairwise (fun a b _ _ h1 h2 => lex_anti a b h2 h1) hs (sortL_pw l) (hp.trans (sortL_perm l).symm)
def tupsD : List D → Option (List (List Int))
  | [] => some []
  | .tup l :: r => (intsD l).bind fun ns => (tupsD r).map (ns :: ·)
  | _ => none
theorem tupsD_map : ∀ l : List (List Int), tupsD (l.map tupI) = some l
  | [] => rfl
  | p :: l => by
    show (intsD (p.map D.int)).bind (fun ns => (tupsD (l.map tupI)).map (ns :: ·)) = _
    rw [intsD_map, tupsD_map l]; rfl
theorem intsD_is : ∀ {l : List D} {ns : List Int}, intsD l = some ns → l = ns.map D.int
  | [], ns, h => by cases h; rfl
  | d :: l, ns, h => by
    unfold intsD at h
    split at h
    · rename_i e; cases e
    · rename_i i r e
      cases e
      cases e1 : intsD l with
      | none => rw [e1] at h; cases h
      | some m => rw [e1] at h; cases h; rw [intsD_is e1]; rfl
    · cases h
theorem tupsD_is : ∀ {ds : List D} {ks : List (List Int)}, tupsD ds = some ks → ds = ks.map tupI
  | [], ps, h => by cases h; rfl
  | d :: ds, ps, h => by
    unfold tupsD at h
    split at h
    · rename_i e; cases e
    · rename_i l r e
      cases e
      cases e0 : intsD l with
      | none => rw [e0] at h; cases h
      | some ns =>
        rw [e0] at h
        cases e1 : tupsD ds with
        | none => rw [e1] at h; cases h
        | some m =>
          rw [e1] at h
          cases h
          rw [tupsD_is e1, intsD_is e0]; rfl
    · cases h
def lenOk (ks : List (List Int)) : Bool := ks.all fun k => decide (k.length = max 1 (ks.headD []).length)
def opSortedT : D → Option D
  | .lst l => (tupsD l).bind fun ks => if lenOk ks then some (.lst ((sortL ks).map tupI)) else none
  | _ => none
def pSortedT : Prim := { syn := callSyn "sorted", sem := one1 opSortedT }
open Classical in
noncomputable def keyL (H : Hp) (x : V) : List Int := if h : ∃ p : List Int, ∃ t, x = V.ref t ∧ H t = some (.tup (p.map V.int)) then h.choose else []
theorem vint_inj : ∀ {a b : List Int}, a.map V.int = b.map V.int → a = b
  | [], [], _ => rfl
  | [], _ :: _, h => by cases h
  | _ :: _, [], h => by cases h
  | x :: a, y :: b, h => by
    rw [List.map_cons, List.map_cons] at h
    injection h with h1 h2
    injection h1 with h1
    rw [h1, vint_inj h2]
theorem keyL_is {H : Hp} {x : V} {p : List Int} {t : Addr} (e : x = .ref t) (h : H t = some (.tup (p.map V.int))) : keyL H x = p := by
  have hx : ∃ p : List Int, ∃ t, x = V.ref t ∧ H t = some (.tup (p.map V.int)) := ⟨p, t, e, h⟩
  unfold keyL
  rw [dif_pos hx]
  obtain ⟨t', e', h'⟩ := hx.choose_spec
  rw [e] at e'
  cases e'
  rw [h] at h'
  injection h' with h'
  injection h' with h'
  exact (vint_inj h').symm
theorem rep_tupI {K : PySem.W.Frag} {M : Mk} {H : Hp} {x : V} {p : List Int} (r : Rep K M H x (tupI p)) : ∃ t, x = .ref t ∧ H t = some (.tup (p.map V.int)) ∧ ¬ M t := by
  cases r with
  | @tup a xs _ s n ra =>
    refine ⟨a, rfl, ?_, n⟩
    rw [RepAll.ints ra] at s
    exact s
theorem keysL_of {K : PySem.W.Frag} {M : Mk} {H : Hp} : ∀ {xs : List V} {ps : List (List Int)}, RepAll K M H xs (ps.map tupI) → xs.map (keyL H) = ps ∧ ∀ x ∈ xs, Rep K M H x (tupI (keyL H x)) ∧ ∃ t, x = V.ref t ∧ H t = some (.tup ((keyL H x).map V.int))
  | [], [], _ => ⟨rfl, fun _ h => by cases h⟩
  | x :: xs, p :: ps, .cons r rs => by
    obtain ⟨t, e, h, n⟩ := rep_tupI r
    obtain ⟨i1, i2⟩ := keysL_of rs
    have ke := keyL_is e h
    refine ⟨by rw [List.map_cons, i1, ke], fun y hy => ?_⟩
    rcases List.mem_cons.mp hy with rfl | hy
    · rw [ke]; exact ⟨r, t, e, h⟩
    · exact i2 y hy
theorem rep_keysL {K : PySem.W.Frag} {M : Mk} {H : Hp} : ∀ {ys : List V}, (∀ y ∈ ys, Rep K M H y (tupI (keyL H y))) → RepAll K M H ys ((ys.map (keyL H)).map tupI)
  | [], _ => .nil
  | y :: ys, h => .cons (h y List.mem_cons_self) (rep_keysL fun z hz => h z (List.mem_cons_of_mem _ hz))
theorem sortedTG : PrimG pSortedT := prim_blt (id := "sorted") (by decide) (by decide +kernel) (by decide) (by decide) fun X k W xo => by
  refine ⟨_, cr_sortedL, fun M H xs ds d Q dm rs e k => ?_⟩
  obtain ⟨a, vs, l, rfl, rfl, e, s, n, ra⟩ := one_lst rs e (fun a d h => by cases a <;> first | exact ⟨_, rfl⟩ | cases h)
  have e' : ((tupsD l).bind fun ks => if lenOk ks then some (D.lst ((sortL ks).map tupI)) else none) = some d := e
  cases e1 : tupsD l with
  | none => rw [e1] at e'; cases e'
  | some ps =>
    rw [e1] at e'
    have e4 : (if lenOk ps then some (D.lst ((sortL ps).map tupI)) else none) = some d := e'
    split at e4
    · rename_i hl
      cases e4
      have el := tupsD_is e1
      subst el
      obtain ⟨i1, i2⟩ := keysL_of ra
      refine ⟨a, vs, keyL H, max 1 (ps.headD []).length, rfl, SqL.of s, Nat.le_max_left _ _, fun x hx => ⟨?_, (i2 x hx).2⟩, fun ys p hs hst hn => ?_⟩
      · have hm : keyL H x ∈ ps := by rw [← i1]; exact List.mem_map.mpr ⟨x, hx, rfl⟩
        exact of_decide_eq_true (List.all_eq_true.mp hl _ hm)
      · have pm : ys.Perm vs := hst.perm
        have e2 : ys.map (keyL H) = sortL ps := by
          refine sortL_is (by rw [← i1]; exact pm.map _) ?_
          rw [List.pairwise_map]
          exact hs
        refine k _ _ (same_new hn) (.lst upd_same (dm.fresh hn) ?_)
        rw [← e2]
        exact (rep_keysL fun y hy => (i2 y (pm.mem_iff.mp hy)).1).same (same_new hn)
    · cases e4
end PL

namespace PL
open PySem PySem.Spec PyProof.Rows L2
/-! ## set(xs), xs a tuple of tuples of whole numbers -/
section
variable {P : Program} {w : World} {A : Around} {E : Value → Shared → Prop} {s : Shared}
def FilledT (P : Program) (w : World) (s : Shared) (ks : List (Addr × List Int)) (z : Shared) : Prop := ∃ h' tk L es ep t, z = { s with heap := h', toks := tk } ∧ SetTR P w h' s.heap.objs.size L es ep t ∧ Got ks ks.length L ∧ ∀ b o, s.heap.get? b = some o → h'.get? b = some o
theorem set_tups {l : Addr} {its : Array Value} (ks : List (Addr × List Int)) {Q : Value → Shared → Prop} (free : A.handled = none) (isl : s.heap.IsTuple l its) (refs : its.toList = ks.map fun p => Value.ref p.1) (tups : ∀ p ∈ ks, IsT P w s.heap p.2 p.1) (few : ks.length < 64) (hu : A.units + 3 < cLine) (then_ : ∀ z, FilledT P w s ks z → Q (.ref s.heap.objs.size) z) :
    wpAny (model P w) A (call (.type "set") [.ref l]) Q E s := by
  have len : its.size = ks.length := by have q := congrArg List.length refs; rwa [Array.length_toList, List.length_map] at q
  have ⟨c0, tl0, mro0⟩ := F.called_set.mro
  have made0 := F.called_set.made; have sub0 := F.called_set.sub; have nt0 := F.called_set.notType; have cc0 := F.called_set.canCreate; have tc0 := F.typeCall_set_1 (.ref l)
  refine wpAny_call (codeAny_of_tree (show wpAny _ _ (callAny (.type "set") _) _ _ _ from wpAny_pure ⟨Code.quiet_builtin _ (by decide +kernel), codeAny_builtin F.entry_type_call ?_⟩))
  rw [Around.under_plain (weight_type_call_type "set" [.ref l] []) rfl]
  repeat (any_goals (first | assumption | wp_step))
  refine codeAny_mono (code_set_led1 (w := w) (.ref l) (E := E) (Q₁ := fun v z => v = .ref s.heap.objs.size ∧ z = { s with heap := s.heap.push (bareSet w) }) ⟨rfl, rfl⟩) fun r z rz => ?_
  match r, rz with
  | .error e, rz => exact rz
  | .ok (.ret v), ⟨e1, e2⟩ =>
    subst e1 e2
    have at0 : (s.heap.push (bareSet w)).get? s.heap.objs.size = some (bareSet w) := Heap.get?_push_size _ rfl
    have ty0 : Shared.TypeIs { s with heap := s.heap.push (bareSet w) } (.ref s.heap.objs.size) "set" := ⟨_, at0, rfl⟩
    have il0 := F.called_set.init.lookup; have ib0 := F.called_set.init.bind (.ref s.heap.objs.size)
    repeat (any_goals (first | assumption | wp_step))
    refine codeAny_mono (codeAny_call_builtin (R := wants (fun v z => v = .none ∧ FilledT P w s ks z) E) F.called_set.init.plain F.entry_set_init (check_set_init_1 ty0 ?_)) fun r2 z2 rz2 => ?_
    · obtain ⟨⟨kc, kd, ka, ksl⟩, lo, kcl, m, kda⟩ := isl
      dsimp only at kcl kda
      subst kcl kda
      have lo1 : (s.heap.push (bareSet w)).get? l = some { cls := .type "tuple", dict := kd, data := .seq its m, slots := ksl } := Heap.get?_push_of_some _ lo
      have isl1 : (s.heap.push (bareSet w)).IsTuple l its := ⟨_, lo1, rfl, m, rfl⟩
      have f1 := F.sub_tuple_set; have f2 := F.sub_tuple_frozenset
      have f3 : (Value.type "tuple" == Value.type "dict") = false := by decide
      unfold Builtin.«set.__init__» noKeywords Builtin.Frozenset.updateFrom
      generalize gi : pyIter = itr
      wp_walk
      subst gi
      refine wpAny_pyIter_tuple isl1 (wpAny_bind (wpAny_runValue ?_))
      have low : l < s.heap.objs.size := Heap.lt_size lo
      have sz1 : (s.heap.push (bareSet w)).objs.size = s.heap.objs.size + 1 := Heap.size_push ..
      have apart : l ≠ (s.heap.push (bareSet w)).objs.size := by rw [sz1]; exact Nat.ne_of_lt (Nat.lt_succ_of_lt low)
      have out : s.heap.objs.size ∉ [(s.heap.push (bareSet w)).objs.size, l] := by
        rw [sz1]; simp only [List.mem_cons, List.not_mem_nil, or_false, not_or]; exact ⟨Nat.ne_of_lt (Nat.lt_succ_self _), Nat.ne_of_gt low⟩
      have vals : ∀ (i : Nat) (v : Value), its[i]? = some v → ∃ p, ks[i]? = some p ∧ v = .ref p.1 := fun i v hv => by
        have hv' : its.toList[i]? = some v := by rw [Array.getElem?_toList]; exact hv
        rw [refs, List.getElem?_map] at hv'
        cases hk : ks[i]? with
        | none => rw [hk] at hv'; cases hv'
        | some p => rw [hk] at hv'; exact ⟨p, rfl, (Option.some.inj hv').symm⟩
      refine set_update_tups ((Walks.tuple (by simp [free]) _ l apart its).toS) s.heap.objs.size out ks len few vals s.heap tups (Heap.get?_none_of_le (Nat.le_refl _)) (fun b hb => ?_) (by show A.units + 1 + 1 + 1 < cLine; omega) (its.size - 0) 0 _ (by omega) (Nat.zero_le _) ⟨⟨_, Heap.get?_push_size _ rfl, rfl, rfl⟩, isl1.push _⟩ (fun b o e => Heap.get?_push_of_some _ (Heap.get?_push_of_some _ e)) ⟨[], #[], 0, _, setTR_fresh (Heap.get?_push_of_some _ at0), Got.zero ks⟩ fun z L es ep t mv hz g keep => ?_
      · rw [List.mem_singleton.mp hb, sz1]
        exact Heap.get?_none_of_le (Nat.le_succ _)
      obtain ⟨h', g', d', t', o'⟩ := z
      obtain rfl : g' = s.gens := mv.gens
      obtain rfl : d' = s.drawn := mv.drawn
      obtain rfl : o' = s.os := mv.os
      rw [len] at g
      exact wpAny_pure (show wpAny _ _ (ret Value.none) _ _ _ from wpAny_pure ⟨rfl, h', t', L, es, ep, t, rfl, hz, g, keep⟩)
    · match r2, rz2 with
      | .error e, rz2 => exact rz2
      | .ok (.ret v), ⟨e1, fz⟩ =>
        subst e1
        repeat (any_goals (first | assumption | wp_step))
        exact then_ _ fz
end
end PL

namespace PL
open PySem PySem.Spec PyProof.Rows L2
/-! ## sorted(set(xs)), xs a tuple of tuples of as many whole numbers each -/
section
variable {P : Program} {w : World} {A : Around} {E : Value → Shared → Prop} {s : Shared}
theorem sorted_setL {a : Addr} {L : List (Addr × List Int)} {es : Array (Int × Value)} {ep : Nat} {t : SetTable} {d : Nat} {Q : Value → Shared → Prop} (R : SetTR P w s.heap a L es ep t) (hh : A.handled = none) (hd : 1 ≤ d) (hB : ∀ p ∈ L, p.2.length = d)
    (hQ : ∀ s' p (out : Array Value) (c : Nat) (L' : List (Addr × List Int)), (∀ b o, s.heap.get? b = some o → s'.heap.get? b = some o) → s'.gens = s.gens → s'.os = s.os → s.heap.objs.size ≤ p →
      s'.heap.get? p = some (seqObj "list" out c) → out.toList = L'.map (fun q => Value.ref q.1) → L'.Perm L → L'.Pairwise (fun q r => HT.lexLt r.2 q.2 = false) → Q (.ref p) s') :
    wpAny (model P w) A (call (.builtin "sorted") [.ref a]) Q E s := by
  obtain ⟨o, ho, hex, hdt⟩ := R.ob
  have hsz := R.size
  have hfew := R.few
  refine Calls.call_function_entry kind_sorted plain_sorted entry_sorted (args_sorted1 _) ?_
  unfold Builtin.«sorted»
  refine wpAny_bind (m := checkCount "sorted" 1 1 _) (wpAny_pure ?_)
  refine wpAny_bind (collect_set (A := A.in1) hh ⟨o, ho, hex.1, hdt⟩ R.fits (by unfold scanBound; omega) R.tab.ris R.led fun s1 vs k1 hz g1 o1 pm => ?_)
  have hes : es.toList.map (·.2) = L.map fun q => Value.ref q.1 := by
    rw [R.rows]; unfold rowsOf; rw [List.map_map]; rfl
  rw [hes] at pm
  have one : ∀ q ∈ L, ∀ r ∈ L, q.1 = r.1 → q = r := fun q hq r hr e => by
    have a1 := R.tup q hq
    have a2 := R.tup r hr
    rw [e] at a1
    exact Prod.ext e (a1.inj a2)
  have ord : ∀ vs : List Value, (∀ v ∈ vs, ∃ q ∈ L, v = Value.ref q.1) → ∃ L1 : List (Addr × List Int), vs = L1.map (fun q => Value.ref q.1) ∧ ∀ q ∈ L1, q ∈ L := by
    intro vs
    induction vs with
    | nil => intro _; exact ⟨[], rfl, fun q hq => (by cases hq)⟩
    | cons v vs ih =>
      intro hv
      obtain ⟨q, hq, e⟩ := hv v List.mem_cons_self
      obtain ⟨L1, e1, hs⟩ := ih fun u hu => hv u (List.mem_cons_of_mem _ hu)
      exact ⟨q :: L1, by rw [List.map_cons, e, e1], fun r hr => (List.mem_cons.mp hr).elim (fun z => by rw [z]; exact hq) (hs r)⟩
  have perm_of : ∀ L1 : List (Addr × List Int), (∀ q ∈ L1, q ∈ L) → (L1.map (fun q => Value.ref q.1)).Perm (L.map fun q => Value.ref q.1) → L1.Perm L := by
    intro L1 hs pm1
    have nL : L.Nodup := nodup_of_map R.nd
    have nref : (L.map fun q => Value.ref q.1).Nodup := List.pairwise_map.mpr (List.Pairwise.imp_of_mem (fun {q r} hq hr hne e => by
      injection e with e
      exact hne (one q hq r hr e)) nL)
    refine (List.perm_ext_iff_of_nodup (nodup_of_map (pm1.nodup_iff.mpr nref)) nL).mpr fun q => ⟨hs q, fun hq => ?_⟩
    obtain ⟨r, hr, e⟩ := List.mem_map.mp (pm1.mem_iff.mpr (List.mem_map.mpr ⟨q, hq, rfl⟩))
    injection e with e
    rw [← one r (hs r hr) q hq e]; exact hr
  have hvl : vs.length < 64 := by rw [pm.length_eq, List.length_map]; exact hfew
  have hvz : vs.length ≤ sizeLine := by rw [sizeLine_eq]; omega
  refine wpAny_bind (wpAny_newList ?_ hvz)
  let h1 := s1.heap.push (seqObj "list" vs.toArray 0)
  have hoL : h1.get? s1.heap.objs.size = some (seqObj "list" vs.toArray 0) := Heap.get?_push_size _ rfl
  have tk : ∀ q ∈ L, TS.TupInts h1 (.ref q.1) q.2 := fun q hq => tupInts_of (P := P) (w := w) (isT_keep (R.tup q hq) fun b u e => Heap.get?_push_of_some _ (k1 b u e))
  have hp : ∀ v ∈ vs, TS.TupInts h1 v (TS.intsOf h1 v) ∧ (TS.intsOf h1 v).length = d := fun v hv => by
    obtain ⟨q, hq, rfl⟩ := List.mem_map.mp (pm.mem_iff.mp hv)
    rw [(tk q hq).ints]
    exact ⟨tk q hq, hB q hq⟩
  refine wpAny_bind (wpAny_holding (wpAny_call_entry slot_list_sort ⟨_, hoL, rfl⟩ entry_list_sort (SrtO.list_sort_ord (s := { s1 with heap := h1 }) (NtL.swo_lexL fun v => TS.intsOf h1 v) hoL hvz (fun g2 => SrtL.tups_sortable (s := { s1 with heap := h1 }) (k := fun v => TS.intsOf h1 v) hd (by omega) hp fun o e c => ?_) fun out hs hb => ⟨_, rfl, ?_⟩) (args_list_sort _)))
  · have e' : some o = some (seqObj "list" vs.toArray 0) := e.symm.trans hoL
    cases e'
    exact absurd (Value.type.inj c) (by decide)
  obtain ⟨c, hc⟩ := sortedHeap_at (vs := vs) (out := out.toArray) hoL
  obtain ⟨L', e', hs'⟩ := ord out fun v hv => by
    obtain ⟨q, hq, e⟩ := List.mem_map.mp (pm.mem_iff.mp (hb.perm.mem_iff.mp hv))
    exact ⟨q, hq, e.symm⟩
  have pL : L'.Perm L := perm_of L' hs' (by rw [← e']; exact hb.perm.trans pm)
  have pw : L'.Pairwise (fun q r => HT.lexLt r.2 q.2 = false) := by
    rw [e'] at hs
    refine List.Pairwise.imp_of_mem (fun {q r} hq hr hle => ?_) (List.pairwise_map.mp hs)
    have hle : HT.lexLt (TS.intsOf h1 (.ref r.1)) (TS.intsOf h1 (.ref q.1)) = false := hle
    rw [(tk q (hs' q hq)).ints, (tk r (hs' r hr)).ints] at hle
    exact hle
  refine wpAny_pure ⟨_, rfl, hQ _ s1.heap.objs.size out.toArray c L' (fun b u e => ?_) g1 o1 hz hc (by simpa using e') pL pw⟩
  have q := k1 b u e
  have hlt := Heap.lt_size q
  show (sortedHeap h1 s1.heap.objs.size vs out.toArray).get? b = some u
  rw [sortedHeap_old (Nat.ne_of_lt hlt) (by show b < (s1.heap.push _).objs.size; rw [size_push']; exact Nat.lt_succ_of_lt hlt)]
  exact Heap.get?_push_of_some _ q
end
def rSetTup (X : Cx) : List V → Hp → VK → Prop := fun xs H Q => ∃ (l : Addr) (ks : List (Addr × List Int)), xs = [V.ref l] ∧ SqT X.K H l (ks.map fun p => V.ref p.1) ∧ (∀ p ∈ ks, SqT X.K H p.1 (p.2.map V.int)) ∧ ks.length < 64 ∧
  ∀ (a : Addr) (L : List (Addr × List Int)), H a = none → (∀ p ∈ L, p ∈ ks) → (∀ p ∈ ks, p.2 ∈ L.map (·.2)) → Q (.ref a) (upd H a (SetTO X.prog X.w a L))
theorem cr_setTup {X : Cx} (hc : X.calm = true) (hu : X.A.units + 64 < cLine) : CallR X (.type "set") (rSetTup X) := by
  intro pins s σ H xs us Q I r h
  obtain ⟨l, ks, rfl, hl, hk, hf, q⟩ := h
  rw [Vals.ref1 r]
  obtain ⟨its, rv, pl, hz⟩ := I.tuple hl
  have hn : H s.heap.objs.size = none := I.hok.fresh (Nat.le_refl _)
  refine set_tups (P := X.prog) (w := X.w) ks (I.ok.hd hc) pl (by simpa using refs_of_vals rv) (fun p hp => I.isT (hk p hp)) hf (by omega) fun z fz => ?_
  obtain ⟨h', tk, L, es, ep, t, rfl, R, g, k⟩ := fz
  refine ⟨.ref s.heap.objs.size, upd H s.heap.objs.size (SetTO X.prog X.w s.heap.objs.size L), I.laid (t' := tk) k (Nat.le_refl _) (setTO_new R.t0), rfl, q _ L hn (fun p hp => ?_) fun p hp => ?_⟩
  · exact List.mem_of_mem_take (g.sub p hp)
  · exact g.all p (by rw [List.take_length]; exact hp)
def rSortedLs (X : Cx) : List V → Hp → VK → Prop := fun vs H Q => ∃ (a : Addr) (L : List (Addr × List Int)) (d : Nat), vs = [V.ref a] ∧ H a = some (SetTO X.prog X.w a L) ∧ (∀ p ∈ L, SqT X.K H p.1 (p.2.map V.int)) ∧ 1 ≤ d ∧ (∀ p ∈ L, p.2.length = d) ∧
  ∀ (L' : List (Addr × List Int)) (p : Addr), L'.Perm L → (L'.map (·.2)).Nodup → L'.length < 64 → L'.Pairwise (fun q r => HT.lexLt r.2 q.2 = false) → H p = none → Q (.ref p) (upd H p (.lst (L'.map fun q => V.ref q.1)))
theorem cr_sortedLs {X : Cx} (hc : X.calm = true) : CallR X (.builtin "sorted") (rSortedLs X) := by
  intro pins s σ H vs us Q I r h
  obtain ⟨a, L, d, rfl, ha, hk, hd, hB, q⟩ := h
  have R0 : SetT0 X.prog X.w s.heap a L := (I.hok a _ ha).1
  obtain ⟨es, ep, t, R⟩ := R0.full fun p hp => I.isT (hk p hp)
  rw [Vals.ref1 r]
  refine sorted_setL R (I.ok.hd hc) hd hB fun s' p out c L' k g o hp hg hout pm pw => ?_
  have hfew : L'.length < 64 := by rw [pm.length_eq]; exact R.few
  have hlen : (L'.map fun q => V.ref q.1).length ≤ sizeLine := by rw [List.length_map, sizeLine_eq]; omega
  have hn : H p = none := I.hok.fresh hp
  have J : Inv X pins σ (upd H p (.lst (L'.map fun q => V.ref q.1))) { s with heap := s'.heap, gens := s'.gens, drawn := s'.drawn, toks := s'.toks } :=
    I.call (ch := []) (Un.laid k hp hn) (I.hok.laid k hp ⟨hlen, out.toList, c, by rw [hout]; exact vals_of_refs L', hg⟩) (by rw [g]; exact I.bare) (fun _ z => nomatch z)
  have e : s' = { s with heap := s'.heap, gens := s'.gens, drawn := s'.drawn, toks := s'.toks } := by
    cases s'; cases s; cases o; rfl
  rw [e]
  exact ⟨.ref p, _, J, rfl, q L' p pm ((pm.map (·.2)).nodup_iff.mpr R.nd) hfew pw hn⟩
/-! ### plain: by the order of tuples, none twice -/
def insU (a : List Int) : List (List Int) → List (List Int)
  | [] => [a]
  | b :: r => if HT.lexLt a b then a :: b :: r else if a = b then b :: r else b :: insU a r
def ssL : List (List Int) → List (List Int)
  | [] => []
  | a :: r => insU a (ssL r)
theorem lex_tri (a b : List Int) : HT.lexLt a b = true ∨ a = b ∨ HT.lexLt b a = true := by
  cases e1 : HT.lexLt a b with
  | true => exact .inl rfl
  | false =>
    cases e2 : HT.lexLt b a with
    | true => exact .inr (.inr rfl)
    | false => exact .inr (.inl (lex_anti a b e1 e2))
theorem lex_lt_tr {a b c : List Int} (h : HT.lexLt a b = true) (k : HT.lexLt b c = true) : HT.lexLt a c = true := by
  rcases lex_tri a c with z | z | z
  · exact z
  · subst z
    have := NtL.lex_asym _ _ h
    rw [k] at this; cases this
  · have h1 := NtL.lex_asym _ _ h
    have h2 := NtL.lex_asym _ _ k
    have h3 := NtL.lex_tr _ _ _ h1 h2
    rw [z] at h3; cases h3
theorem insU_mem (a x : List Int) : ∀ l : List (List Int), x ∈ insU a l ↔ x = a ∨ x ∈ l
  | [] => by simp [insU]
  | b :: r => by
    unfold insU
    split
    · simp
    · split
      · rename_i e; subst e; simp
      · rw [List.mem_cons, insU_mem a x r, List.mem_cons]
        constructor
        · rintro (h | h | h)
          · exact .inr (.inl h)
          · exact .inl h
          · exact .inr (.inr h)
        · rintro (h | h | h)
          · exact .inr (.inl h)
          · exact .inl h
          · exact .inr (.inr h)
theorem insU_pw (a : List Int) : ∀ {l : List (List Int)}, (l.Pairwise fun p q => HT.lexLt p q = true) → (insU a l).Pairwise fun p q => HT.lexLt p q = true
  | [], _ => .cons (fun _ h => by cases h) .nil
  | b :: r, h => by
    unfold insU
    split
    · rename_i hab
      refine .cons (fun q hq => ?_) h
      rcases List.mem_cons.mp hq with rfl | hq
      · exact hab
      · exact lex_lt_tr hab (List.rel_of_pairwise_cons h hq)
    · split
      · exact h
      · rename_i h1 h2
        refine .cons (fun q hq => ?_) (insU_pw a h.of_cons)
        rcases (insU_mem a q r).mp hq with rfl | hq
        · rcases lex_tri q b with z | z | z
          · exact absurd z h1
          · exact absurd z h2
          · exact z
        · exact List.rel_of_pairwise_cons h hq
theorem ssL_mem (x : List Int) : ∀ l : List (List Int), x ∈ ssL l ↔ x ∈ l
  | [] => Iff.rfl
  | a :: r => by
    show x ∈ insU a (ssL r) ↔ _
    rw [insU_mem, ssL_mem x r, List.mem_cons]
theorem ssL_pw : ∀ l : List (List Int), (ssL l).Pairwise fun p q => HT.lexLt p q = true
  | [] => .nil
  | a :: r => insU_pw a (ssL_pw r)
theorem lex_ne {a b : List Int} (h : HT.lexLt a b = true) : a ≠ b := fun e => by
  subst e
  have := NtL.lex_asym _ _ h
  rw [h] at this; cases this
theorem ssL_is {l m : List (List Int)} (hm : m.Pairwise fun p q => HT.lexLt p q = true) (h : ∀ x, x ∈ m ↔ x ∈ l) : m = ssL l := by
  have nd : ∀ {l : List (List Int)}, (l.Pairwise fun p q => HT.lexLt p q = true) → l.Nodup := fun h => List.Pairwise.imp (fun {a b} k => lex_ne k) h
  exact List.Perm.eq_of_pairwise (fun a b _ _ h1 h2 => absurd rfl (lex_ne (lex_lt_tr h1 h2))) hm (ssL_pw l) ((List.perm_ext_iff_of_nodup (nd hm) (nd (ssL_pw l))).mpr fun x => by rw [h, ssL_mem])
/-! ### the prim -/
def opSortedSetT : D → Option D
  | .tup l => (tupsD l).bind fun ks => if ks.length < 64 ∧ lenOk ks = true then some (.lst ((ssL ks).map tupI)) else none
  | _ => none
def pSortedSetT : Prim := { syn := sortedSetSyn, sem := one1 opSortedSetT }
theorem refs_ofL {K : PySem.W.Frag} {M : Mk} {H : Hp} : ∀ {xs : List V} {ps : List (List Int)}, RepAll K M H xs (ps.map tupI) → ∃ ks : List (Addr × List Int), xs = ks.map (fun p => V.ref p.1) ∧ ks.map (fun p => p.2) = ps ∧ ∀ k ∈ ks, SqT K H k.1 (k.2.map V.int) ∧ Rep K M H (.ref k.1) (tupI k.2)
  | [], [], _ => ⟨[], rfl, rfl, fun _ h => by cases h⟩
  | x :: xs, p :: ps, .cons r rs => by
    obtain ⟨t, e, h, n⟩ := rep_tupI r
    obtain ⟨ks, e1, e2, h3⟩ := refs_ofL rs
    subst e
    refine ⟨(t, p) :: ks, by rw [List.map_cons, e1], by rw [List.map_cons, e2], fun k hk => ?_⟩
    rcases List.mem_cons.mp hk with rfl | hk
    · exact ⟨SqT.of h, r⟩
    · exact h3 k hk
theorem sortedSetTG : PrimG pSortedSetT := by
  intro X k W xo
  have main : ∀ {e : Expr} {es : List Expr} {ms : List (En → Res D)}, sortedSetSyn X.env.scope e = some es → PEs X W es ms → ∃ a b pos, e = .Call a b [] pos ∧ PE X e (tS X W fun ρ => (seqM ms ρ).bind fun ds => ofO (one1 opSortedSetT ds)) := by
    intro e es ms h hp
    unfold sortedSetSyn at h
    split at h
    · rename_i x p y p2 a q pos
      split at h
      · rename_i hg
        cases h
        rw [Bool.and_eq_true, Bool.and_eq_true, Bool.and_eq_true, decide_eq_true_eq, decide_eq_true_eq] at hg
        obtain ⟨⟨rfl, g1⟩, rfl, g2⟩ := hg
        obtain ⟨ma, rfl, h1, n1⟩ := one_pes hp
        refine ⟨_, _, pos, rfl, pe_weak (pe_callB (cr_sortedLs xo.calm) (gl_of g1) (xo.bf _ (by decide)) (by decide +kernel) (pa_cons (pe_callTy (cr_setTup xo.calm xo.room.units) (gl_of g2) (xo.bf _ (by decide)) (by decide +kernel) (pa_cons h1 pa_nil (star_of n1 [] X.env)) (by decide) (by decide) (star_of n1 [] X.env) rfl) pa_nil rfl) (by decide) (by decide) rfl rfl) fun σ H Q q => ?_⟩
        refine w_1 (r := fun x H Q => rSetTup X [x] H fun y H1 => rSortedLs X [y] H1 Q) (fun M H x d1 d dm r1 e k => ?_) q
        have e' : opSortedSetT d1 = some d := e
        cases d1 with
        | tup l =>
          cases r1 with
          | @tup b vs _ s n ra =>
            have e2 : ((tupsD l).bind fun ks => if ks.length < 64 ∧ lenOk ks = true then some (D.lst ((ssL ks).map tupI)) else none) = some d := e'
            cases e3 : tupsD l with
            | none => rw [e3] at e2; cases e2
            | some ps =>
              rw [e3] at e2
              have e4 : (if ps.length < 64 ∧ lenOk ps = true then some (D.lst ((ssL ps).map tupI)) else none) = some d := e2
              split at e4
              · rename_i hl
                cases e4
                have el := tupsD_is e3
                subst el
                obtain ⟨ks, k1, k2', k3⟩ := refs_ofL ra
                subst k1
                have kl : ks.length = ps.length := by rw [← k2', List.length_map]
                have ld : ∀ p ∈ ks, p.2.length = max 1 (ps.headD []).length := fun p hp => of_decide_eq_true (List.all_eq_true.mp hl.2 _ (by rw [← k2']; exact List.mem_map.mpr ⟨p, hp, rfl⟩))
                refine ⟨b, ks, rfl, SqT.of s, fun p hp => (k3 p hp).1, by omega, fun a L ha hL hA => ?_⟩
                have same1 : Same X.K H (upd H a (SetTO X.prog X.w a L)) := same_new ha
                refine ⟨a, L, max 1 (ps.headD []).length, rfl, upd_same, fun p hp => ?_, Nat.le_max_left _ _, fun p hp => ld p (hL p hp), fun L' p pm nd hlt pw hn => ?_⟩
                · rcases (k3 p (hL p hp)).1 with (z | ⟨o, z⟩) | z
                  · exact .inl (.inl (same1.get _ _ z))
                  · exact .inl (.inr ⟨o, same1.get _ _ z⟩)
                  · exact .inr z
                · have same2 := same_new (K := X.K) (o := .lst (L'.map fun q => V.ref q.1)) hn
                  have np : Fr H p := same1.free (Fr.of hn)
                  have eq : ssL ps = L'.map fun q => q.2 := by
                    refine (ssL_is ?_ fun x => ?_).symm
                    · rw [List.pairwise_map]
                      have nd' : L'.Pairwise fun q r => q.2 ≠ r.2 := List.pairwise_map.mp nd
                      refine List.Pairwise.imp (fun {q r} hh => ?_) (pw.and nd')
                      rcases lex_tri q.2 r.2 with z | z | z
                      · exact z
                      · exact absurd z hh.2
                      · have h1 : HT.lexLt r.2 q.2 = false := hh.1
                        rw [z] at h1; cases h1
                    · constructor
                      · intro hx
                        obtain ⟨q, hq, rfl⟩ := List.mem_map.mp hx
                        rw [← k2']
                        exact List.mem_map.mpr ⟨q, hL q (pm.mem_iff.mp hq), rfl⟩
                      · intro hx
                        rw [← k2'] at hx
                        obtain ⟨q, hq, e5⟩ := List.mem_map.mp hx
                        obtain ⟨q', hq', e6⟩ := List.mem_map.mp (hA q hq)
                        exact List.mem_map.mpr ⟨q', pm.mem_iff.mpr hq', e6.trans e5⟩
                  refine k _ _ (same1.trans same2) (.lst upd_same (dm.fresh np) ?_)
                  rw [eq]
                  have all : ∀ {m : List (Addr × List Int)}, (∀ q ∈ m, q ∈ ks) → RepAll X.K M H (m.map fun q => V.ref q.1) ((m.map fun q => q.2).map tupI) := by
                    intro m
                    induction m with
                    | nil => intro _; exact .nil
                    | cons q m ih => intro hm; exact .cons (k3 q (hm q List.mem_cons_self)).2 (ih fun r hr => hm r (List.mem_cons_of_mem _ hr))
                  exact ((all fun q hq => hL q (pm.mem_iff.mp hq)).same same1).same same2
              · cases e4
        | _ => cases e'
      · cases h
    · cases h
  refine ⟨fun h hp => (main h hp).choose_spec.choose_spec.choose_spec.2, (fun z => nomatch z), fun {e es ms} h hp => ?_⟩
  obtain ⟨a, b, pos, rfl, pe⟩ := main h hp
  exact pt_of_pe pe (fun _ => rfl)
end PL

namespace PL
open PySem PySem.Spec PyProof.Rows L2
/-! ## list(x) -/
def opListOf : D → Option D
  | .lst l => some (.lst l)
  | .tup l => some (.lst l)
  | _ => none
def pListOf : Prim := { syn := callSyn "list", sem := one1 opListOf, fresh := true }
theorem listOfG : PrimG pListOf := by
  intro X k W xo
  have main : ∀ {e : Expr} {es : List Expr} {ms : List (En → Res D)}, callSyn "list" X.env.scope e = some es → PEs X W es ms → ∃ x p es pos, e = .Call (.Name x p) es [] pos ∧ PE X e (tF X W fun ρ => (seqM ms ρ).bind fun ds => ofO (one1 opListOf ds)) := by
    intro e es ms h hp
    unfold callSyn at h
    split at h
    · rename_i x p a es' pos
      split at h
      · rename_i hg
        cases h
        rw [Bool.and_eq_true, decide_eq_true_eq] at hg
        obtain ⟨rfl, hg⟩ := hg
        have ns : notStar a = true := by cases hp with | cons _ n _ => exact n
        have st : (backTo pos (starEach es' X.env)).any (·.1) = false := by cases hp with | cons _ _ t => exact stars_of t pos
        refine ⟨_, p, _, pos, rfl, pe_weak (pe_callTy call_list_of (gl_of hg) (xo.bf _ (by decide)) (by decide +kernel) hp.pa (by decide) (by decide) (star_of ns es' X.env) st) fun σ H Q q => w_nF (fun M H xs ds d dm rs e k => ?_) q⟩
        obtain ⟨es, ee, k⟩ := k
        match ds, rs, e with
        | [x], .cons r1 .nil, e =>
          have e' : opListOf x = some d := e
          cases x with
          | lst l =>
            cases e'; cases ee
            cases r1 with
            | @lst b vs _ s n ra => exact ⟨_, vs, rfl, .inl (SqL.of s), fun p hp => k p vs _ (same_new hp) hp upd_same ((RepAll.ext (Ext.mark hp) _ _ ra).same (same_new hp))⟩
          | tup l =>
            cases e'; cases ee
            cases r1 with
            | @tup b vs _ s n ra => exact ⟨_, vs, rfl, .inr (SqT.of s), fun p hp => k p vs _ (same_new hp) hp upd_same ((RepAll.ext (Ext.mark hp) _ _ ra).same (same_new hp))⟩
          | _ => cases e'
      · cases h
    · cases h
  have lst : ∀ (ms : List (En → Res D)) ρ d, ((seqM ms ρ).bind fun ds => ofO (one1 opListOf ds)) = .ok d → ∃ l, d = .lst l := fun ms ρ d e => by
    obtain ⟨ds, _, e⟩ := Res.bind_eq_ok e
    match ds, e with
    | [], e => cases e
    | [x], e =>
      have e' : ofO (opListOf x) = .ok d := e
      cases x <;> first | (cases e'; exact ⟨_, rfl⟩) | cases e'
    | _ :: _ :: _, e => cases e
  refine ⟨fun {e es ms} h hp => ?_, fun _ {e es ms} h hp => ?_, fun {e es ms} h hp => ?_⟩
  · obtain ⟨a, b, c, pos, rfl, pe⟩ := main h hp
    exact tF_S pe (lst ms)
  · obtain ⟨a, b, c, pos, rfl, pe⟩ := main h hp
    exact pe
  · obtain ⟨a, b, c, pos, rfl, pe⟩ := main h hp
    exact pt_of_pe (tF_S pe (lst ms)) (fun _ => rfl)
/-! ## x.append(y.pop(e)): from one of the frame's lists into another -/
def popInto (i j : Nat) (s : SE) (l m : List D) : D → Out
  | .int k => if 0 ≤ k ∧ l.length < sizeD ∧ m.length < sizeD then (match m[k.toNat]? with | some x => .nx ((s.set j (.own (m.eraseIdx k.toNat))).set i (.own (l ++ [x]))) | none => .stuck) else .stuck
  | _ => .stuck
def asPop : Expr → Option (Str × Pos × Pos × Expr × Pos)
  | .Call (.Attribute (.Name y p) m ap) [v] [] cp => if m = "pop" then some (y, p, ap, v, cp) else none
  | _ => none
theorem asPop_eq {e v : Expr} {y : Str} {p ap cp : Pos} (h : asPop e = some (y, p, ap, v, cp)) : e = .Call (.Attribute (.Name y p) "pop" ap) [v] [] cp := by
  unfold asPop at h
  split at h
  · split at h
    · rename_i hm; cases h; rw [hm]
    · cases h
  · cases h
def aAppPop (i j : Nat) (e : E) : AtomS where
  chk := fun N sc st => !(i == j) && oB (asMeth st) fun t => match t with
    | (x, _, m, ap, [v], cp) => chkV N sc i x && decide (m = "append") && notStar v && (ap.endLine == cp.line) && oB (asPop v) fun u => chkV N sc j u.1 && chk N sc e u.2.2.2.1 && notStar u.2.2.2.1 && (u.2.2.1.endLine == u.2.2.2.2.line)
    | _ => false
  run := fun s => withOwn s i fun l => withOwn s j fun m => outE (ev e (full s)) fun d => popInto i j s l m d
theorem appPopG {P : Str → (List D → Res D) → Prop} {C : Str → Cn → Prop} {R : Str → Prop} {i j : Nat} {e : E} (ge : good P C e) : AtomSG P C R (aAppPop i j e) := by
  intro X k W H0 M0 xo hP hC hR st hc
  subst hP hC hR
  have hc' : (!(i == j) && oB (asMeth st) fun t => match t with
    | (x, _, m, ap, [v], cp) => chkV X.N X.env.scope i x && decide (m = "append") && notStar v && (ap.endLine == cp.line) && oB (asPop v) fun u => chkV X.N X.env.scope j u.1 && chk X.N X.env.scope e u.2.2.2.1 && notStar u.2.2.2.1 && (u.2.2.1.endLine == u.2.2.2.2.line)
    | _ => false) = true := hc
  rw [Bool.and_eq_true] at hc'
  obtain ⟨hij, h2⟩ := hc'
  have hij' : i ≠ j := by simpa using hij
  obtain ⟨⟨x, p, m, ap, as, cp⟩, e1, h3⟩ := optM h2
  obtain ⟨pos, rfl⟩ := asMeth_eq e1
  match as, h3 with
  | [v], h3 =>
    have h3' : (chkV X.N X.env.scope i x && decide (m = "append") && notStar v && (ap.endLine == cp.line) && oB (asPop v) fun u => chkV X.N X.env.scope j u.1 && chk X.N X.env.scope e u.2.2.2.1 && notStar u.2.2.2.1 && (u.2.2.1.endLine == u.2.2.2.2.line)) = true := h3
    simp only [Bool.and_eq_true, decide_eq_true_eq] at h3'
    obtain ⟨⟨⟨⟨c1, c2⟩, c3⟩, c4⟩, c5⟩ := h3'
    subst c2
    obtain ⟨⟨y, p2, ap2, v2, cp2⟩, e2, h4⟩ := optM c5
    rw [Bool.and_eq_true, Bool.and_eq_true, Bool.and_eq_true] at h4
    obtain ⟨⟨⟨d1, d2⟩, d3⟩, d4⟩ := h4
    have ev := asPop_eq e2
    subst ev
    obtain ⟨a1, a2, a3⟩ := chkV_of c1
    obtain ⟨b1, b2, b3⟩ := chkV_of d1
    refine ps_weak (ps_expr (pe_meth1 PySem.F.slot_list_append PySem.F.type_list_append mt_append a1 a2 a3 (pe_meth1 PySem.F.slot_list_pop PySem.F.type_list_pop mt_popAt b1 b2 b3 (snd_e e xo.toXOk ge v2 d2).pe d3 d4) c3 c4)) fun Dn σ H q => ?_
    obtain ⟨A, s, r, o⟩ := q
    have o : OutS X W H0 M0 (marks M0 A s) H Dn (withOwn s i fun l => withOwn s j fun m => outE (PL.ev e (full s)) fun d => popInto i j s l m d) := o
    obtain ⟨l, es, o⟩ := own_of o
    obtain ⟨ml, em, o⟩ := own_of o
    obtain ⟨ai, eA, n0, nm, ev1, vs, hl, ra⟩ := r.ownL i l es
    obtain ⟨aj, eA', n0', nm', ev1', ws, hl', ra'⟩ := r.ownL j ml em
    refine ⟨_, ev1, .inl ⟨rfl, _, SqL.of hl⟩, ?_⟩
    refine ⟨_, ev1', .inl ⟨rfl, _, SqL.of hl'⟩, ?_⟩
    refine full_out r o fun d v H' e1 s' rv r' o' => ?_
    cases d with
    | int kk =>
      have o2 : OutS X W H0 M0 (marks M0 A s) H Dn (if 0 ≤ kk ∧ l.length < sizeD ∧ ml.length < sizeD then (match ml[kk.toNat]? with | some x => Out.nx ((s.set j (.own (ml.eraseIdx kk.toNat))).set i (.own (l ++ [x]))) | none => .stuck) else .stuck) := o'
      by_cases hk : 0 ≤ kk ∧ l.length < sizeD ∧ ml.length < sizeD
      · rw [if_pos hk] at o2
        cases hx : ml[kk.toNat]? with
        | none => rw [hx] at o2; exact o2.elim
        | some x =>
          rw [hx] at o2
          have o2 : OutS X W H0 M0 (marks M0 A s) H Dn (Out.nx ((s.set j (.own (ml.eraseIdx kk.toNat))).set i (.own (l ++ [x])))) := o2
          cases rv
          obtain ⟨y, hy, ry⟩ := (ra'.same s').get hx
          have hlt : kk.toNat < ml.length := (List.getElem?_eq_some_iff.mp hx).1
          have hlw : ws.length = ml.length := ra'.length
          have sz : sizeD = 100000 := rfl
          refine ⟨aj, ws, kk, kk.toNat, y, rfl, rfl, s'.get _ _ hl', by omega, by omega, ?_, hy, ?_⟩
          · unfold seqIndex?
            have z1 : ¬ kk < 0 := by omega
            simp only [if_neg z1]
            rw [if_pos (by rw [Bool.and_eq_true, decide_eq_true_eq, decide_eq_true_eq]; omega)]
          · obtain ⟨r2, f2⟩ := r'.upd (vs := ws.eraseIdx kk.toNat) (l' := ml.eraseIdx kk.toNat) em eA' ((ra'.same s').eraseIdx _)
            have es2 : (s.set j (.own (ml.eraseIdx kk.toNat)))[i]? = some (.own l) := by rw [List.getElem?_set_ne (Ne.symm hij')]; exact es
            obtain ⟨ai2, eA2, _, _, _, us, hu, ru⟩ := r2.ownL i l es2
            obtain rfl : ai = ai2 := by rw [eA] at eA2; exact (List.cons.inj eA2).1
            have ne : ai ≠ aj := fun z => hij' (r.injG i j _ _ ai (owAt_own es) (owAt_own em) (by rw [eA]; exact List.mem_cons_self) (by rw [eA', z]; exact List.mem_cons_self))
            have eu : us = vs := by
              rw [upd_ne ne, s'.get _ _ hl] at hu
              cases hu; rfl
            subst eu
            have ry2 : Rep X.K (marks M0 A (s.set j (.own (ml.eraseIdx kk.toNat)))) (L2.upd H' aj (.lst (ws.eraseIdx kk.toNat))) y x := Rep.weak (fun a => (marks_own em a).mp) _ _ (Rep.keep f2.keep _ _ ry)
            obtain ⟨r3, f3⟩ := r2.upd (vs := us ++ [y]) (l' := l ++ [x]) es2 eA (ru.append (.cons ry2 .nil))
            refine ⟨ai, us, y, rfl, rfl, hu, own_len ra hk.2.1, ?_⟩
            exact o2 σ _ A r3 (((Frame.grow r.dm s' fun _ m => m).trans f2).trans f3)
      · rw [if_neg hk] at o2; exact o2.elim
    | _ => exact o'.elim
theorem rappPop {i j : Nat} {e : E} {s : SE} {l m : List D} {k : Nat} {x : D} {r : S} {o : Out} (hi : s[i]? = some (.own l)) (hj : s[j]? = some (.own m)) (h1 : ev e (full s) = .ok (.int (k : Int))) (hl : l.length < sizeD) (hm : m.length < sizeD) (hx : m[k]? = some x)
    (h2 : run r ((s.set j (.own (m.eraseIdx k))).set i (.own (l ++ [x]))) = o) : run (.cons (.atom (aAppPop i j e)) r) s = o := by
  refine rc (s' := (s.set j (.own (m.eraseIdx k))).set i (.own (l ++ [x]))) ?_ h2
  show withOwn s i (fun l => withOwn s j fun m => outE (ev e (full s)) fun d => popInto i j s l m d) = _
  unfold withOwn
  rw [hi]
  dsimp only
  rw [hj]
  dsimp only
  rw [h1]
  show (if 0 ≤ (k : Int) ∧ l.length < sizeD ∧ m.length < sizeD then (match m[(k : Int).toNat]? with | some x => Out.nx ((s.set j (.own (m.eraseIdx (k : Int).toNat))).set i (.own (l ++ [x]))) | none => .stuck) else .stuck) = _
  rw [if_pos ⟨by omega, hl, hm⟩, Int.toNat_natCast, hx]
end PL

namespace PL
open PySem PySem.Spec PyProof.Rows
open L2 hiding prD ltP
/-! ## points sorted by their times -/
def key3 (p : P3) : List Int := [p.1, p.2.1, p.2.2]
theorem tup_key (p : P3) : tupI (key3 p) = ptD p := rfl
theorem sorted_pts (ps : List P3) : opSortedT (.lst (ps.map ptD)) = some (.lst ((sortL (ps.map key3)).map tupI)) := by
  have e : ps.map ptD = (ps.map key3).map tupI := by rw [List.map_map]; rfl
  show ((tupsD (ps.map ptD)).bind fun ks => if lenOk ks then some (D.lst ((sortL ks).map tupI)) else none) = _
  rw [e, tupsD_map]
  show (if lenOk (ps.map key3) then _ else _) = _
  rw [if_pos]
  unfold lenOk
  rw [List.all_eq_true]
  intro k hk
  obtain ⟨p, hp, rfl⟩ := List.mem_map.mp hk
  refine decide_eq_true ?_
  cases ps with
  | nil => cases hp
  | cons a r => rfl
theorem sort_track {ps T : List P3} (hp : T.Perm ps) (h : T.Pairwise fun p q => p.1 < q.1) : sortL (ps.map key3) = T.map key3 := by
  refine (sortL_is (hp.map key3) ?_).symm
  rw [List.pairwise_map]
  refine h.imp fun {a b} hab => ?_
  show HT.lexLt (b.1 :: _) (a.1 :: _) = false
  rw [HT.lexLt_cons, if_neg (by omega)]
  exact decide_eq_false (by omega)
theorem sorted_trk {ps T : List P3} (hp : T.Perm ps) (h : T.Pairwise fun p q => p.1 < q.1) : opSortedT (.lst (ps.map ptD)) = some (.lst (T.map ptD)) := by
  rw [sorted_pts, sort_track hp h, List.map_map]; rfl
/-- a point put in its place -/
def insT (p : P3) : List P3 → List P3
  | [] => [p]
  | a :: r => if p.1 < a.1 then p :: a :: r else a :: insT p r
theorem insT_perm (p : P3) : ∀ l : List P3, (insT p l).Perm (l ++ [p])
  | [] => .refl _
  | a :: r => by
    unfold insT
    split
    · exact (List.perm_append_singleton p (a :: r)).symm
    · exact (insT_perm p r).cons a
theorem insT_pw (p : P3) : ∀ {l : List P3}, l.Pairwise (fun a b => a.1 < b.1) → (∀ a ∈ l, a.1 ≠ p.1) → (insT p l).Pairwise fun a b => a.1 < b.1
  | [], _, _ => .cons (fun _ h => by cases h) .nil
  | a :: r, h, ne => by
    unfold insT
    split
    · rename_i k
      refine .cons (fun b hb => ?_) h
      rcases List.mem_cons.mp hb with rfl | hb
      · exact k
      · have := List.rel_of_pairwise_cons h hb; omega
    · rename_i k
      refine .cons (fun b hb => ?_) (insT_pw p h.of_cons fun c hc => ne c (List.mem_cons_of_mem _ hc))
      have hb' := (insT_perm p r).mem_iff.mp hb
      rcases List.mem_append.mp hb' with hb' | hb'
      · exact List.rel_of_pairwise_cons h hb'
      · rw [List.mem_singleton.mp hb']
        have := ne a List.mem_cons_self
        omega
end PL

namespace PL
open PySem PySem.Spec PyProof.Rows L2
/-! ## texts of the program that many laws reach -/
def b_rounded : S :=
  (.cons (.unp true [1, 2] (.v 0))
  (.cons (.ret (.prim pFdv (.cons (.prim pAdd (.cons (.prim pMul (.cons (.c (.int 2)) (.cons (.v 1) .nil))) (.cons (.v 2) .nil))) (.cons (.prim pMul (.cons (.c (.int 2)) (.cons (.v 2) .nil))) .nil))))
  .nil))
def f_rounded : List D → Res D := callD 3 1 b_rounded
def b_at_every : S :=
  (.cons (.expr (.call "look_track" f_look_track (.cons (.v 0) .nil)))
  (.cons (.ite (.not (.call "is_whole" f_is_whole (.cons (.v 1) (.cons (.c (.int 1)) (.cons (.g "LAST" (.int 999)) .nil)))))
  (.cons (.raise "NoNumber")
  .nil)
  .nil)
  (.cons (.set true 2 (.prim pListRng3 (.cons (.prim pIx (.cons (.prim pIx (.cons (.v 0) (.cons (.c (.int 0)) .nil))) (.cons (.c (.int 0)) .nil))) (.cons (.prim pAdd (.cons (.prim pIx (.cons (.prim pIx (.cons (.v 0) (.cons (.prim pNeg (.cons (.c (.int 1)) .nil)) .nil))) (.cons (.c (.int 0)) .nil))) (.cons (.c (.int 1)) .nil))) (.cons (.v 1) .nil)))))
  (.cons (.ite (.prim pGt (.cons (.prim pLen (.cons (.v 2) .nil)) (.cons (.g "MOST" (.int 12)) .nil)))
  (.cons (.raise "NoTrack")
  .nil)
  .nil)
  (.cons (.own true 3 (.prim pLst .nil))
  (.cons (.for_ (.name 4) (.seq (.v 2))
  (.cons (.unp true [5, 6] (.call "position" f_position (.cons (.v 0) (.cons (.v 4) .nil))))
  (.cons (.app true 3 (.prim pTup (.cons (.v 4) (.cons (.call "rounded" f_rounded (.cons (.v 5) .nil)) (.cons (.call "rounded" f_rounded (.cons (.v 6) .nil)) .nil)))))
  .nil)))
  (.cons (.ret (.prim pTupleOf (.cons (.v 3) .nil)))
  .nil)))))))
def f_at_every : List D → Res D := callD 7 2 b_at_every
def b_cell_of : S :=
  (.cons (.ret (.prim pTup (.cons (.prim pFdv (.cons (.prim pIx (.cons (.v 0) (.cons (.c (.int 0)) .nil))) (.cons (.v 1) .nil))) (.cons (.prim pFdv (.cons (.prim pIx (.cons (.v 0) (.cons (.c (.int 1)) .nil))) (.cons (.v 1) .nil))) .nil))))
  .nil)
def f_cell_of : List D → Res D := callD 2 2 b_cell_of
def b_look_size : S :=
  (.cons (.ite (.not (.call "is_whole" f_is_whole (.cons (.v 0) (.cons (.c (.int 1)) (.cons (.g "MOST_SIZE" (.int 99)) .nil)))))
  (.cons (.raise "NoNumber")
  .nil)
  .nil)
  .nil)
def f_look_size : List D → Res D := callD 1 1 b_look_size
def b_cells : S :=
  (.cons (.expr (.call "look_track" f_look_track (.cons (.v 0) .nil)))
  (.cons (.expr (.call "look_size" f_look_size (.cons (.v 1) .nil)))
  (.cons (.set true 2 (.comp [("point", 3)] (.name 3) (.seq (.v 0)) .none (.call "cell_of" f_cell_of (.cons (.prim pSlL (.cons (.v 3) (.cons (.c (.int 1)) .nil))) (.cons (.v 1) .nil)))))
  (.cons (.ret (.comp [("at", 4), ("one", 5)] (.tup [4, 5]) (.enum (.v 2)) (.some (.or (.prim pEq (.cons (.v 4) (.cons (.c (.int 0)) .nil))) (.prim pNe (.cons (.v 5) (.cons (.prim pIx (.cons (.v 2) (.cons (.prim pSub (.cons (.v 4) (.cons (.c (.int 1)) .nil))) .nil))) .nil))))) (.v 5)))
  .nil))))
def f_cells : List D → Res D := callD 6 2 b_cells
def b_how_often : S :=
  (.cons (.expr (.call "look_track" f_look_track (.cons (.v 0) .nil)))
  (.cons (.expr (.call "look_size" f_look_size (.cons (.v 1) .nil)))
  (.cons (.set true 2 (.comp [("point", 3)] (.name 3) (.seq (.v 0)) .none (.call "cell_of" f_cell_of (.cons (.prim pSlL (.cons (.v 3) (.cons (.c (.int 1)) .nil))) (.cons (.v 1) .nil)))))
  (.cons (.ret (.comp [("one", 4)] (.name 4) (.seq (.prim pSortedSet (.cons (.v 2) .nil))) .none (.prim pTup (.cons (.v 4) (.cons (.atom (aCount 2 (.v 4))) .nil)))))
  .nil))))
def f_how_often : List D → Res D := callD 5 2 b_how_often
def b_snapped : S :=
  (.cons (.expr (.call "look_track" f_look_track (.cons (.v 0) .nil)))
  (.cons (.expr (.call "look_size" f_look_size (.cons (.v 1) .nil)))
  (.cons (.ret (.call "looked" f_looked (.cons (.prim pTupleOf (.cons (.comp [("time", 2), ("x", 3), ("y", 4)] (.tup [2, 3, 4]) (.seq (.v 0)) .none (.prim pTup (.cons (.v 2) (.cons (.prim pMul (.cons (.prim pFdv (.cons (.v 3) (.cons (.v 1) .nil))) (.cons (.v 1) .nil))) (.cons (.prim pMul (.cons (.prim pFdv (.cons (.v 4) (.cons (.v 1) .nil))) (.cons (.v 1) .nil))) .nil))))) .nil)) .nil)))
  .nil)))
def f_snapped : List D → Res D := callD 5 2 b_snapped
end PL

namespace PL
open PySem PySem.Spec PyProof.Rows
open L2 hiding prD ltP
/-! ## even times -/
def rnd (v : Rat) : Int := (2 * v.num + v.den) / (2 * v.den)
theorem round_ok {v : Rat} (hn : v.num.natAbs < 2 ^ 60) (hd : v.den < 2 ^ 60) : f_rounded [frQ v] = .ok (.int (rnd v)) := by
  have dp : 0 < v.den := v.den_pos
  refine rcall rfl (runp (d := frQ v) (s := [.ro (frQ v), .no, .no]) (s' := [.ro (frQ v), .ro (.int v.num), .ro (.int (v.den : Nat))]) ?_ ?_ ?_)
  · rfl
  · rfl
  · exact rret (efdv (eadd (emul ki rfl (mul_small (by decide))) rfl) (emul ki rfl (mul_small (by decide))) (div_small (by omega) (by omega)))
theorem round_int (x : Int) : f_rounded [.tup [.int x, .int 1]] = .ok (.int x) := by
  refine rcall rfl (runp (d := .tup [.int x, .int 1]) (s := [.ro (.tup [.int x, .int 1]), .no, .no]) (s' := [.ro (.tup [.int x, .int 1]), .ro (.int x), .ro (.int 1)]) ?_ ?_ ?_)
  · rfl
  · rfl
  · refine (rret (d := .int ((2 * x + 1) / (2 * 1))) (efdv (eadd (emul ki rfl (mul_small (by decide))) rfl) (emul ki rfl (mul_small (by decide))) (div_small (by decide) (by decide)))).trans ?_
    congr 2
    omega
def lastOf (T : List P3) : P3 := T.getLastD (0, 0, 0)
def evT (T : List P3) (a b : P3) (step : Int) : List Int := rgC a.1 (b.1 + 1) step
def evBody : S := S.loop (S.drop b_at_every 5)
/-- each time's point, by what position and rounded tell -/
theorem ev_loop {T : List P3} {s1 s2 : Sl} {g : Int → P3} (hg : ∀ t, (g t).1 = t) : ∀ (ts : List Int) (acc : List P3) (A B C : Sl), (∀ t ∈ ts, ∃ X Y, f_position [trk T, .int t] = .ok (.tup [X, Y]) ∧ f_rounded [X] = .ok (.int (g t).2.1) ∧ f_rounded [Y] = .ok (.int (g t).2.2)) → acc.length + ts.length ≤ 1000 →
    ∃ A' B' C', forM (fun s => PL.run evBody s) (.name 4) (ts.map D.int) [.ro (trk T), s1, s2, .own (acc.map ptD), A, B, C] = .nx [.ro (trk T), s1, s2, .own ((acc ++ ts.map g).map ptD), A', B', C']
  | [], acc, A, B, C, _, _ => ⟨A, B, C, by
    show Out.nx _ = _
    simp⟩
  | t :: ts, acc, A, B, C, h, hl => by
    rw [List.length_cons] at hl
    obtain ⟨X, Y, h1, h2, h3⟩ := h t List.mem_cons_self
    obtain ⟨A', B', C', ih⟩ := ev_loop (T := T) (s1 := s1) (s2 := s2) hg ts (acc ++ [g t]) (.ro (.int t)) (.ro X) (.ro Y) (fun u hu => h u (List.mem_cons_of_mem _ hu)) (by rw [List.length_append, List.length_singleton]; omega)
    refine ⟨A', B', C', ?_⟩
    refine for_name (s1 := [.ro (trk T), s1, s2, .own ((acc ++ [g t]).map ptD), .ro (.int t), .ro X, .ro Y]) ?_ ?_
    · refine runp (s := [.ro (trk T), s1, s2, .own (acc.map ptD), .ro (.int t), B, C]) (s' := [.ro (trk T), s1, s2, .own (acc.map ptD), .ro (.int t), .ro X, .ro Y]) (d := .tup [X, Y]) ?_ ?_ ?_
      · exact ec (lc rfl (lc rfl l0)) h1
      · rfl
      · refine rapp (l := acc.map ptD) (d := ptD (g t)) ?_ ?_ ?_ ?_ ?_
        · rfl
        · refine (en (lc rfl (lc (ec (lc rfl l0) h2) (lc (ec (lc rfl l0) h3) l0))) rfl).trans ?_
          show Res.ok (D.tup [.int t, _, _]) = Res.ok (D.tup [.int (g t).1, _, _])
          rw [hg]
        · rfl
        · rw [List.length_map]
          have : sizeD = 100000 := rfl
          omega
        · rw [List.map_append]; rfl
    · refine ih.trans ?_
      rw [List.append_assoc, List.map_cons, List.singleton_append]
theorem every_ok {T : List P3} {a b : P3} {step : Int} {g : Int → P3} (G : Good T) (ha : T.head? = some a) (hb : T.getLast? = some b) (h1 : 1 ≤ step) (h2 : step ≤ 999) (hl : (rgC a.1 (b.1 + 1) step).length ≤ 12) (hg : ∀ t, (g t).1 = t)
    (h : ∀ t ∈ rgC a.1 (b.1 + 1) step, ∃ X Y, f_position [trk T, .int t] = .ok (.tup [X, Y]) ∧ f_rounded [X] = .ok (.int (g t).2.1) ∧ f_rounded [Y] = .ok (.int (g t).2.2)) :
    f_at_every [trk T, .int step] = .ok (trk ((rgC a.1 (b.1 + 1) step).map g)) := by
  have i0 := ix_first ha
  have i1 := ix_last hb
  obtain ⟨a1, a2, _⟩ := G.pt a (List.mem_of_head? ha)
  obtain ⟨b1, b2, _⟩ := G.pt b (List.mem_of_getLast? hb)
  have rg : opListRng3 [.int a.1, .int (b.1 + 1), .int step] = some (.lst ((rgC a.1 (b.1 + 1) step).map D.int)) := by
    show (if RgC a.1 (b.1 + 1) step then _ else _) = _
    rw [if_pos ⟨by omega, by omega, by omega, by omega, by omega, by omega⟩]
  refine rcall rfl (rexpr (s := [.ro (trk T), .ro (.int step), .no, .no, .no, .no, .no]) (ec (lc rfl l0) (look_ok G)) ?_)
  refine riteF (s := [.ro (trk T), .ro (.int step), .no, .no, .no, .no, .no]) ?_ ?_
  · exact enT (ec (lc rfl (lc ki (lc rfl l0))) (whole_in h1 h2))
  refine rset (s := [.ro (trk T), .ro (.int step), .no, .no, .no, .no, .no]) (d := .lst ((rgC a.1 (b.1 + 1) step).map D.int)) ?_ ?_ ?_
  · exact en (lc (e2 (x := ptD a) (e2 rfl ki i0) ki rfl) (lc (eadd (e2 (x := ptD b) (e2 rfl (e1 (x := .int 1) ki rfl) i1) ki rfl) ki) (lc rfl l0))) rg
  · rfl
  refine riteF (s := [.ro (trk T), .ro (.int step), .ro (.lst ((rgC a.1 (b.1 + 1) step).map D.int)), .no, .no, .no, .no]) ?_ ?_
  · refine (egt (x := ((rgC a.1 (b.1 + 1) step).length : Int)) (y := 12) (e1 rfl ((o_lenL _).trans (by rw [List.length_map]))) rfl).trans ?_
    rw [decide_eq_false (by omega)]
  refine rown (s := [.ro (trk T), .ro (.int step), .ro (.lst ((rgC a.1 (b.1 + 1) step).map D.int)), .no, .no, .no, .no]) (l := []) ?_ ?_ ?_
  · rfl
  · rfl
  obtain ⟨A, B, C, lp⟩ := ev_loop (T := T) (s1 := .ro (.int step)) (s2 := .ro (.lst ((rgC a.1 (b.1 + 1) step).map D.int))) hg (rgC a.1 (b.1 + 1) step) [] .no .no .no h (by simp; omega)
  refine rfor (s := [.ro (trk T), .ro (.int step), .ro (.lst ((rgC a.1 (b.1 + 1) step).map D.int)), .own [], .no, .no, .no]) (s' := [.ro (trk T), .ro (.int step), .ro (.lst ((rgC a.1 (b.1 + 1) step).map D.int)), .own (([] ++ (rgC a.1 (b.1 + 1) step).map g).map ptD), A, B, C]) (ds := (rgC a.1 (b.1 + 1) step).map D.int) ?_ ?_ ?_
  · rfl
  · exact lp
  rw [List.nil_append]
  exact rret rfl
theorem every_many {T : List P3} {a b : P3} {step : Int} (G : Good T) (ha : T.head? = some a) (hb : T.getLast? = some b) (h1 : 1 ≤ step) (h2 : step ≤ 999) (hl : 12 < (rgC a.1 (b.1 + 1) step).length) : f_at_every [trk T, .int step] = .exc "NoTrack" := by
  have i0 := ix_first ha
  have i1 := ix_last hb
  obtain ⟨a1, a2, _⟩ := G.pt a (List.mem_of_head? ha)
  obtain ⟨b1, b2, _⟩ := G.pt b (List.mem_of_getLast? hb)
  have rg : opListRng3 [.int a.1, .int (b.1 + 1), .int step] = some (.lst ((rgC a.1 (b.1 + 1) step).map D.int)) := by
    show (if RgC a.1 (b.1 + 1) step then _ else _) = _
    rw [if_pos ⟨by omega, by omega, by omega, by omega, by omega, by omega⟩]
  refine callE rfl (rexpr (s := [.ro (trk T), .ro (.int step), .no, .no, .no, .no, .no]) (ec (lc rfl l0) (look_ok G)) ?_)
  refine riteF (s := [.ro (trk T), .ro (.int step), .no, .no, .no, .no, .no]) ?_ ?_
  · exact enT (ec (lc rfl (lc ki (lc rfl l0))) (whole_in h1 h2))
  refine rset (s := [.ro (trk T), .ro (.int step), .no, .no, .no, .no, .no]) (d := .lst ((rgC a.1 (b.1 + 1) step).map D.int)) ?_ ?_ ?_
  · exact en (lc (e2 (x := ptD a) (e2 rfl ki i0) ki rfl) (lc (eadd (e2 (x := ptD b) (e2 rfl (e1 (x := .int 1) ki rfl) i1) ki rfl) ki) (lc rfl l0))) rg
  · rfl
  refine rite (k := true) (s := [.ro (trk T), .ro (.int step), .ro (.lst ((rgC a.1 (b.1 + 1) step).map D.int)), .no, .no, .no, .no]) ?_ rfl
  refine (egt (x := ((rgC a.1 (b.1 + 1) step).length : Int)) (y := 12) (e1 rfl ((o_lenL _).trans (by rw [List.length_map]))) rfl).trans ?_
  rw [decide_eq_true (by omega)]
theorem every_no {T : List P3} {d : D} (G : Good T) (h : d.pl = true) (hw : wholeB d 1 999 = false) : f_at_every [trk T, d] = .exc "NoNumber" := by
  have w := whole_any h 1 999
  rw [hw] at w
  refine callE rfl (rexpr (s := [.ro (trk T), .ro d, .no, .no, .no, .no, .no]) (ec (lc rfl l0) (look_ok G)) ?_)
  refine rite (k := true) (s := [.ro (trk T), .ro d, .no, .no, .no, .no, .no]) ?_ rfl
  exact enF (ec (lc rfl (lc ki (lc rfl l0))) w)
theorem no_every {d x : D} (h : d.pl = true) (ht : trackB d = false) : f_at_every [d, x] = .exc "NoTrack" := callE rfl (rexc (ec (lc rfl l0) (look_no h ht)))
end PL

namespace PL
open PySem PySem.Spec PyProof.Rows
open L2 hiding prD ltP
/-! ## cells -/
def cellP (s : Int) (p : P3) : P2 := (p.2.1 / s, p.2.2 / s)
theorem cell_of_ok {s : Int} (p : P3) (h1 : 1 ≤ s) (h2 : s ≤ 99) : f_cell_of [plD p, .int s] = .ok (PL.prD (cellP s p)) :=
  rcall rfl (rret (en (lc (efdv (e2 (x := plD p) rfl ki rfl) rfl (div_small (by omega) (by omega))) (lc (efdv (e2 (x := plD p) rfl ki rfl) rfl (div_small (by omega) (by omega))) l0)) rfl))
theorem size_ok {s : Int} (h1 : 1 ≤ s) (h2 : s ≤ 99) : f_look_size [.int s] = .ok .non := by
  show outR (PL.run b_look_size (startS 1 [.int s])) = _
  have : PL.run b_look_size (startS 1 [.int s]) = .nx (startS 1 [.int s]) := riteF (enT (ec (lc rfl (lc ki (lc rfl l0))) (whole_in h1 h2))) rfl
  rw [this]; rfl
theorem size_no {d : D} (h : d.pl = true) (hw : wholeB d 1 99 = false) : f_look_size [d] = .exc "NoNumber" := by
  show outR (PL.run b_look_size (startS 1 [d])) = _
  have w := whole_any h 1 99
  rw [hw] at w
  have : PL.run b_look_size (startS 1 [d]) = .exc "NoNumber" := rite (enF (ec (lc rfl (lc ki (lc rfl l0))) w)) rfl
  rw [this]; rfl
def atP (l : List P2) (i : Nat) : P2 := l.getD i (0, 0)
def ddA : P2 → List P2 → List P2
  | _, [] => []
  | a, b :: r => if b = a then ddA b r else b :: ddA b r
def dd : List P2 → List P2
  | [] => []
  | a :: r => a :: ddA a r
theorem ddA_range {β : Type} (f : P2 → β) : ∀ (r : List P2) (a : P2), (List.range r.length).filterMap (fun k => if atP (a :: r) (k + 1) = atP (a :: r) k then none else some (f (atP (a :: r) (k + 1)))) = (ddA a r).map f
  | [], _ => rfl
  | b :: r, a => by
    rw [List.length_cons, List.range_succ_eq_map, List.filterMap_cons, List.filterMap_map]
    have ih := ddA_range f r b
    have e : ((fun k => if atP (a :: b :: r) (k + 1) = atP (a :: b :: r) k then none else some (f (atP (a :: b :: r) (k + 1)))) ∘ Nat.succ) = fun k => if atP (b :: r) (k + 1) = atP (b :: r) k then none else some (f (atP (b :: r) (k + 1))) := rfl
    rw [e, ih]
    show (match (if b = a then none else some (f b)) with | none => (ddA b r).map f | some x => x :: (ddA b r).map f) = (if b = a then ddA b r else b :: ddA b r).map f
    by_cases h : b = a
    · rw [if_pos h, if_pos h]
    · rw [if_neg h, if_neg h]; rfl
theorem dd_range {β : Type} (f : P2 → β) : ∀ (l : List P2), (List.range l.length).filterMap (fun k => if k = 0 then some (f (atP l k)) else if atP l k = atP l (k - 1) then none else some (f (atP l k))) = (dd l).map f
  | [] => rfl
  | a :: r => by
    rw [List.length_cons, List.range_succ_eq_map, List.filterMap_cons, List.filterMap_map]
    have e : ((fun k => if k = 0 then some (f (atP (a :: r) k)) else if atP (a :: r) k = atP (a :: r) (k - 1) then none else some (f (atP (a :: r) k))) ∘ Nat.succ) = fun k => if atP (a :: r) (k + 1) = atP (a :: r) k then none else some (f (atP (a :: r) (k + 1))) := rfl
    rw [e, ddA_range f r a]
    rfl
theorem atP_get {l : List P2} {i : Nat} (h : i < l.length) : l[i]? = some (atP l i) := by
  unfold atP
  rw [List.getD_eq_getElem?_getD, List.getElem?_eq_getElem h]; rfl
theorem list_range {α β : Type} (l : List α) (d : α) (f : α → β) : l.map f = (List.range l.length).map fun k => f (l.getD k d) := by
  refine List.ext_getElem? fun i => ?_
  rw [List.getElem?_map, List.getElem?_map]
  by_cases h : i < l.length
  · rw [List.getElem?_eq_getElem h, List.getElem?_range h]
    show some (f l[i]) = some (f (l.getD i d))
    rw [List.getD_eq_getElem?_getD, List.getElem?_eq_getElem h]; rfl
  · rw [List.getElem?_eq_none (by omega), List.getElem?_eq_none (by rw [List.length_range]; omega)]; rfl
theorem insS_len (a : P2) : ∀ l : List P2, (insS a l).length ≤ l.length + 1
  | [] => Nat.le_refl _
  | b :: r => by
    have := insS_len a r
    unfold insS
    split
    · exact Nat.le_refl _
    · split
      · exact Nat.le_succ _
      · rw [List.length_cons, List.length_cons]; omega
theorem ssP_len : ∀ l : List P2, (ssP l).length ≤ l.length
  | [] => Nat.le_refl _
  | a :: r => by
    have := ssP_len r
    have := insS_len a (ssP r)
    show (insS a (ssP r)).length ≤ r.length + 1
    omega
theorem some_ok {T : List P3} {s : Int} {ρ : En} {i j m : Nat} (h12 : T.length ≤ 12) (h1 : 1 ≤ s) (h2 : s ≤ 99) {ρ2 : P3 → En} (e0 : ρ[0]? = some (some (trk T))) (hs : ∀ p : P3, setTg (.name i) (ptD p) (wipeD ρ [i]) = .ok (ρ2 p)) (hv : ∀ p, ev (.v i) (ρ2 p) = .ok (ptD p)) (hz : ∀ p, ev (.v 1) (ρ2 p) = .ok (.int s)) :
    ev (.comp [("point", i)] (.name i) (.seq (.v 0)) .none (.call "cell_of" f_cell_of (.cons (.prim pSlL (.cons (.v i) (.cons (.c (.int 1)) .nil))) (.cons (.v 1) .nil)))) ρ = .ok (.lst ((T.map (cellP s)).map PL.prD)) := by
  have v0 : ev (.v 0) ρ = .ok (trk T) := by
    show getE ρ 0 = _
    unfold getE; rw [e0]
  rw [List.map_map]
  exact ecomp T ptD (fun p => PL.prD (cellP s p)) (iseq v0 rfl) (by omega) (fun p _ => ⟨ρ2 p, hs p, ec (lc (e2 (hv p) ki (pt_tail p)) (lc (hz p) l0)) (cell_of_ok p h1 h2)⟩)
theorem cells_ok {T : List P3} {s : Int} (G : Good T) (h1 : 1 ≤ s) (h2 : s ≤ 99) : f_cells [trk T, .int s] = .ok (.lst ((dd (T.map (cellP s))).map PL.prD)) := by
  have h12 := G.le
  refine rcall rfl (rexpr (s := [.ro (trk T), .ro (.int s), .no, .no, .no, .no]) (ec (lc rfl l0) (look_ok G)) (rexpr (s := [.ro (trk T), .ro (.int s), .no, .no, .no, .no]) (ec (lc rfl l0) (size_ok h1 h2)) ?_))
  refine rset (s := [.ro (trk T), .ro (.int s), .no, .no, .no, .no]) (d := .lst ((T.map (cellP s)).map PL.prD)) ?_ ?_ ?_
  · exact some_ok (i := 3) (j := 0) (m := 0) h12 h1 h2 (ρ2 := fun p => [some (trk T), some (.int s), none, some (ptD p), none, none]) rfl (fun p => rfl) (fun p => rfl) (fun p => rfl)
  · rfl
  refine rret (s := [.ro (trk T), .ro (.int s), .ro (.lst ((T.map (cellP s)).map PL.prD)), .no, .no, .no]) ?_
  have hl : (T.map (cellP s)).length ≤ 12 := by rw [List.length_map]; exact h12
  generalize T.map (cellP s) = L at *
  have er : L.map PL.prD = (List.range L.length).map fun k => PL.prD (atP L k) := list_range L (0, 0) PL.prD
  refine (ecompF (List.range L.length) (fun k => .tup [.int (k : Int), PL.prD (atP L k)]) (fun k => if k = 0 then some (PL.prD (atP L k)) else if atP L k = atP L (k - 1) then none else some (PL.prD (atP L k))) (ienum (x := .lst (L.map PL.prD)) rfl (by rw [er]; exact enum_range _ _)) (by rw [List.length_range]; omega) ?_).trans ?_
  · intro k hk
    have hk' := List.mem_range.mp hk
    match k, hk' with
    | 0, _ => exact ⟨_, true, rfl, eorT (e2 rfl ki rfl), fun z => (nomatch z), fun _ => ⟨_, rfl, rfl⟩⟩
    | k + 1, hk' =>
      have ix : opIx (.lst (L.map PL.prD)) (.int (((k + 1 : Nat) : Int) - 1)) = some (PL.prD (atP L k)) := ix_lst (by omega) (atP_get (by omega))
      refine ⟨_, !decide (atP L (k + 1) = atP L k), rfl, eorF ((e2 rfl ki (o_eqI _ _)).trans (by rw [decide_eq_false (by omega)])) (e2 rfl (e2 rfl (esub rfl ki) ix) (ne_pr _ _)), fun h => ?_, fun h => ⟨_, rfl, ?_⟩⟩
      · rw [if_neg (by omega)]
        rw [if_pos (by simpa using h)]
      · rw [if_neg (by omega)]
        rw [if_neg (by simpa using h)]
  · rw [dd_range PL.prD L]
theorem ecount {i : Nat} {a : E} {ρ : En} {l : List D} {x d : D} (h1 : ρ[i]? = some (some (.lst l))) (h2 : ev a ρ = .ok x) (h3 : cntF l x = some d) : ev (.atom (aCount i a)) ρ = .ok d := by
  show (match ρ[i]? with | some (some (.lst l)) => (noExc (ev a ρ)).bind fun d => ofO (cntF l d) | _ => .stuck) = _
  rw [h1]
  dsimp only
  rw [h2]
  show ofO (cntF l x) = _
  rw [h3]; rfl
theorem cnt_pr (L : List P2) (c : P2) : cntF (L.map PL.prD) (PL.prD c) = some (.int ((L.count c : Nat) : Int)) := by
  unfold cntF
  rw [(Sh.lst (n := 1) fun d hd => by
    obtain ⟨q, _, rfl⟩ := List.mem_map.mp hd
    exact sh_pr2 q).shp (by decide), (sh_pr2 c).shp (by decide)]
  show some (D.int _) = _
  congr 3
  rw [List.countP_map, List.count]
  congr 1
  funext z
  show deq (PL.prD z) (PL.prD c) = (z == c)
  rw [dq_pr, Bool.beq_eq_decide_eq]
def oftD (L : List P2) (c : P2) : D := .tup [PL.prD c, .int ((L.count c : Nat) : Int)]
theorem often_ok {T : List P3} {s : Int} (G : Good T) (h1 : 1 ≤ s) (h2 : s ≤ 99) : f_how_often [trk T, .int s] = .ok (.lst ((ssP (T.map (cellP s))).map (oftD (T.map (cellP s))))) := by
  have h12 := G.le
  refine rcall rfl (rexpr (s := [.ro (trk T), .ro (.int s), .no, .no, .no]) (ec (lc rfl l0) (look_ok G)) (rexpr (s := [.ro (trk T), .ro (.int s), .no, .no, .no]) (ec (lc rfl l0) (size_ok h1 h2)) ?_))
  refine rset (s := [.ro (trk T), .ro (.int s), .no, .no, .no]) (d := .lst ((T.map (cellP s)).map PL.prD)) ?_ ?_ ?_
  · exact some_ok (i := 3) (j := 0) (m := 0) h12 h1 h2 (ρ2 := fun p => [some (trk T), some (.int s), none, some (ptD p), none]) rfl (fun p => rfl) (fun p => rfl) (fun p => rfl)
  · rfl
  have hl : (T.map (cellP s)).length ≤ 12 := by rw [List.length_map]; exact h12
  generalize T.map (cellP s) = L at *
  have ss : opSortedSet (.lst (L.map PL.prD)) = some (.lst ((ssP L).map PL.prD)) := by
    show ((pairsD (L.map PL.prD)).bind fun ps => if ps.length < 64 then some (D.lst ((ssP ps).map PL.prD)) else none) = _
    rw [pairsD_map]
    show (if L.length < 64 then _ else _) = _
    rw [if_pos (by omega)]
  have sl : (ssP L).length ≤ 12 := Nat.le_trans (ssP_len L) hl
  refine rret (s := [.ro (trk T), .ro (.int s), .ro (.lst (L.map PL.prD)), .no, .no]) ?_
  exact ecomp (ssP L) PL.prD (oftD L) (iseq (e1 rfl ss) rfl) (by omega) (fun c _ => ⟨_, rfl, en (lc rfl (lc (ecount rfl rfl (cnt_pr L c)) l0)) rfl⟩)
def snapP (s : Int) (p : P3) : P3 := (p.1, p.2.1 / s * s, p.2.2 / s * s)
theorem snap_list {T : List P3} {s : Int} {ρ : En} (h12 : T.length ≤ 12) (h1 : 1 ≤ s) (h2 : s ≤ 99) (e : ρ = full [.ro (trk T), .ro (.int s), .no, .no, .no]) :
    ev (.prim pTupleOf (.cons (.comp [("time", 2), ("x", 3), ("y", 4)] (.tup [2, 3, 4]) (.seq (.v 0)) .none (.prim pTup (.cons (.v 2) (.cons (.prim pMul (.cons (.prim pFdv (.cons (.v 3) (.cons (.v 1) .nil))) (.cons (.v 1) .nil))) (.cons (.prim pMul (.cons (.prim pFdv (.cons (.v 4) (.cons (.v 1) .nil))) (.cons (.v 1) .nil))) .nil))))) .nil)) ρ = .ok (trk (T.map (snapP s))) := by
  subst e
  refine (e1 (ecomp T ptD (fun p => ptD (snapP s p)) (iseq rfl rfl) (by omega) (fun p _ => ⟨_, rfl, en (lc rfl (lc (emul (efdv rfl rfl (div_small (by omega) (by omega))) rfl (mul_smallR (by omega))) (lc (emul (efdv rfl rfl (div_small (by omega) (by omega))) rfl (mul_smallR (by omega))) l0))) rfl⟩)) rfl).trans ?_
  show Res.ok (D.tup _) = Res.ok (D.tup _)
  rw [List.map_map]; rfl
theorem snapped_ok {T : List P3} {s : Int} (G : Good T) (h1 : 1 ≤ s) (h2 : s ≤ 99) (G' : Good (T.map (snapP s))) : f_snapped [trk T, .int s] = .ok (trk (T.map (snapP s))) := by
  refine rcall rfl (rexpr (s := [.ro (trk T), .ro (.int s), .no, .no, .no]) (ec (lc rfl l0) (look_ok G)) (rexpr (s := [.ro (trk T), .ro (.int s), .no, .no, .no]) (ec (lc rfl l0) (size_ok h1 h2)) ?_))
  exact rret (s := [.ro (trk T), .ro (.int s), .no, .no, .no]) (ec (lc (snap_list G.le h1 h2 rfl) l0) (looked_ok G'))
theorem looked_noT {d : D} (h : d.pl = true) (ht : trackB d = false) : f_looked [d] = .exc "NoTrack" := callE rfl (rexc (ec (lc rfl l0) (look_no h ht)))
theorem snapped_off {T : List P3} {s : Int} (G : Good T) (h1 : 1 ≤ s) (h2 : s ≤ 99) (hb : trackB (trk (T.map (snapP s))) = false) : f_snapped [trk T, .int s] = .exc "NoTrack" := by
  refine callE rfl (rexpr (s := [.ro (trk T), .ro (.int s), .no, .no, .no]) (ec (lc rfl l0) (look_ok G)) (rexpr (s := [.ro (trk T), .ro (.int s), .no, .no, .no]) (ec (lc rfl l0) (size_ok h1 h2)) ?_))
  exact x_ret (s := [.ro (trk T), .ro (.int s), .no, .no, .no]) (ec (lc (snap_list G.le h1 h2 rfl) l0) (looked_noT (sh_trk _).pl hb))
section
variable {T : List P3} {d : D} (G : Good T) (h : d.pl = true) (hw : wholeB d 1 99 = false)
include G h hw
theorem cells_no : f_cells [trk T, d] = .exc "NoNumber" := callE rfl (rexpr (s := [.ro (trk T), .ro d, .no, .no, .no, .no]) (ec (lc rfl l0) (look_ok G)) (rexc (s := [.ro (trk T), .ro d, .no, .no, .no, .no]) (ec (lc rfl l0) (size_no h hw))))
theorem often_no : f_how_often [trk T, d] = .exc "NoNumber" := callE rfl (rexpr (s := [.ro (trk T), .ro d, .no, .no, .no]) (ec (lc rfl l0) (look_ok G)) (rexc (s := [.ro (trk T), .ro d, .no, .no, .no]) (ec (lc rfl l0) (size_no h hw))))
theorem snapped_no : f_snapped [trk T, d] = .exc "NoNumber" := callE rfl (rexpr (s := [.ro (trk T), .ro d, .no, .no, .no]) (ec (lc rfl l0) (look_ok G)) (rexc (s := [.ro (trk T), .ro d, .no, .no, .no]) (ec (lc rfl l0) (size_no h hw))))
end
section
variable {d x : D} (h : d.pl = true) (ht : trackB d = false)
include h ht
theorem no_cells : f_cells [d, x] = .exc "NoTrack" := callE rfl (rexc (ec (lc rfl l0) (look_no h ht)))
theorem no_often : f_how_often [d, x] = .exc "NoTrack" := callE rfl (rexc (ec (lc rfl l0) (look_no h ht)))
theorem no_snapped : f_snapped [d, x] = .exc "NoTrack" := callE rfl (rexc (ec (lc rfl l0) (look_no h ht)))
end
/-! plain -/
theorem sum_one {S : List P2} {a : P2} (nd : S.Nodup) (h : a ∈ S) : (S.map fun c => if a = c then (1 : Int) else 0).sum = 1 := by
  induction S with
  | nil => cases h
  | cons b S ih =>
    rw [List.map_cons, List.sum_cons]
    by_cases e : a = b
    · subst e
      have z : (S.map fun c => if a = c then (1 : Int) else 0).sum = 0 := by
        have na : a ∉ S := (List.nodup_cons.mp nd).1
        clear ih h nd
        induction S with
        | nil => rfl
        | cons d S ih =>
          rw [List.map_cons, List.sum_cons, if_neg (fun e => na (by rw [e]; exact List.mem_cons_self)), ih (fun h => na (List.mem_cons_of_mem _ h))]; rfl
      rw [if_pos rfl, z]; rfl
    · rw [if_neg e, ih (List.nodup_cons.mp nd).2 ((List.mem_cons.mp h).resolve_left e)]; rfl
theorem sum_add {α : Type} (f g : α → Int) : ∀ l : List α, (l.map fun c => f c + g c).sum = (l.map f).sum + (l.map g).sum
  | [] => rfl
  | a :: l => by
    rw [List.map_cons, List.map_cons, List.map_cons, List.sum_cons, List.sum_cons, List.sum_cons, sum_add f g l]; omega
theorem sum_count {S : List P2} (nd : S.Nodup) : ∀ (L : List P2), (∀ x ∈ L, x ∈ S) → (S.map fun c => ((L.count c : Nat) : Int)).sum = (L.length : Int)
  | [], _ => by
    have : ∀ S : List P2, (S.map fun c => ((([] : List P2).count c : Nat) : Int)).sum = 0 := fun S => by
      induction S with
      | nil => rfl
      | cons a S ih => rw [List.map_cons, List.sum_cons, ih]; rfl
    exact this S
  | a :: L, h => by
    have ih := sum_count nd L fun x hx => h x (List.mem_cons_of_mem _ hx)
    have e : (S.map fun c => (((a :: L).count c : Nat) : Int)) = S.map fun c => ((L.count c : Nat) : Int) + (if a = c then (1 : Int) else 0) := List.map_congr_left fun c _ => by
      rw [List.count_cons]
      by_cases e : a = c
      · subst e; simp
      · rw [if_neg e, if_neg (by simpa using e)]; simp
    rw [e, sum_add, ih, sum_one nd (h a List.mem_cons_self), List.length_cons]; omega
theorem ss_nodup (L : List P2) : (ssP L).Nodup := List.Pairwise.imp (S := fun a b => a ≠ b) (fun {a b} k e => ltP_irr a (by rw [← e] at k; exact k)) (ssP_pw L)
theorem ddA_mem : ∀ (r : List P2) (a x : P2), x ∈ a :: ddA a r ↔ x ∈ a :: r
  | [], a, x => Iff.rfl
  | b :: r, a, x => by
    have ih := ddA_mem r b x
    show x ∈ a :: (if b = a then ddA b r else b :: ddA b r) ↔ _
    by_cases e : b = a
    · subst e
      rw [if_pos rfl, ih]; simp
    · rw [if_neg e, List.mem_cons, ih]; simp
theorem dd_mem (l : List P2) (x : P2) : x ∈ dd l ↔ x ∈ l := by
  cases l with
  | nil => exact Iff.rfl
  | cons a r => exact ddA_mem r a x
theorem ddA_len : ∀ (r : List P2) (a : P2), (ddA a r).length ≤ r.length
  | [], _ => Nat.le_refl _
  | b :: r, a => by
    show (if b = a then ddA b r else b :: ddA b r).length ≤ r.length + 1
    have := ddA_len r b
    split
    · omega
    · rw [List.length_cons]; omega
theorem dd_len (l : List P2) : (dd l).length ≤ l.length := by
  cases l with
  | nil => exact Nat.le_refl _
  | cons a r => exact Nat.succ_le_succ (ddA_len r a)
theorem ss_dd (l : List P2) : ssP (dd l) = ssP l := pw_ext (ssP_pw _) (ssP_pw _) fun x => by rw [ssP_mem, ssP_mem, dd_mem]
theorem cell_snap {s : Int} (h : 1 ≤ s) (p : P3) : cellP s (snapP s p) = cellP s p := by
  unfold cellP snapP
  dsimp only
  rw [Int.mul_ediv_cancel _ (by omega), Int.mul_ediv_cancel _ (by omega)]
end PL

namespace PL
open PySem PySem.Spec PyProof.Rows L2
/-! ## dicts: k in d, d[k], d.get(k, x); {} and d[k] = v of a dict that is the frame's own -/
def keyD : D → Option Key
  | .int n => some (.inl n)
  | .str x => some (.inr x)
  | _ => none
def keyDs : List D → Option (List Key)
  | [] => some []
  | d :: r => (keyD d).bind fun k => (keyDs r).map (k :: ·)
def keyT : D → Option (List Key)
  | .tup l => keyDs l
  | _ => none
def lookG {κ : Type} [DecidableEq κ] : List κ → List D → κ → Option D
  | k :: ks, d :: ds, q => if k = q then some d else lookG ks ds q
  | _, _, _ => none
/-- what a dict has at a key -/
def getD : D → D → Option (Option D)
  | .dct ks ds, k => (keyD k).map fun q => lookG ks ds q
  | .dcT ks ds, k => (keyT k).map fun q => lookG ks ds q
  | _, _ => none
theorem keyD_rep {K : PySem.W.Frag} {M : Mk} {H : Hp} {d : D} {v : V} {k : Key} (h : keyD d = some k) (r : Rep K M H v d) : v = kV k := by
  cases d with
  | int n => cases h; cases r; rfl
  | str x => cases h; cases r; rfl
  | _ => cases h
theorem keyDs_rep {K : PySem.W.Frag} {M : Mk} {H : Hp} : ∀ {ds : List D} {vs : List V} {ks : List Key}, keyDs ds = some ks → RepAll K M H vs ds → vs = ks.map kV
  | [], _, _, h, r => by cases h; cases r; rfl
  | d :: ds, _, ks, h, r => by
    cases r with
    | cons r1 rs =>
      have h' : (keyD d).bind (fun k => (keyDs ds).map (k :: ·)) = some ks := h
      cases e : keyD d with
      | none => rw [e] at h'; cases h'
      | some k =>
        rw [e] at h'
        have h2 : (keyDs ds).map (k :: ·) = some ks := h'
        cases e2 : keyDs ds with
        | none => rw [e2] at h2; cases h2
        | some ks' =>
          rw [e2] at h2
          cases h2
          rw [keyD_rep e r1, keyDs_rep e2 rs]; rfl
theorem keyT_rep {K : PySem.W.Frag} {M : Mk} {H : Hp} {d : D} {v : V} {k : List Key} (h : keyT d = some k) (r : Rep K M H v d) : ∃ b, v = .ref b ∧ H b = some (.tup (k.map kV)) := by
  cases d with
  | tup l =>
    cases r with
    | @tup a xs _ s n ra =>
      rw [keyDs_rep h ra] at s
      exact ⟨a, rfl, s⟩
  | _ => cases h
theorem lookG_rep {κ : Type} [DecidableEq κ] {K : PySem.W.Frag} {M : Mk} {H : Hp} {q : κ} : ∀ {ks : List κ} {vs : List V} {ds : List D}, RepAll K M H vs ds → ks.length = vs.length →
    (lookG ks ds q = none ∧ valV (ks.zip vs) q = none) ∨ ∃ v d, lookG ks ds q = some d ∧ valV (ks.zip vs) q = some v ∧ Rep K M H v d
  | [], [], [], _, _ => .inl ⟨rfl, rfl⟩
  | [], _ :: _, _, _, h => by cases h
  | _ :: _, [], _, _, h => by cases h
  | k :: ks, v :: vs, d :: ds, .cons r rs, h => by
    by_cases e : k = q
    · exact .inr ⟨v, d, by unfold lookG; rw [if_pos e], valV_pos (p := (k, v)) e, r⟩
    · have e1 : lookG (k :: ks) (d :: ds) q = lookG ks ds q := if_neg e
      have e2 : valV ((k :: ks).zip (v :: vs)) q = valV (ks.zip vs) q := valV_neg (p := (k, v)) e
      rw [e1, e2]
      exact lookG_rep rs (Nat.succ.inj h)
/-- the dict's answer in the heap -/
theorem getD_rep {K : PySem.W.Frag} {M : Mk} {H : Hp} {d k : D} {x y : V} {o : Option D} (h : getD d k = some o) (r1 : Rep K M H x d) (r2 : Rep K M H y k) : ∃ a r, x = .ref a ∧ IsD H a ∧ DGet H a y r ∧ r.isSome = o.isSome ∧ ∀ e, o = some e → ∃ v, r = some v ∧ Rep K M H v e := by
  cases d with
  | dct ks ds =>
    have h' : (keyD k).map (fun q => lookG ks ds q) = some o := h
    cases e : keyD k with
    | none => rw [e] at h'; cases h'
    | some q =>
      rw [e] at h'
      have h2 : lookG ks ds q = o := Option.some.inj h'
      subst h2
      cases r1 with
      | @dct a _ vs _ hh hkl hm ra =>
        rw [keyD_rep e r2]
        refine ⟨a, _, rfl, .inl ⟨_, .inl hh⟩, DGet.k hh, ?_, fun e' he => ?_⟩
        · rcases lookG_rep (q := q) ra hkl with ⟨g1, g2⟩ | ⟨v, d', g1, g2, g3⟩
          · rw [g1, g2]; rfl
          · rw [g1, g2]; rfl
        · rcases lookG_rep (q := q) ra hkl with ⟨g1, g2⟩ | ⟨v, d', g1, g2, g3⟩
          · rw [g1] at he; cases he
          · rw [g1] at he
            cases he
            exact ⟨v, g2, g3⟩
  | dcT ks ds =>
    have h' : (keyT k).map (fun q => lookG ks ds q) = some o := h
    cases e : keyT k with
    | none => rw [e] at h'; cases h'
    | some q =>
      rw [e] at h'
      have h2 : lookG ks ds q = o := Option.some.inj h'
      subst h2
      cases r1 with
      | @dcT a _ vs _ hh hkl hm ra =>
        obtain ⟨b, rfl, hb⟩ := keyT_rep e r2
        refine ⟨a, _, rfl, .inr ⟨_, .inl hh⟩, DGet.t hh hb, ?_, fun e' he => ?_⟩
        · rcases lookG_rep (q := q) ra hkl with ⟨g1, g2⟩ | ⟨v, d', g1, g2, g3⟩
          · rw [g1, g2]; rfl
          · rw [g1, g2]; rfl
        · rcases lookG_rep (q := q) ra hkl with ⟨g1, g2⟩ | ⟨v, d', g1, g2, g3⟩
          · rw [g1] at he; cases he
          · rw [g1] at he
            cases he
            exact ⟨v, g2, g3⟩
  | _ => cases h
/-! k in d -/
def opInD (f : Bool → Bool) (k d : D) : Option D := (getD d k).map fun o => .bl (f o.isSome)
theorem opT_inD {X : Cx} (hu : X.A.units + 1 < cLine) : OpT X (compareOp .In) (opInD id) := by
  refine ⟨fun y x H Q => ∃ a o, x = .ref a ∧ DGet H a y o ∧ Q (.bl o.isSome) H, ?_, fun M H x y d1 d2 d Q dm r1 r2 e k => ?_⟩
  · intro pins s σ H y x v u Q I ry rx h
    obtain ⟨a, o, rfl, g, q⟩ := h
    cases rx
    exact d_in hu I g ry fun s' I' => ⟨.bl o.isSome, H, I', rfl, q⟩
  · cases e1 : getD d2 d1 with
    | none => unfold opInD at e; rw [e1] at e; cases e
    | some o =>
      unfold opInD at e
      rw [e1] at e
      cases e
      obtain ⟨a, r, e2, _, g, is, _⟩ := getD_rep e1 r2 r1
      refine ⟨a, r, e2, g, ?_⟩
      rw [is]
      exact k _ H (Same.refl H) (.bl _)
theorem opT_niD {X : Cx} (hu : X.A.units + 1 < cLine) : OpT X (compareOp .NotIn) (opInD not) := by
  refine ⟨fun y x H Q => ∃ a o, x = .ref a ∧ DGet H a y o ∧ Q (.bl (!o.isSome)) H, ?_, fun M H x y d1 d2 d Q dm r1 r2 e k => ?_⟩
  · intro pins s σ H y x v u Q I ry rx h
    obtain ⟨a, o, rfl, g, q⟩ := h
    cases rx
    exact d_notIn hu I g ry fun s' I' => ⟨.bl (!o.isSome), H, I', rfl, q⟩
  · cases e1 : getD d2 d1 with
    | none => unfold opInD at e; rw [e1] at e; cases e
    | some o =>
      unfold opInD at e
      rw [e1] at e
      cases e
      obtain ⟨a, r, e2, _, g, is, _⟩ := getD_rep e1 r2 r1
      refine ⟨a, r, e2, g, ?_⟩
      rw [is]
      exact k _ H (Same.refl H) (.bl _)
def pInD : Prim := { syn := cmpSyn isIn, sem := two (opInD id) }
def pNiD : Prim := { syn := cmpSyn isNi, sem := two (opInD not) }
theorem inDG : PrimG pInD := prim_cmp (op := .In) (fun o h => by cases o <;> first | rfl | cases h) fun X k W xo => opT_inD (by have := xo.room.un; omega)
theorem niDG : PrimG pNiD := prim_cmp (op := .NotIn) (fun o h => by cases o <;> first | rfl | cases h) fun X k W xo => opT_niD (by have := xo.room.un; omega)
/-! d[k] -/
def subSyn : Scope → Expr → Option (List Expr) := fun _ e => match e with
  | .Subscript o i _ => if notSlice i then some [o, i] else none
  | _ => none
def opIxD (d k : D) : Option D := (getD d k).bind fun o => o
def pIxD : Prim := { syn := subSyn, sem := two opIxD }
theorem noSl_of {i : Expr} (h : notSlice i = true) : NoSl i := by
  intro ov iv
  cases i <;> first | rfl | cases h
theorem ixDG : PrimG pIxD := by
  intro X k W xo
  have main : ∀ {e : Expr} {es : List Expr} {ms : List (En → Res D)}, subSyn X.env.scope e = some es → PEs X W es ms → ∃ o i pos, e = .Subscript o i pos ∧ PE X e (tS X W fun ρ => (seqM ms ρ).bind fun ds => ofO (two opIxD ds)) := by
    intro e es ms h hp
    unfold subSyn at h
    split at h
    · rename_i o i pos
      split at h
      · rename_i hs
        cases h
        obtain ⟨ma, mb, rfl, h1, h2, n1, n2⟩ := two_pes hp
        refine ⟨o, i, pos, rfl, pe_weak (pe_dget (by have := xo.room.un; omega) h1 h2 (noSl_of hs)) fun σ H Q q => ?_⟩
        refine w_2 (r := fun x y H Q => ∃ a v, x = .ref a ∧ DGet H a y (some v) ∧ Q v H) (fun M H x y d1 d2 d dm r1 r2 e kk => ?_) q
        cases e1 : getD d1 d2 with
        | none =>
          have e' : (getD d1 d2).bind (fun o => o) = some d := e
          rw [e1] at e'; cases e'
        | some o =>
          have e' : (getD d1 d2).bind (fun o => o) = some d := e
          rw [e1] at e'
          have e'' : o = some d := e'
          obtain ⟨a, r, e2, _, g, is, f⟩ := getD_rep e1 r1 r2
          obtain ⟨v, rfl, rv⟩ := f d e''
          exact ⟨a, v, e2, g, kk _ H (Same.refl H) rv⟩
      · cases h
    · cases h
  refine ⟨fun h hp => (main h hp).choose_spec.choose_spec.choose_spec.2, (fun z => nomatch z), fun {e es ms} h hp => ?_⟩
  obtain ⟨a, b, pos, rfl, pe⟩ := main h hp
  exact pt_of_pe pe (fun _ => rfl)
end PL

namespace PL
open PySem PySem.Spec PyProof.Rows L2
/-! ## f() -/
def call0Chk (f : Str) (sc : Scope) : Expr → Bool
  | .Call (.Name x _) [] [] _ => decide (x = f) && glB sc x && okName x
  | _ => false
def aCall0 (f : Str) (sem : List D → Res D) : Atom where
  chk := fun _ sc e => call0Chk f sc e
  sem := fun _ => sem []
theorem call0G {P : Str → (List D → Res D) → Prop} {C : Str → Cn → Prop} {f : Str} {sem : List D → Res D} (g : P f sem) : AtomG P C (aCall0 f sem) := by
  intro X k W xo eP eC e hc
  subst eP eC
  have hc' : call0Chk f X.env.scope e = true := hc
  unfold call0Chk at hc'
  split at hc'
  · rename_i x p pos
    rw [Bool.and_eq_true, Bool.and_eq_true, decide_eq_true_eq] at hc'
    obtain ⟨⟨rfl, h2⟩, h3⟩ := hc'
    obtain ⟨fa, fd, ps, F, gm, kp, bd, gl⟩ := g
    have pe0 : PE X (.Call (.Name x p) [] [] pos) (fun σ H Q => spD X.K X.mg ps.length sem [] H Q (WE W σ)) := by
      refine ⟨fun pins s σ H Q I h => wpAny_Call_Name_kw (ld_glob I (gl_of h2) gm ?_ (okName_of h3).1)⟩
      exact PySem.W.callWith_K0 I.kIn kp (run_fnS (us := []) F xo.room bd (passAt xo.tk σ) I .nil h)
    have pe : PE X (.Call (.Name x p) [] [] pos) (tS X W (aCall0 x sem).sem) := pe_weak pe0 fun σ H Q q => by
      obtain ⟨M, ρ, dm, re, o⟩ := q
      have o' : OutE X W M σ H Q (sem []) := o
      have ln : sem [] ≠ .stuck := fun z => by rw [z] at o'; exact o'
      refine ⟨gl [] ln, re.tab, M, [], dm, .nil, ?_⟩
      cases e2 : sem [] with
      | ok d => rw [e2] at o'; exact o'
      | exc c => rw [e2] at o'; exact o'
      | stuck => rw [e2] at o'; exact o'
    exact ⟨pe, pt_of_pe pe fun _ => rfl⟩
  · cases hc'
/-! ## dict(xs), xs a list of pairs; d.get(k, x) -/
def pairsKV : List D → Option (List (Key × D))
  | [] => some []
  | .tup [k, v] :: r => (keyD k).bind fun q => (pairsKV r).map ((q, v) :: ·)
  | _ => none
/-- in its place, or at the end -/
def putG {κ : Type} [DecidableEq κ] : List κ → List D → κ → D → List κ × List D
  | [], _, q, v => ([q], [v])
  | k :: ks, ds, q, v => if k = q then (k :: ks, v :: ds.drop 1) else ((k :: (putG ks (ds.drop 1) q v).1), (ds.take 1 ++ (putG ks (ds.drop 1) q v).2))
def mergeG (ks : List Key) (ds : List D) : List (Key × D) → List Key × List D
  | [] => (ks, ds)
  | (q, v) :: r => mergeG (putG ks ds q v).1 (putG ks ds q v).2 r
def opDictOf : D → Option D
  | .lst l => (pairsKV l).map fun kvs => .dct (mergeG [] [] kvs).1 (mergeG [] [] kvs).2
  | _ => none
theorem putK_cons_pos {κ : Type} [DecidableEq κ] {k q : κ} {x v : V} {r : List (κ × V)} (e : k = q) (nd : ∀ p ∈ r, p.1 ≠ q) : putK ((k, x) :: r) q v = (k, v) :: r := by
  unfold putK
  have a : ((k, x) :: r).any (fun kv => decide (kv.1 = q)) = true := by rw [List.any_cons, decide_eq_true e]; rfl
  rw [if_pos a, List.map_cons, if_pos e]
  congr 1
  have : ∀ l : List (κ × V), (∀ p ∈ l, p.1 ≠ q) → l.map (fun kv => if kv.1 = q then (kv.1, v) else kv) = l := fun l => by
    induction l with
    | nil => intro _; rfl
    | cons p l ih => intro h; rw [List.map_cons, if_neg (h p List.mem_cons_self), ih fun z hz => h z (List.mem_cons_of_mem _ hz)]
  exact this r nd
theorem putK_cons_neg {κ : Type} [DecidableEq κ] {k q : κ} {x v : V} {r : List (κ × V)} (e : ¬ k = q) : putK ((k, x) :: r) q v = (k, x) :: putK r q v := by
  unfold putK
  rw [List.any_cons, decide_eq_false e, Bool.false_or]
  by_cases h : (r.any fun kv => decide (kv.1 = q)) = true
  · rw [if_pos h, if_pos h, List.map_cons, if_neg e]
  · rw [if_neg h, if_neg h]; rfl
theorem putG_rep {κ : Type} [DecidableEq κ] {K : PySem.W.Frag} {M : Mk} {H : Hp} {q : κ} {v : V} {d : D} (rv : Rep K M H v d) : ∀ {ks : List κ} {vs : List V} {ds : List D}, ks.Nodup → RepAll K M H vs ds → ks.length = vs.length →
    ∃ us, putK (ks.zip vs) q v = (putG ks ds q d).1.zip us ∧ RepAll K M H us (putG ks ds q d).2 ∧ (putG ks ds q d).1.length = us.length ∧ (putG ks ds q d).1.Nodup ∧ (∀ x ∈ (putG ks ds q d).1, x = q ∨ x ∈ ks)
  | [], [], [], _, _, _ => ⟨[v], rfl, .cons rv .nil, rfl, List.nodup_cons.mpr ⟨List.not_mem_nil, .nil⟩, fun x hx => .inl (List.mem_singleton.mp hx)⟩
  | [], _ :: _, _, _, _, h => by cases h
  | _ :: _, [], _, _, _, h => by cases h
  | k :: ks, u :: vs, e :: ds, nd, .cons r rs, h => by
    obtain ⟨n1, n2⟩ := List.nodup_cons.mp nd
    by_cases ek : k = q
    · have eg : putG (k :: ks) (e :: ds) q d = (k :: ks, d :: ds) := if_pos ek
      rw [eg]
      refine ⟨v :: vs, ?_, .cons rv rs, h, nd, fun x hx => .inr hx⟩
      rw [List.zip_cons_cons, List.zip_cons_cons]
      refine putK_cons_pos ek fun p hp e' => n1 ?_
      rw [ek, ← e']
      exact (List.of_mem_zip hp).1
    · have eg : putG (k :: ks) (e :: ds) q d = (k :: (putG ks ds q d).1, e :: (putG ks ds q d).2) := if_neg ek
      obtain ⟨us, h1, h2, h3, h4, h5⟩ := putG_rep (q := q) (d := d) rv n2 rs (Nat.succ.inj h)
      rw [eg]
      refine ⟨u :: us, ?_, .cons r h2, by rw [List.length_cons, List.length_cons, h3], List.nodup_cons.mpr ⟨fun z => (h5 k z).elim ek n1, h4⟩, fun x hx => ?_⟩
      · rw [List.zip_cons_cons, List.zip_cons_cons, putK_cons_neg ek, h1]
      · rcases List.mem_cons.mp hx with rfl | hx
        · exact .inr List.mem_cons_self
        · exact (h5 x hx).imp_right (List.mem_cons_of_mem _)
theorem mergeG_rep {K : PySem.W.Frag} {M : Mk} {H : Hp} : ∀ {kvs : List (Key × D)} {kv2 : List (Key × V)} {ks : List Key} {vs : List V} {ds : List D}, Paired (fun (a : Key × V) (b : Key × D) => a.1 = b.1 ∧ Rep K M H a.2 b.2) kv2 kvs → ks.Nodup → RepAll K M H vs ds → ks.length = vs.length →
    ∃ us, mergeK (ks.zip vs) kv2 = (mergeG ks ds kvs).1.zip us ∧ RepAll K M H us (mergeG ks ds kvs).2 ∧ (mergeG ks ds kvs).1.length = us.length ∧ (mergeG ks ds kvs).1.Nodup
  | _, _, ks, vs, ds, .nil, nd, rs, h => ⟨vs, rfl, rs, h, nd⟩
  | _, _, ks, vs, ds, @Paired.cons _ _ _ (k, v) (q, d) l1 l2 p t, nd, rs, h => by
    obtain ⟨e, rv⟩ := p
    dsimp only at e rv
    subst e
    obtain ⟨us, h1, h2, h3, h4, _⟩ := putG_rep (q := k) (d := d) rv nd rs h
    obtain ⟨ws, g1, g2, g3, g4⟩ := mergeG_rep t h4 h2 h3
    refine ⟨ws, ?_, g2, g3, g4⟩
    show mergeK (putK (ks.zip vs) k v) l1 = _
    rw [h1]; exact g1
theorem pairsKV_rep {K : PySem.W.Frag} {M : Mk} {H : Hp} : ∀ {l : List D} {kvs : List (Key × D)} {xs : List V}, pairsKV l = some kvs → RepAll K M H xs l → ∃ (ps : List Addr) (kv2 : List (Key × V)), xs = ps.map V.ref ∧ Paired (fun p kv => SqT K H p [kV kv.1, kv.2]) ps kv2 ∧ Paired (fun (a : Key × V) (b : Key × D) => a.1 = b.1 ∧ Rep K M H a.2 b.2) kv2 kvs
  | [], _, _, h, r => by cases h; cases r; exact ⟨[], [], rfl, .nil, .nil⟩
  | d :: l, kvs, _, h, r => by
    cases r with
    | cons r1 rs =>
      match d, h with
      | .tup [k, v], h =>
        have h' : (keyD k).bind (fun q => (pairsKV l).map ((q, v) :: ·)) = some kvs := h
        cases e : keyD k with
        | none => rw [e] at h'; cases h'
        | some q =>
          rw [e] at h'
          have h2 : (pairsKV l).map ((q, v) :: ·) = some kvs := h'
          cases e2 : pairsKV l with
          | none => rw [e2] at h2; cases h2
          | some kvs' =>
            rw [e2] at h2
            cases h2
            obtain ⟨ps, kv2, rfl, p1, p2⟩ := pairsKV_rep e2 rs
            cases r1 with
            | @tup a ys _ s n ra =>
              cases ra with
              | @cons y1 _ _ _ ra1 ra2 =>
                cases ra2 with
                | @cons y2 _ _ _ rb1 rb2 =>
                  cases rb2
                  rw [keyD_rep e ra1] at s
                  exact ⟨a :: ps, (q, y2) :: kv2, rfl, .cons (SqT.of s) p1, .cons ⟨rfl, rb1⟩ p2⟩
      | .tup [], h => cases h
      | .tup [_], h => cases h
      | .tup (_ :: _ :: _ :: _), h => cases h
      | .non, h => cases h
      | .bl _, h => cases h
      | .int _, h => cases h
      | .str _, h => cases h
      | .lst _, h => cases h
      | .scr _, h => cases h
      | .dct _ _, h => cases h
      | .dcT _ _, h => cases h
      | .exc _, h => cases h
def pDictOf : Prim := { syn := callSyn "dict", sem := one1 opDictOf }
theorem dictOfG : PrimG pDictOf := prim_ty (T := "dict") (by decide) (by decide +kernel) (by decide) (by decide) fun X k W xo => by
  refine ⟨_, call_dictP xo.calm, fun M H xs ds d Q dm rs e k => ?_⟩
  match ds, rs, e with
  | [x], .cons r1 .nil, e =>
    have e' : opDictOf x = some d := e
    cases x with
    | lst l =>
      have e2 : (pairsKV l).map (fun kvs => D.dct (mergeG [] [] kvs).1 (mergeG [] [] kvs).2) = some d := e'
      cases e3 : pairsKV l with
      | none => rw [e3] at e2; cases e2
      | some kvs =>
        rw [e3] at e2
        cases e2
        cases r1 with
        | @lst a vs _ s n ra =>
          obtain ⟨ps, kv2, rfl, p1, p2⟩ := pairsKV_rep e3 ra
          refine ⟨a, ps, kv2, rfl, SqL.of s, p1, fun p hn => ?_⟩
          obtain ⟨us, h1, h2, h3, _⟩ := mergeG_rep (ks := []) (vs := []) (ds := []) p2 .nil .nil rfl
          have h1' : mergeK [] kv2 = _ := h1
          rw [h1']
          exact k _ _ (same_new hn) (.dct upd_same h3 (dm.fresh hn) (h2.same (same_new hn)))
    | _ => cases e'
/-- a receiver that is read as it stands -/
def noBase : Expr → Bool
  | .Name _ _ => true
  | .Subscript _ _ _ => true
  | _ => false
theorem noBase_of {X : Cx} {o : Expr} {m : Str} (h : noBase o = true) : attributeBase o m X.env (eval o X.env) = eval o X.env := by
  cases o <;> first | rfl | cases h
def isDct : D → Bool
  | .dct _ _ => true
  | .dcT _ _ => true
  | _ => false
def getDChk (o e f : E) (N : List Str) (sc : Scope) : Expr → Bool
  | .Call (.Attribute ov m ap) [a, b] [] cp => decide (m = "get") && (ap.endLine == cp.line) && chk N sc o ov && chk N sc e a && chk N sc f b && notStar a && notStar b && noBase ov
  | _ => false
def aGetD (o e f : E) : Atom where
  chk := getDChk o e f
  sem := fun ρ => (ev o ρ).bind fun d => if isDct d then (ev e ρ).bind fun k => (ev f ρ).bind fun z => ofO ((getD d k).map fun o => o.getD z) else .stuck
theorem isD_rep {K : PySem.W.Frag} {M : Mk} {H : Hp} {d : D} {v : V} (h : isDct d = true) (r : Rep K M H v d) : ∃ a, v = .ref a ∧ IsD H a := by
  cases d with
  | dct ks l => cases r with | dct s _ _ _ => exact ⟨_, rfl, .inl ⟨_, .inl s⟩⟩
  | dcT ks l => cases r with | dcT s _ _ _ => exact ⟨_, rfl, .inr ⟨_, .inl s⟩⟩
  | _ => cases h
theorem getDA {P : Str → (List D → Res D) → Prop} {C : Str → Cn → Prop} {o e f : E} (go : good P C o) (ge : good P C e) (gf : good P C f) : AtomG P C (aGetD o e f) := by
  intro X k W xo eP eC x hc
  subst eP eC
  have hc' : getDChk o e f X.N X.env.scope x = true := hc
  unfold getDChk at hc'
  split at hc'
  · rename_i ov m ap a b cp
    simp only [Bool.and_eq_true, decide_eq_true_eq] at hc'
    obtain ⟨⟨⟨⟨⟨⟨⟨rfl, hl⟩, h1⟩, h2⟩, h3⟩, n1⟩, n2⟩, nb⟩ := hc'
    have s1 := snd_e o xo go ov h1
    have s2 := snd_e e xo ge a h2
    have s3 := snd_e f xo gf b h3
    have st : starEach [a, b] X.env = [(false, eval a X.env), (false, eval b X.env)] := by
      rw [star_of n1 [b] X.env, star_of n2 [] X.env]; rfl
    have bt : backTo cp (starEach [a, b] X.env) = [(false, eval a X.env), (false, eval b X.env)] := by rw [st]; rfl
    have pe : PE X (.Call (.Attribute ov "get" ap) [a, b] [] cp) (tS X W (aGetD o e f).sem) := by
      refine pe_weak (pe_dget2 (by have := xo.room.un; omega) s1.pe s2.pe s3.pe ⟨noBase_of nb, by rw [bt]; rfl, hl, bt⟩) fun σ H Q q => ?_
      obtain ⟨M, ρ, dm, re, ou⟩ := q
      have o0 : OutE X W M σ H Q ((ev o ρ).bind fun d => if isDct d then (ev e ρ).bind fun k => (ev f ρ).bind fun z => ofO ((getD d k).map fun o => o.getD z) else .stuck) := ou
      refine ⟨M, ρ, dm, re, ?_⟩
      cases e1 : ev o ρ with
      | exc c => rw [e1] at o0; exact o0
      | stuck => rw [e1] at o0; exact o0
      | ok d1 =>
        rw [e1] at o0
        have o1 : OutE X W M σ H Q (if isDct d1 then (ev e ρ).bind fun k => (ev f ρ).bind fun z => ofO ((getD d1 k).map fun o => o.getD z) else .stuck) := o0
        by_cases hd : isDct d1 = true
        · rw [if_pos hd] at o1
          intro v1 H1 sm1 r1
          obtain ⟨ad, rfl, isd⟩ := isD_rep hd r1
          refine ⟨ad, rfl, isd, M, ρ, dm.mono sm1, re.same sm1, ?_⟩
          cases e2 : ev e ρ with
          | exc c => rw [e2] at o1; exact fun H' s' => o1 H' (sm1.trans s')
          | stuck => rw [e2] at o1; exact o1
          | ok d2 =>
            rw [e2] at o1
            have o2 : OutE X W M σ H Q ((ev f ρ).bind fun z => ofO ((getD d1 d2).map fun o => o.getD z)) := o1
            intro v2 H2 sm2 r2
            refine ⟨M, ρ, (dm.mono sm1).mono sm2, (re.same sm1).same sm2, ?_⟩
            cases e3 : ev f ρ with
            | exc c => rw [e3] at o2; exact fun H' s' => o2 H' ((sm1.trans sm2).trans s')
            | stuck => rw [e3] at o2; exact o2
            | ok d3 =>
              rw [e3] at o2
              have o3 : OutE X W M σ H Q (ofO ((getD d1 d2).map fun o => o.getD d3)) := o2
              intro v3 H3 sm3 r3
              cases e4 : getD d1 d2 with
              | none => rw [e4] at o3; exact o3.elim
              | some ro =>
                rw [e4] at o3
                obtain ⟨a', r, ea, _, g, is, fn⟩ := getD_rep e4 ((r1.same sm2).same sm3) (r2.same sm3)
                cases ea
                refine ⟨r, g, ?_⟩
                have o4 : ∀ v H', Same X.K H H' → Rep X.K M H' v (ro.getD d3) → Q v H' := o3
                cases ro with
                | none =>
                  cases r with
                  | none => exact o4 _ _ ((sm1.trans sm2).trans sm3) r3
                  | some _ => cases is
                | some d4 =>
                  obtain ⟨v4, rfl, r4⟩ := fn d4 rfl
                  exact o4 _ _ ((sm1.trans sm2).trans sm3) r4
        · rw [if_neg hd] at o1; exact o1.elim
    exact ⟨pe, pt_of_pe pe fun _ => rfl⟩
  · cases hc'
end PL

namespace PL
open PySem PySem.Spec PyProof.Rows L2
/-! ## x = {}; x[k] = v, where x is the frame's own dict -/
def newD (t : Bool) : D := if t then .dcT [] [] else .dct [] []
def aNewD (t : Bool) (i : Nat) : AtomS where
  chk := fun N sc st => oB (asName st) fun u => chkNm N sc i (.Name u.1 u.2.1) && (match u.2.2 with | .Dict [] [] _ => true | _ => false)
  run := fun s => .nx (s.set i (.odt (newD t)))
def putDD : D → D → D → Option D
  | .dct ks ds, k, v => (keyD k).bind fun q => if ks.Nodup ∧ ds.length < sizeD then some (.dct (putG ks ds q v).1 (putG ks ds q v).2) else none
  | .dcT ks ds, k, v => (keyT k).bind fun q => if ks.Nodup ∧ ds.length < sizeD then some (.dcT (putG ks ds q v).1 (putG ks ds q v).2) else none
  | _, _, _ => none
def ofD (i : Nat) (s : SE) : Option D → Out
  | some d => .nx (s.set i (.odt d))
  | none => .stuck
def withDat (s : SE) (i : Nat) (f : D → Out) : Out := match s[i]? with
  | some (.odt d) => f d
  | _ => .stuck
def aPutD (h : Bool) (i : Nat) (x e : E) : AtomS where
  chk := fun N sc st => oB (asSub st) fun t => chkV N sc i t.1 && chk N sc x t.2.2.1 && chk N sc e t.2.2.2 && notSlice t.2.2.1
  run := fun s => withDat s i fun d => outE (ev e (see h s)) fun v => outE (noExc (ev x (full s))) fun k => if okFor h v then ofD i s (putDD d k v) else .stuck
section
variable {P : Str → (List D → Res D) → Prop} {C : Str → Cn → Prop} {R : Str → Prop}
theorem newDG {t : Bool} {i : Nat} : AtomSG P C R (aNewD t i) := by
  intro X k W H0 M0 xo eP eC eR st hc
  obtain ⟨⟨x, p, v⟩, e1, hh⟩ := optM (o := asName st) (f := fun u => chkNm X.N X.env.scope i (.Name u.1 u.2.1) && (match u.2.2 with | .Dict [] [] _ => true | _ => false)) hc
  obtain ⟨pos, rfl⟩ := asName_eq e1
  rw [Bool.and_eq_true] at hh
  obtain ⟨h1, h2⟩ := hh
  have hv : ∃ q, v = .Dict [] [] q := by
    dsimp only at h2
    split at h2
    · exact ⟨_, rfl⟩
    · cases h2
  obtain ⟨q, rfl⟩ := hv
  have pg : PG X (.Name x p) (gName i) := pg_nm rfl xo.nd xo.hf h1
  have main : ∀ {te : TE}, PE X (.Dict [] [] q) te → PS X (.Assign [.Name x p] (.Dict [] [] q) pos) (tAsg te (gName i)) := fun {te} pe => ps_asg pe pg rfl rfl rfl
  cases t with
  | false =>
    refine ps_weak (main pe_dnewK) fun Dn σ H qq => ?_
    obtain ⟨A, s, r, o⟩ := qq
    intro p hn
    obtain ⟨r2, sub⟩ := r.setNew (i := i) (ps := [p]) (v := .ref p) (x := .odt (newD false)) (q := datOP (newD false)) (same_new hn) rfl (fun b hb => by rw [List.mem_singleton.mp hb]; exact Fr.of hn) ⟨p, [], rfl, rfl, upd_same, rfl, .nil⟩
    exact o _ _ _ r2 ⟨Keep.of_same (same_new hn), fun a m => (sub a m).elim .inl fun z => .inr (by rw [List.mem_singleton.mp z]; exact Fr.of hn), r.dm.mono (same_new (K := X.K) hn)⟩
  | true =>
    refine ps_weak (main pe_dnewT) fun Dn σ H qq => ?_
    obtain ⟨A, s, r, o⟩ := qq
    intro p hn
    obtain ⟨r2, sub⟩ := r.setNew (i := i) (ps := [p]) (v := .ref p) (x := .odt (newD true)) (q := datOP (newD true)) (same_new hn) rfl (fun b hb => by rw [List.mem_singleton.mp hb]; exact Fr.of hn) ⟨p, [], rfl, rfl, upd_same, rfl, .nil⟩
    exact o _ _ _ r2 ⟨Keep.of_same (same_new hn), fun a m => (sub a m).elim .inl fun z => .inr (by rw [List.mem_singleton.mp z]; exact Fr.of hn), r.dm.mono (same_new (K := X.K) hn)⟩
theorem dat_of {X : Cx} {W : WX} {H0 : Hp} {M0 : Mk} {s : SE} {i : Nat} {f : D → Out} {M : Mk} {H : Hp} {Dn : Ends} (o : OutS X W H0 M0 M H Dn (withDat s i f)) : ∃ d, s[i]? = some (.odt d) ∧ OutS X W H0 M0 M H Dn (f d) := by
  unfold withDat at o
  split at o
  · rename_i d e; exact ⟨d, e, o⟩
  · exact o.elim
theorem len_zip {κ : Type} {ks : List κ} {vs : List V} {ds : List D} {K : PySem.W.Frag} {M : Mk} {H : Hp} (ra : RepAll K M H vs ds) (h : ks.length = vs.length) (hl : ds.length < sizeD) : (ks.zip vs).length < sizeLine := by
  rw [List.length_zip, h, Nat.min_self, ra.length]
  exact Nat.lt_trans hl sizeD_lt
theorem putDG {h : Bool} {i : Nat} {x e : E} (gx : good P C x) (g : good P C e) : AtomSG P C R (aPutD h i x e) := by
  intro X k W H0 M0 xo eP eC eR st hc
  subst eP eC eR
  obtain ⟨⟨nm, p, y, v⟩, e1, hh⟩ := optM (o := asSub st) (f := fun t => chkV X.N X.env.scope i t.1 && chk X.N X.env.scope x t.2.2.1 && chk X.N X.env.scope e t.2.2.2 && notSlice t.2.2.1) hc
  obtain ⟨q, pos, rfl⟩ := asSub_eq e1
  rw [Bool.and_eq_true, Bool.and_eq_true, Bool.and_eq_true] at hh
  obtain ⟨⟨⟨h1, h2⟩, h3⟩, h4⟩ := hh
  obtain ⟨a, b, c⟩ := chkV_of h1
  refine ps_weak (ps_dput (by have := xo.room.un; omega) (pe_var a b (okName_of c).1 (okName_of c).2) (snd_e x xo.toXOk gx y h2).pe (snd_e e xo.toXOk g v h3).pe (swaps_other (t := .Subscript (.Name nm p) y q) rfl)) fun Dn σ H qq => ?_
  obtain ⟨A, s, r, o⟩ := qq
  have o0 : OutS X W H0 M0 (marks M0 A s) H Dn (withDat s i fun d => outE (ev e (see h s)) fun v => outE (noExc (ev x (full s))) fun k => if okFor h v then ofD i s (putDD d k v) else .stuck) := o
  obtain ⟨d, es, o1⟩ := dat_of o0
  obtain ⟨f, u, ev1, rp⟩ := r.ownG i _ (owAt_of es rfl)
  refine see_out (h := h) r o1 fun w vv H' ew s' rv r' o' => ?_
  refine ⟨_, ev1, ?_⟩
  refine ⟨M0, full s, r'.dmM0, r'.full, ?_⟩
  cases e2 : ev x (full s) with
  | exc c => rw [e2] at o'; exact o'.elim
  | stuck => rw [e2] at o'; exact o'.elim
  | ok kd =>
    rw [e2] at o'
    intro kv H2 s2 rk
    have o2 : OutS X W H0 M0 (marks M0 A s) H Dn (if okFor h w then ofD i s (putDD d kd w) else .stuck) := o'
    by_cases hw : okFor h w = true
    · rw [if_pos hw] at o2
      have rw' : Rep X.K (marks M0 A s) H2 vv w := (rep_ok r' rv hw).same s2
      have s12 := s'.trans s2
      have r2 := r'.grow s2
      cases d with
      | dct ks ds =>
        have o3 : OutS X W H0 M0 (marks M0 A s) H Dn (ofD i s ((keyD kd).bind fun q => if ks.Nodup ∧ ds.length < sizeD then some (.dct (putG ks ds q w).1 (putG ks ds q w).2) else none)) := o2
        cases ek : keyD kd with
        | none => rw [ek] at o3; exact o3.elim
        | some q =>
          rw [ek] at o3
          have o4 : OutS X W H0 M0 (marks M0 A s) H Dn (ofD i s (if ks.Nodup ∧ ds.length < sizeD then some (.dct (putG ks ds q w).1 (putG ks ds q w).2) else none)) := o3
          by_cases hn : ks.Nodup ∧ ds.length < sizeD
          · rw [if_pos hn] at o4
            obtain ⟨ad, xs, eA, rfl, hH, hkl, ra⟩ := rp
            have ra2 : RepAll X.K (marks M0 A s) H2 xs ds := ra.same s12
            obtain ⟨us, p1, p2, p3, p4, _⟩ := putG_rep (q := q) (d := w) rw' hn.1 ra2 hkl
            rw [keyD_rep ek rk]
            refine ⟨ad, _, rfl, DPut.k (s12.get _ _ hH) (len_zip ra hkl hn.2), ?_⟩
            rw [p1]
            have hm : marks M0 A s ad := .inr ⟨i, _, owAt_of es rfl, by rw [eA]; exact List.mem_cons_self⟩
            have kp : Keep X.K (marks M0 A s) H2 (upd H2 ad (.dK ((putG ks ds q w).1.zip us))) := keep_upd hm (s12.get _ _ hH) trivial
            obtain ⟨r3, f3⟩ := r2.change1 (x := .odt (.dct (putG ks ds q w).1 (putG ks ds q w).2)) (q' := datOP (.dct (putG ks ds q w).1 (putG ks ds q w).2)) (o' := .dK ((putG ks ds q w).1.zip us)) (owAt_of es rfl) eA (s12.get _ _ hH) trivial trivial rfl ev1 ⟨ad, us, rfl, rfl, upd_same, p3, RepAll.keep kp _ _ p2⟩
            exact o4 σ _ A r3 ((Frame.grow r.dm s12 fun _ m => m).trans f3)
          · rw [if_neg hn] at o4; exact o4.elim
      | dcT ks ds =>
        have o3 : OutS X W H0 M0 (marks M0 A s) H Dn (ofD i s ((keyT kd).bind fun q => if ks.Nodup ∧ ds.length < sizeD then some (.dcT (putG ks ds q w).1 (putG ks ds q w).2) else none)) := o2
        cases ek : keyT kd with
        | none => rw [ek] at o3; exact o3.elim
        | some q =>
          rw [ek] at o3
          have o4 : OutS X W H0 M0 (marks M0 A s) H Dn (ofD i s (if ks.Nodup ∧ ds.length < sizeD then some (.dcT (putG ks ds q w).1 (putG ks ds q w).2) else none)) := o3
          by_cases hn : ks.Nodup ∧ ds.length < sizeD
          · rw [if_pos hn] at o4
            obtain ⟨ad, xs, eA, rfl, hH, hkl, ra⟩ := rp
            have ra2 : RepAll X.K (marks M0 A s) H2 xs ds := ra.same s12
            obtain ⟨us, p1, p2, p3, p4, _⟩ := putG_rep (q := q) (d := w) rw' hn.1 ra2 hkl
            obtain ⟨kb, rfl, hkb⟩ := keyT_rep ek rk
            refine ⟨ad, _, rfl, DPut.t (s12.get _ _ hH) hkb (len_zip ra hkl hn.2), ?_⟩
            rw [p1]
            have hm : marks M0 A s ad := .inr ⟨i, _, owAt_of es rfl, by rw [eA]; exact List.mem_cons_self⟩
            have kp : Keep X.K (marks M0 A s) H2 (upd H2 ad (.dT ((putG ks ds q w).1.zip us))) := keep_upd hm (s12.get _ _ hH) trivial
            obtain ⟨r3, f3⟩ := r2.change1 (x := .odt (.dcT (putG ks ds q w).1 (putG ks ds q w).2)) (q' := datOP (.dcT (putG ks ds q w).1 (putG ks ds q w).2)) (o' := .dT ((putG ks ds q w).1.zip us)) (owAt_of es rfl) eA (s12.get _ _ hH) trivial trivial rfl ev1 ⟨ad, us, rfl, rfl, upd_same, p3, RepAll.keep kp _ _ p2⟩
            exact o4 σ _ A r3 ((Frame.grow r.dm s12 fun _ m => m).trans f3)
          · rw [if_neg hn] at o4; exact o4.elim
      | _ => exact o2.elim
    · rw [if_neg hw] at o2; exact o2.elim
end
end PL

namespace PL
open PySem PySem.Spec PyProof.Rows L2
/-! ### plain: strictly rising, none twice -/
def insI (a : Int) : List Int → List Int
  | [] => [a]
  | b :: r => if a < b then a :: b :: r else if a = b then b :: r else b :: insI a r
def ssI : List Int → List Int
  | [] => []
  | a :: r => insI a (ssI r)
theorem insI_mem (a x : Int) : ∀ l : List Int, x ∈ insI a l ↔ x = a ∨ x ∈ l
  | [] => by simp [insI]
  | b :: r => by
    unfold insI
    split
    · simp
    · split
      · rename_i e; subst e; simp
      · rw [List.mem_cons, insI_mem a x r, List.mem_cons]
        constructor
        · rintro (h | h | h)
          · exact .inr (.inl h)
          · exact .inl h
          · exact .inr (.inr h)
        · rintro (h | h | h)
          · exact .inr (.inl h)
          · exact .inl h
          · exact .inr (.inr h)
theorem insI_pw (a : Int) : ∀ {l : List Int}, l.Pairwise (· < ·) → (insI a l).Pairwise (· < ·)
  | [], _ => .cons (fun _ h => by cases h) .nil
  | b :: r, h => by
    unfold insI
    split
    · rename_i hab
      refine .cons (fun q hq => ?_) h
      rcases List.mem_cons.mp hq with rfl | hq
      · exact hab
      · exact Int.lt_trans hab (List.rel_of_pairwise_cons h hq)
    · split
      · exact h
      · rename_i h1 h2
        refine .cons (fun q hq => ?_) (insI_pw a h.of_cons)
        rcases (insI_mem a q r).mp hq with rfl | hq
        · omega
        · exact List.rel_of_pairwise_cons h hq
theorem ssI_mem (x : Int) : ∀ l : List Int, x ∈ ssI l ↔ x ∈ l
  | [] => Iff.rfl
  | a :: r => by
    show x ∈ insI a (ssI r) ↔ _
    rw [insI_mem, ssI_mem x r, List.mem_cons]
theorem ssI_pw : ∀ l : List Int, (ssI l).Pairwise (· < ·)
  | [] => .nil
  | a :: r => insI_pw a (ssI_pw r)
theorem ssI_is {l m : List Int} (hm : m.Pairwise (· < ·)) (h : ∀ x, x ∈ m ↔ x ∈ l) : m = ssI l := by
  have nd : ∀ {l : List Int}, l.Pairwise (· < ·) → l.Nodup := fun h => List.Pairwise.imp (fun {a b} k => Int.ne_of_lt k) h
  exact List.Perm.eq_of_pairwise (fun a b _ _ h1 h2 => absurd (Int.lt_trans h1 h2) (Int.lt_irrefl _)) hm (ssI_pw l) ((List.perm_ext_iff_of_nodup (nd hm) (nd (ssI_pw l))).mpr fun x => by rw [h, ssI_mem])
/-! ### the prim -/
theorem repAll_ints {K : PySem.W.Frag} {M : Mk} {H : Hp} : ∀ L : List Int, RepAll K M H (L.map V.int) (L.map D.int)
  | [] => .nil
  | a :: L => .cons (.int _) (repAll_ints L)
def rSetI (X : Cx) : List V → Hp → VK → Prop := fun xs H Q => ∃ l, ∃ ns : List Int, xs = [.ref l] ∧ SqL X.K H l (ns.map V.int) ∧ ns.length < 64 ∧ ∀ a c, c ≤ ns.length → H a = none → Q (.ref a) (upd H a (SetO X.w a (fun j => decide (j ∈ ns)) c))
theorem cr_setI {X : Cx} (hc : X.calm = true) : CallR X (.type "set") (rSetI X) := by
  intro pins s σ H xs us Q I r h
  obtain ⟨l, ns, rfl, hq, h1, z⟩ := h
  rw [Vals.ref1 r]
  obtain ⟨its, rr, pl, hz⟩ := I.list hq
  refine set_ints ns (I.ok.hd hc) pl.isList (by simpa using ints_of_vals rr) (Nat.lt_of_lt_of_le (Nat.succ_lt_succ h1) (by decide)) fun z' fz => ?_
  obtain ⟨h', tk, c, rfl, R, hcn, keep⟩ := fz
  exact ⟨.ref _, _, I.laid keep (Nat.le_refl _) (setO_new R), rfl, z _ c hcn (I.hok.fresh (Nat.le_refl _))⟩
def opSortedSetI : D → Option D
  | .lst l => (intsD l).bind fun ns => if ns.length < 64 then some (.lst ((ssI ns).map D.int)) else none
  | _ => none
def pSortedSetI : Prim := { syn := sortedSetSyn, sem := one1 opSortedSetI }
theorem sortedSetIG : PrimG pSortedSetI := by
  intro X k W xo
  have main : ∀ {e : Expr} {es : List Expr} {ms : List (En → Res D)}, sortedSetSyn X.env.scope e = some es → PEs X W es ms → ∃ a b pos, e = .Call a b [] pos ∧ PE X e (tS X W fun ρ => (seqM ms ρ).bind fun ds => ofO (one1 opSortedSetI ds)) := by
    intro e es ms h hp
    unfold sortedSetSyn at h
    split at h
    · rename_i x p y p2 a q pos
      split at h
      · rename_i hg
        cases h
        rw [Bool.and_eq_true, Bool.and_eq_true, Bool.and_eq_true, decide_eq_true_eq, decide_eq_true_eq] at hg
        obtain ⟨⟨rfl, g1⟩, rfl, g2⟩ := hg
        obtain ⟨ma, rfl, h1, n1⟩ := one_pes hp
        refine ⟨_, _, pos, rfl, pe_weak (pe_callB (cr_sortedSet xo.calm) (gl_of g1) (xo.bf _ (by decide)) (by decide +kernel) (pa_cons (pe_callTy (cr_setI xo.calm) (gl_of g2) (xo.bf _ (by decide)) (by decide +kernel) (pa_cons h1 pa_nil (star_of n1 [] X.env)) (by decide) (by decide) (star_of n1 [] X.env) rfl) pa_nil rfl) (by decide) (by decide) rfl rfl) fun σ H Q q => ?_⟩
        refine w_1 (r := fun x H Q => rSetI X [x] H fun y H1 => rSortedSet X.w [y] H1 Q) (fun M H x d1 d dm r1 e k => ?_) q
        have e' : opSortedSetI d1 = some d := e
        cases d1 with
        | lst l =>
          cases r1 with
          | @lst b vs _ s n ra =>
            have e2 : ((intsD l).bind fun ns => if ns.length < 64 then some (D.lst ((ssI ns).map D.int)) else none) = some d := e'
            cases e3 : intsD l with
            | none => rw [e3] at e2; cases e2
            | some ns =>
              rw [e3] at e2
              have e4 : (if ns.length < 64 then some (D.lst ((ssI ns).map D.int)) else none) = some d := e2
              split at e4
              · rename_i hl
                cases e4
                refine ⟨b, ns, rfl, SqL.of (by rw [← intsD_rep ra e3]; exact s), hl, fun a c hc ha => ?_⟩
                have same1 : Same X.K H (upd H a (SetO X.w a (fun j => decide (j ∈ ns)) c)) := same_new ha
                refine ⟨a, _, c, rfl, upd_same, by omega, fun ms p pw mem len hn => ?_⟩
                have same2 := same_new (K := X.K) (o := .lst (ms.map V.int)) hn
                have np : Fr H p := same1.free (Fr.of hn)
                have eq : ms = ssI ns := ssI_is pw fun x => by rw [mem x, decide_eq_true_eq]
                subst eq
                refine k _ _ (same1.trans same2) (.lst upd_same (dm.fresh np) ?_)
                exact repAll_ints _
              · cases e4
        | _ => cases e'
      · cases h
    · cases h
  refine ⟨fun h hp => (main h hp).choose_spec.choose_spec.choose_spec.2, (fun z => nomatch z), fun {e es ms} h hp => ?_⟩
  obtain ⟨a, b, pos, rfl, pe⟩ := main h hp
  exact pt_of_pe pe (fun _ => rfl)
end PL

namespace PL
open PySem PySem.Spec PyProof.Rows L2
/-! ## sorted(d.items()), d with keys that are tuples of whole numbers, and whole numbers as values -/
abbrev KN := List Int × Int
def entN (e : KN) : List L2.Key × V := (e.1.map Sum.inl, V.int e.2)
def encN (z : Addr × KN) : PyData := .tuple [.tuple (z.2.1.map .int), .int z.2.2]
def rSortIt (X : Cx) : List V → Hp → VK → Prop := fun vs H Q => ∃ (p a : Addr) (kns : List KN), vs = [.ref p] ∧ H p = some (DX.itemsO p a) ∧ H a = some (.dT (kns.map entN)) ∧ kns.length < 64 ∧
  ∀ (H' : Hp) (l : Addr) (zs : List (Addr × KN)), (∀ b o, H b = some o → H' b = some o) → H l = none → (zs.map (·.2)).Perm kns → zs.Pairwise (fun z y => PySem.W.dataLt (encN y) (encN z) = false) → H' l = some (.lst (zs.map fun z => V.ref z.1)) →
    (∀ z ∈ zs, H z.1 = none ∧ ∃ q, H' z.1 = some (.tup [.ref q, .int z.2.2]) ∧ H' q = some (.tup (z.2.1.map V.int))) → Q (.ref l) H'
theorem kv_int (c : List Int) : (c.map (Sum.inl : Int → L2.Key)).map kV = c.map V.int := by
  rw [List.map_map]; rfl
theorem vals_refsN : ∀ zs : List (Addr × KN), Vals (zs.map fun z => V.ref z.1) (zs.map fun z => Value.ref z.1)
  | [] => .nil
  | z :: zs => .cons rfl (vals_refsN zs)
theorem eachIs_ref : ∀ {out : List Value} {bs : List (Addr × KN)}, PySem.W.EachIs (fun v b => v = Value.ref b.1) out bs → out = bs.map fun b => Value.ref b.1
  | _, _, .nil => rfl
  | _, _, .cons h t => by rw [List.map_cons, ← h, eachIs_ref t]
theorem reads_ints {h : Heap} : ∀ {us : List Value} {c : List Int}, IntsAre us c → ReadsAll h us (c.map .int) []
  | _, _, .nil => ReadsAll.nil
  | _, _, .cons n t r => ReadsAll.cons (as := []) (bs := []) (Reads.int n t) (reads_ints r)
theorem alike_encN (x y : Addr × KN) : PySem.W.alike (encN x) (encN y) = true := by
  unfold encN PySem.W.alike PySem.W.alikeAll PySem.W.alikeAll PySem.W.alikeAll
  simp only [PySem.W.alike, PySem.W.alike_ints, Bool.and_true, Bool.true_and]
theorem depth_encN (x : Addr × KN) : (encN x).depth ≤ 3 := by
  unfold encN
  simp [PyData.depth, PyData.depthAll, PySem.W.depth_ints]
open PySem.W in
theorem cr_sortIt {X : Cx} (hc : X.calm = true) (hu : X.A.units + 64 < cLine) : CallR X (.builtin "sorted") (rSortIt X) := by
  intro pins s σ H xs us Q I r h
  obtain ⟨p, a, kns, rfl, hp, ha, h64, q⟩ := h
  obtain rfl := Vals.ref1 r
  have view : s.heap.IsItemsView p a := (show ObjOk X.prog X.w H s.heap p (DX.itemsO p a) from I.hok p _ hp).1
  obtain ⟨z, hd, xs', rel, o, es, ep, ho, hx, hdat, hes, his, hn⟩ := dt_of I.hok ha
  have l1 : (kns.map entN).length = xs'.length := Paired.length rel
  rw [List.length_map] at l1
  have l2 : es.size = xs'.length := size_of_entries hes
  have hh : X.A.handled = none := I.ok.hd hc
  refine DT.sortedI (es := es) (ep := ep) hh view ⟨o, ho, hx, hdat⟩ (by rw [sizeLine_eq]; omega) fun h' tk as hk hlt hl hG => ?_
  have lak : as.length = kns.length := by omega
  have nd : as.Nodup := List.Pairwise.imp (fun h => Nat.ne_of_lt h) hG.rise
  have pr : ∀ (j : Nat) (b : Addr), as[j]? = some b → ∃ (e : KN) (kq : Addr) (t : Tok), kns[j]? = some e ∧ H kq = some (.tup (e.1.map V.int)) ∧ h'.get? b = some { cls := .type "tuple", data := .seq #[Value.ref kq, Value.int e.2 t] } := by
    intro j b hj
    obtain ⟨en, he, hg⟩ := hG.pairs j b hj
    rw [entry_at hes j] at he
    cases hxj : xs'[j]? with
    | none => rw [hxj] at he; exact nomatch (show (none : Option DictEntry) = some en from he)
    | some x =>
      rw [hxj] at he
      have een : entryOfKey (tupleKind (mixKind X.prog X.w)) x = en := Option.some.inj he
      obtain ⟨e0, he0, r1, r2, r3⟩ := DX.pget rel hxj
      rw [List.getElem?_map] at he0
      cases hkj : kns[j]? with
      | none => rw [hkj] at he0; exact nomatch (show (none : Option (List L2.Key × V)) = some e0 from he0)
      | some e =>
        rw [hkj] at he0
        have ee : entN e = e0 := Option.some.inj he0
        rw [← ee] at r2 r3
        obtain ⟨t, r3'⟩ : ∃ t, x.2.2 = Value.int e.2 t := r3
        refine ⟨e, x.2.1, t, rfl, ?_, ?_⟩
        · rw [← kv_int]; exact r2
        · rw [hg, ← een, ← r3']
          all_goals rfl
  have hob : (h'.push { cls := .type "list", data := .seq (as.map Value.ref).toArray }).get? h'.objs.size = some (seqObj "list" (as.map Value.ref).toArray 0) := Heap.get?_push_size _ rfl
  have kb : ∀ b o, s.heap.get? b = some o → (h'.push { cls := .type "list", data := .seq (as.map Value.ref).toArray }).get? b = some o := fun b o e => Heap.get?_push_of_some _ (hk b o e)
  have ne0 : ∀ b o, h'.get? b = some o → b ≠ h'.objs.size := fun b o e => Nat.ne_of_lt (Heap.lt_size e)
  generalize hh2 : h'.push { cls := .type "list", data := .seq (as.map Value.ref).toArray } = h2 at hob kb ⊢
  have ka : ∀ b o, h'.get? b = some o → h2.get? b = some o := fun b o e => by rw [← hh2]; exact Heap.get?_push_of_some _ e
  have each : ∀ (as' : List Addr) (ks' : List KN), as'.length = ks'.length → (∀ (j : Nat) (b : Addr), as'[j]? = some b → ∃ (e : KN) (kq : Addr) (t : Tok), ks'[j]? = some e ∧ H kq = some (.tup (e.1.map V.int)) ∧ h'.get? b = some { cls := .type "tuple", data := .seq #[Value.ref kq, Value.int e.2 t] }) →
      EachIs (fun v (b : Addr × KN) => v = Value.ref b.1) (as'.map Value.ref) (as'.zip ks') ∧ EachIs (fun v b => ∃ as, Reads h2 v (encN b) as ∧ h'.objs.size ∉ as) (as'.map Value.ref) (as'.zip ks') := by
    intro as'
    induction as' with
    | nil => intro ks' hl' _; cases ks' with | nil => exact ⟨.nil, .nil⟩ | cons => cases hl'
    | cons b as' ih =>
      intro ks' hl' hp'
      cases ks' with
      | nil => cases hl'
      | cons e ks' =>
        obtain ⟨i1, i2⟩ := ih ks' (Nat.succ.inj hl') fun j c hj => hp' (j + 1) c hj
        obtain ⟨e', kq, t, he, hkq, hg⟩ := hp' 0 b rfl
        cases he
        obtain ⟨_, its, rv, ot, hot, hct, nt, hdt⟩ := (show ObjOk X.prog X.w H s.heap kq (.tup (e.1.map V.int)) from I.hok kq _ hkq)
        have rk : Reads h2 (.ref kq) (.tuple (e.1.map .int)) [] := Reads.tuple (kb _ _ hot) hct hdt (by rw [List.toList_toArray]; exact reads_ints rv.ints)
        refine ⟨.cons rfl i1, .cons ⟨[], ?_, fun z => nomatch z⟩ i2⟩
        exact Reads.tuple (ka _ _ hg) rfl rfl (ReadsAll.cons (as := []) (bs := []) rk (ReadsAll.cons (as := []) (bs := []) (Reads.int _ _) ReadsAll.nil))
  obtain ⟨e1, e2⟩ := each as kns lak pr
  have lz : (as.zip kns).length = kns.length := by rw [List.length_zip]; omega
  refine list_sort_data (s := { s with heap := h2, toks := tk }) (A := X.A.in1) (enc := encN) hob e1 e2 ?_ ?_ (by rw [lz, sizeLine_eq]; omega) (fun b _ => by have := depth_encN b; show X.A.units + 1 + 1 + _ < _; omega) fun out ol eo => ?_
  · intro d hd d' hd'
    obtain ⟨x, _, rfl⟩ := List.mem_map.mp hd
    obtain ⟨y, _, rfl⟩ := List.mem_map.mp hd'
    exact alike_encN x y
  · refine .inl fun d hd => ?_
    obtain ⟨x, _, rfl⟩ := List.mem_map.mp hd
    exact ⟨_, _, rfl⟩
  · obtain ⟨zs, hzs⟩ : ∃ zs, zs = (as.zip kns).mergeSort (dataLe false encN) := ⟨_, rfl⟩
    rw [← hzs] at eo
    have hout := eachIs_ref eo
    have pz : zs.Perm (as.zip kns) := by rw [hzs]; exact List.mergeSort_perm _ _
    have idx : ∀ z ∈ zs, ∃ j : Nat, as[j]? = some z.1 ∧ kns[j]? = some z.2 := by
      intro z' hz'
      obtain ⟨j, hj⟩ := List.mem_iff_getElem?.mp (pz.mem_iff.mp hz')
      exact ⟨j, List.getElem?_zip_eq_some.mp hj⟩
    have hperm : (zs.map (·.2)).Perm kns := by
      have e := pz.map (·.2)
      have m2 : (as.zip kns).map (·.2) = kns := List.map_snd_zip (by rw [lak]; exact Nat.le_refl _)
      rw [m2] at e
      exact e
    have hsort : zs.Pairwise (fun z y => dataLt (encN y) (encN z) = false) := by
      have := sort_pairwise (sortLe_total (listOrd itemOrd) false fun b => keyToks (encN b)) (as.zip kns)
      have e : (as.zip kns).mergeSort (sortLe (listOrd itemOrd) false fun b => keyToks (encN b)) = zs := hzs.symm
      rw [e] at this
      refine this.imp fun {x y} h => ?_
      have h' : dataLe false encN x y = true := h
      rw [dataLe_eq] at h'
      have h2 : (!dataLt (encN y) (encN x)) = true := h'
      rw [Bool.not_eq_true'] at h2
      exact h2
    have kF : ∀ b o, b ≠ h'.objs.size → h2.get? b = some o → (sortedHeap h2 h'.objs.size (as.map Value.ref) out.toArray).get? b = some o := fun b o hb e => (PyProof.Rows.sortedHeap_old hb (Heap.lt_size e)).trans e
    have kS : ∀ b o, s.heap.get? b = some o → (sortedHeap h2 h'.objs.size (as.map Value.ref) out.toArray).get? b = some o := fun b o e => kF b o (ne0 _ _ (hk b o e)) (kb b o e)
    obtain ⟨eF, heF⟩ := PyProof.Rows.sortedHeap_at (vs := as.map Value.ref) (out := out.toArray) hob
    have I1 : Inv X pins σ H { s with heap := sortedHeap h2 h'.objs.size (as.map Value.ref) out.toArray, toks := tk } := I.kept (t' := tk) kS
    have hn0 : H h'.objs.size = none := I.hok.fresh (Nat.le_of_lt hlt)
    have hlen : (zs.map fun z => V.ref z.1).length ≤ sizeLine := by
      have e := hperm.length_eq
      rw [List.length_map] at e
      rw [List.length_map, sizeLine_eq]
      omega
    have rv : Vals (zs.map fun z => V.ref z.1) out.toArray.toList := by
      rw [List.toList_toArray, hout]
      exact vals_refsN zs
    have I2 : Inv X pins σ (L2.upd H h'.objs.size (.lst (zs.map fun z => V.ref z.1))) { s with heap := sortedHeap h2 h'.objs.size (as.map Value.ref) out.toArray, toks := tk } :=
      I1.take (h' := sortedHeap h2 h'.objs.size (as.map Value.ref) out.toArray) (t' := tk) (fun b ob _ e => e) (I.fpOk (Nat.le_of_lt hlt) hn0) ⟨hlen, out.toArray.toList, eF, rv, heF⟩
    obtain ⟨H2, I3, g, qt⟩ := DX.takeT (P := fun b vs => ∃ (j : Nat) (e : KN) (kq : Addr), as[j]? = some b ∧ kns[j]? = some e ∧ vs = [.ref kq, .int e.2] ∧ H kq = some (.tup (e.1.map V.int))) I as _ I2 nd fun b hb => by
      obtain ⟨j, hj⟩ := List.mem_iff_getElem?.mp hb
      obtain ⟨e, kq, t, he, hkq, hg⟩ := pr j b hj
      have hbl : s.heap.objs.size ≤ b := Nat.le_of_lt (hG.above b hb)
      refine ⟨hbl, ?_, [.ref kq, .int e.2], ⟨j, e, kq, hj, he, rfl, hkq⟩, fun H3 => ⟨(by rw [sizeLine_eq]; show 2 ≤ 16777216; omega), [Value.ref kq, Value.int e.2 t], .cons rfl (.cons ⟨t, rfl⟩ .nil), ⟨_, kF _ _ (ne0 _ _ hg) (ka _ _ hg), rfl, 0, rfl⟩⟩⟩
      rw [upd_ne (ne0 _ _ hg)]
      exact I.hok.fresh hbl
    have gr : ∀ b o, H b = some o → H2 b = some o := fun b o e => g b o (by rw [upd_ne (ne_of_none e hn0)]; exact e)
    refine ⟨.ref h'.objs.size, H2, I3, rfl, q H2 h'.objs.size zs gr hn0 hperm hsort (g _ _ upd_same) fun z' hz' => ?_⟩
    obtain ⟨i, i1, i2⟩ := idx z' hz'
    obtain ⟨vs, ⟨j, e, kq, j1, j2, ev, hkq⟩, hH⟩ := qt z'.1 (List.mem_of_getElem? i1)
    have eij : i = j := (List.getElem?_inj (List.getElem?_eq_some_iff.mp i1).1 nd).mp (i1.trans j1.symm)
    subst eij
    have ee : e = z'.2 := Option.some.inj (j2.symm.trans i2)
    rw [ev, ee] at hH
    rw [ee] at hkq
    exact ⟨I.hok.fresh (Nat.le_of_lt (hG.above _ (List.mem_of_getElem? i1))), kq, hH, gr _ _ hkq⟩
end PL

namespace PL
open PySem PySem.Spec PyProof.Rows L2
/-! ## the atom sorted(x.items()) -/
def intK : List L2.Key → Option (List Int)
  | [] => some []
  | .inl n :: r => (intK r).map (n :: ·)
  | .inr _ :: _ => none
def intKs : List (List L2.Key) → Option (List (List Int))
  | [] => some []
  | k :: r => (intK k).bind fun c => (intKs r).map (c :: ·)
theorem intK_is : ∀ {k : List L2.Key} {c : List Int}, intK k = some c → k = c.map Sum.inl
  | [], c, h => by cases h; rfl
  | .inl n :: r, c, h => by
    have h' : (intK r).map (n :: ·) = some c := h
    cases e : intK r with
    | none => rw [e] at h'; cases h'
    | some c' => rw [e] at h'; cases h'; rw [intK_is e]; rfl
  | .inr _ :: _, c, h => by cases h
theorem intKs_is : ∀ {ks : List (List L2.Key)} {cs : List (List Int)}, intKs ks = some cs → ks = cs.map fun c => c.map Sum.inl
  | [], c, h => by cases h; rfl
  | k :: r, c, h => by
    have h' : (intK k).bind (fun c => (intKs r).map (c :: ·)) = some c := h
    cases e : intK k with
    | none => rw [e] at h'; cases h'
    | some c1 =>
      rw [e] at h'
      have h2 : (intKs r).map (c1 :: ·) = some c := h'
      cases e2 : intKs r with
      | none => rw [e2] at h2; cases h2
      | some c2 => rw [e2] at h2; cases h2; rw [intK_is e, intKs_is e2]; rfl
theorem intKs_map : ∀ cs : List (List Int), intKs (cs.map fun c => c.map Sum.inl) = some cs
  | [] => rfl
  | c :: cs => by
    have : ∀ c : List Int, intK (c.map Sum.inl) = some c := fun c => by
      induction c with
      | nil => rfl
      | cons n c ih => show (intK (c.map Sum.inl)).map (n :: ·) = _; rw [ih]; rfl
    show (intK (c.map Sum.inl)).bind (fun c => (intKs (cs.map fun c => c.map Sum.inl)).map (c :: ·)) = _
    rw [this, intKs_map cs]; rfl
theorem zip_ent : ∀ (cs : List (List Int)) (ns : List Int), (cs.map fun c => c.map (Sum.inl : Int → L2.Key)).zip (ns.map V.int) = (cs.zip ns).map entN
  | [], _ => rfl
  | _ :: _, [] => rfl
  | c :: cs, n :: ns => by rw [List.map_cons, List.map_cons, List.zip_cons_cons, zip_ent cs ns]; rfl
def lookN : List KN → List Int → Int
  | [], _ => 0
  | e :: r, c => if e.1 = c then e.2 else lookN r c
def itemD (kns : List KN) (c : List Int) : D := .tup [tupI c, .int (lookN kns c)]
open Classical in
noncomputable def opItems : D → Option D
  | .dcT ks ds => (intKs ks).bind fun cs => (intsD ds).bind fun ns => if cs.Nodup ∧ cs.length = ns.length ∧ cs.length < 64 then some (.lst ((ssL cs).map (itemD (cs.zip ns)))) else none
  | _ => none
theorem look_mem : ∀ {kns : List KN} {e : KN}, (kns.map (·.1)).Nodup → e ∈ kns → lookN kns e.1 = e.2
  | [], e, _, h => by cases h
  | a :: r, e, nd, h => by
    rw [List.map_cons, List.nodup_cons] at nd
    unfold lookN
    rcases List.mem_cons.mp h with rfl | h
    · rw [if_pos rfl]
    · rw [if_neg fun z => nd.1 (by rw [z]; exact List.mem_map.mpr ⟨e, h, rfl⟩), look_mem nd.2 h]
theorem lexLt_lt : ∀ a b : List Int, HT.lexLt a b = decide (a < b)
  | [], [] => by simp [HT.lexLt]
  | [], y :: ys => by simp [HT.lexLt]
  | x :: xs, [] => by simp [HT.lexLt]
  | x :: xs, y :: ys => by
    rw [HT.lexLt_cons, lexLt_lt xs ys]
    by_cases e : x = y
    · subst e
      rw [if_pos rfl]
      refine decide_eq_decide.mpr ?_
      rw [List.cons_lt_cons_iff]
      constructor
      · exact fun h => .inr ⟨rfl, h⟩
      · rintro (h | ⟨_, h⟩)
        · exact absurd h (Int.lt_irrefl _)
        · exact h
    · rw [if_neg e]
      refine decide_eq_decide.mpr ?_
      rw [List.cons_lt_cons_iff]
      constructor
      · exact fun h => .inl h
      · rintro (h | ⟨h, _⟩)
        · exact h
        · exact absurd h e
theorem enc_lt {x y : Addr × KN} (ne : x.2.1 ≠ y.2.1) (h : PySem.W.dataLt (encN y) (encN x) = false) : HT.lexLt x.2.1 y.2.1 = true := by
  unfold encN at h
  have al : PySem.W.alike (.tuple (y.2.1.map PyData.int)) (.tuple (x.2.1.map PyData.int)) = true := by
    unfold PySem.W.alike; exact PySem.W.alike_ints _ _
  rw [PySem.W.dataLt_pair al (by unfold PySem.W.alike; rfl)] at h
  have ev : PyData.eqv (.tuple (y.2.1.map PyData.int)) (.tuple (x.2.1.map PyData.int)) = decide (y.2.1 = x.2.1) := by
    have : ∀ a b : List Int, PyData.eqvAll (a.map PyData.int) (b.map PyData.int) = decide (a = b) := fun a => by
      induction a with
      | nil => intro b; cases b <;> simp [PyData.eqvAll]
      | cons x a ih =>
        intro b
        cases b with
        | nil => simp [PyData.eqvAll]
        | cons y b =>
          rw [List.map_cons, List.map_cons, PySem.W.eqv_all_cons, ih]
          simp [PyData.eqv, Bool.beq_eq_decide_eq]
    unfold PyData.eqv
    exact this _ _
  rw [ev, decide_eq_false (fun z => ne z.symm), if_neg (by decide), PySem.W.dataLt_tuple] at h
  have h' : decide (y.2.1 < x.2.1) = false := by rw [← PySem.W.dataLt_ints]; exact h
  rcases lex_tri x.2.1 y.2.1 with z | z | z
  · exact z
  · exact absurd z ne
  · rw [lexLt_lt, h'] at z; cases z
theorem items_sorted {kns : List KN} {zs : List (Addr × KN)} (nd : (kns.map (·.1)).Nodup) (pm : (zs.map (·.2)).Perm kns) (pw : zs.Pairwise (fun z y => PySem.W.dataLt (encN y) (encN z) = false)) : zs.map (fun z => z.2.1) = ssL (kns.map (·.1)) := by
  have e : zs.map (fun z => z.2.1) = (zs.map (·.2)).map (·.1) := by rw [List.map_map]; rfl
  have nd2 : (zs.map fun z => z.2.1).Nodup := by rw [e]; exact (pm.map (·.1)).nodup_iff.mpr nd
  refine ssL_is ?_ fun x => ?_
  · rw [List.pairwise_map]
    have n2 : zs.Pairwise fun z y => z.2.1 ≠ y.2.1 := List.pairwise_map.mp nd2
    exact (n2.and pw).imp fun {a b} h => enc_lt h.1 h.2
  · rw [e]; exact (pm.map (·.1)).mem_iff
def itemsChk (o : E) (N : List Str) (sc : Scope) : Expr → Bool
  | .Call (.Name x _) [.Call (.Attribute ov m ap) [] [] cp] [] _ => decide (x = "sorted") && glB sc x && decide (m = "items") && (ap.endLine == cp.line) && chk N sc o ov && noBase ov
  | _ => false
noncomputable def aItems (o : E) : Atom where
  chk := itemsChk o
  sem := fun ρ => (ev o ρ).bind fun d => ofO (opItems d)
theorem not_mut_tup {M : Mk} {H H' : Hp} {q : Addr} {xs : List V} (dm : DomM M H) (g : ∀ b o, H b = some o → H' b = some o) (h : H' q = some (.tup xs)) : ¬ M q := fun m => by
  obtain ⟨o, e, mu⟩ := dm q m
  rw [g q o e] at h
  cases h
  exact mu
theorem rep_items {K : PySem.W.Frag} {M : Mk} {H H' : Hp} {kns : List KN} (dm : DomM M H) (g : ∀ b o, H b = some o → H' b = some o) (nd : (kns.map (·.1)).Nodup) : ∀ {zs : List (Addr × KN)}, (∀ z ∈ zs, z.2 ∈ kns ∧ H z.1 = none ∧ ∃ q, H' z.1 = some (.tup [.ref q, .int z.2.2]) ∧ H' q = some (.tup (z.2.1.map V.int))) → RepAll K M H' (zs.map fun z => V.ref z.1) ((zs.map fun z => z.2.1).map (itemD kns))
  | [], _ => .nil
  | z :: zs, h => by
    obtain ⟨m, hn, q, h1, h2⟩ := h z List.mem_cons_self
    refine .cons ?_ (rep_items dm g nd fun y hy => h y (List.mem_cons_of_mem _ hy))
    unfold itemD
    rw [look_mem nd m]
    exact .tup h1 (dm.fresh (Fr.of hn)) (.cons (.tup h2 (not_mut_tup dm g h2) (repAll_ints _)) (.cons (.int _) .nil))
theorem itemsG {P : Str → (List D → Res D) → Prop} {C : Str → Cn → Prop} {o : E} (go : good P C o) : AtomG P C (aItems o) := by
  intro X k W xo eP eC x hc
  subst eP eC
  have hc' : itemsChk o X.N X.env.scope x = true := hc
  unfold itemsChk at hc'
  split at hc'
  · rename_i x p ov m ap cp pos
    simp only [Bool.and_eq_true, decide_eq_true_eq] at hc'
    obtain ⟨⟨⟨⟨⟨rfl, g1⟩, rfl⟩, hl⟩, h1⟩, nb⟩ := hc'
    have s1 := snd_e o xo go ov h1
    have pe : PE X (.Call (.Name "sorted" p) [.Call (.Attribute ov "items" ap) [] [] cp] [] pos) (tS X W (aItems o).sem) := by
      refine pe_weak (pe_callB (cr_sortIt xo.calm (by have := xo.room.un; omega)) (gl_of g1) (xo.bf _ (by decide)) (by decide +kernel) (pa_cons (pe_bm0 PySem.F.plainAttrs_dict PySem.F.slot_dict_items PySem.F.type_dict_items DX.mt_itemsT s1.pe (noBase_of nb) hl) pa_nil rfl) (by decide) (by decide) rfl rfl) fun σ H Q q => ?_
      have fe : (aItems o).sem = fun ρ => (seqM [ev o] ρ).bind fun ds => ofO (one1 opItems ds) := by
        funext ρ
        show (ev o ρ).bind _ = _
        cases e : ev o ρ <;> simp [seqM, consM, e, Res.bind] <;> rfl
      rw [fe] at q
      refine w_1 (sem := one1 opItems) (r := fun x H Q => tyV X.K "dict" x H ∧ DX.rItemsT x [] H fun y H1 => rSortIt X [y] H1 Q) (fun M H x d1 d dm r1 e k => ?_) q
      have e' : opItems d1 = some d := e
      unfold opItems at e'
      split at e'
      · rename_i ks ds
        cases e1 : intKs ks with
        | none => rw [e1] at e'; cases e'
        | some cs =>
          rw [e1] at e'
          cases e2 : intsD ds with
          | none =>
            have e'' : (intsD ds).bind _ = some d := e'
            rw [e2] at e''; cases e''
          | some ns =>
            have e'' : (intsD ds).bind _ = some d := e'
            rw [e2] at e''
            dsimp only [Option.bind] at e''
            split at e''
            · rename_i hcn
              obtain ⟨nd, hl2, h64⟩ := hcn
              cases e''
              cases r1 with
              | @dcT a _ vs _ s ln nm ra =>
                have vi := intsD_rep ra e2
                have kz : ks.zip vs = (cs.zip ns).map entN := by
                  rw [intKs_is e1, vi]
                  exact zip_ent cs ns
                rw [kz] at s
                have nd2 : ((cs.zip ns).map (·.1)).Nodup := by rw [List.map_fst_zip (by omega)]; exact nd
                refine ⟨.inr (.inr (.inl ⟨rfl, .inr ⟨_, s⟩⟩)), a, _, rfl, rfl, s, fun pv hpv => ⟨pv, a, cs.zip ns, rfl, upd_same, ?_, by rw [List.length_zip]; omega, fun H' l zs g hln pm pw hl' hz => ?_⟩⟩
                · rw [upd_ne (fun z => by rw [z, hpv] at s; cases s)]; exact s
                · have g0 : ∀ b o, H b = some o → H' b = some o := fun b o e => g b o (by rw [upd_ne (fun z => by rw [z, hpv] at e; cases e)]; exact e)
                  have hn0 : ∀ {b : Addr}, L2.upd H pv (DX.itemsO pv a) b = none → H b = none := fun {b} e => by
                    by_cases z : b = pv
                    · rw [z]; exact hpv
                    · rw [upd_ne z] at e; exact e
                  have ks2 := items_sorted nd2 pm pw
                  rw [List.map_fst_zip (by omega)] at ks2
                  refine k _ _ (Same.of g0) (.lst hl' (dm.fresh (Fr.of (hn0 hln))) ?_)
                  rw [← ks2]
                  exact rep_items dm g0 nd2 fun z hz' => by
                    obtain ⟨a1, q, a2, a3⟩ := hz z hz'
                    exact ⟨pm.mem_iff.mp (List.mem_map.mpr ⟨z, hz', rfl⟩), hn0 a1, q, a2, a3⟩
            · cases e''
      · cases e'
    exact ⟨pe, pt_of_pe pe fun _ => rfl⟩
  · cases hc'
theorem eitems {o : E} {ρ : En} {d r : D} (h1 : ev o ρ = .ok d) (h : opItems d = some r) : ev (.atom (aItems o)) ρ = .ok r := by
  show (ev o ρ).bind _ = _
  rw [h1]
  show ofO (opItems d) = _
  rw [h]; rfl
end PL

namespace PL
open PySem PySem.Spec PyProof.Rows L2
/-! ## min(xs), xs a list of things that are alike: tuples, tuples in tuples -/
def ltD (a b : D) : Bool := PySem.W.dataLt a.py b.py
def alikeB (l : List D) : Bool := plAll l && (l.all fun a => (l.all fun b => PySem.W.alike a.py b.py) && (match a with | .non => false | _ => true)) && decide (PyData.depthAll (pyAll l) ≤ 60)
def minG (x : D) (l : List D) : D := l.foldl (fun a y => if ltD y a then y else a) x
def opMinG : D → Option D
  | .lst (x :: l) => if alikeB (x :: l) then some (minG x l) else none
  | _ => none
def rMinG (K : PySem.W.Frag) : List V → Hp → VK → Prop := fun vs H Q => ∃ (a : Addr) (xs : List V) (ds : List PyData), vs = [V.ref a] ∧ SqL K H a xs ∧ DpAll K H xs ds ∧ PySem.W.AlikeAll ds ∧ 0 < ds.length ∧ PyData.depthAll ds ≤ 60 ∧
  ∀ x, xs[argBest (fun i j => PySem.W.dataLt (ds.getD i .none) (ds.getD j .none)) (ds.length - 1)]? = some x → Q x H
theorem vals_get {xs : List V} {us : List Value} (r : Vals xs us) : ∀ {i : Nat} {u : Value}, us[i]? = some u → ∃ x, xs[i]? = some x ∧ RelV x u := by
  induction r with
  | nil => intro i u h; cases h
  | cons h t ih =>
    intro i u e
    cases i with
    | zero => cases e; exact ⟨_, rfl, h⟩
    | succ i => exact ih e
theorem cr_minG {X : Cx} (hc : X.calm = true) (hu : X.A.units + 65 < cLine) : CallR X (.builtin "min") (rMinG X.K) := by
  intro pins s σ H vs us Q I r h
  obtain ⟨a, xs, ds, rfl, hs, hd, ha, hne, hdp, q⟩ := h
  obtain ⟨its, rv, hl, _⟩ := I.list hs
  rw [Vals.ref1 r]
  obtain ⟨as, hr⟩ := Dp.readsAll I ds xs its hd rv
  have hr' : ReadsAll s.heap its.toArray.toList ds as := by rw [List.toList_toArray]; exact hr
  have hn : its.toArray.size = ds.length := PySem.W.readsAll_len hr'
  refine call_min_walkH (PySem.W.iter_listW (A := X.A.in1) (I.ok.hd hc) hl.isList fun s₂ e W st hfp hw hk => ?_)
  refine ⟨_, _, _, _, _, _, _, s.heap, _, rfl, W, st, hfp, by omega, hw, hk, PySem.W.cmpIn_lt (A := X.A.in1) hr' ha (by show X.A.units + 1 + _ < _; omega), fun v s' hP m => ?_⟩
  obtain ⟨h', tk, rfl, hk'⟩ := PySem.W.moved_old e rfl m
  rw [hn] at hP
  have hP' : its[argBest (fun i j => PySem.W.dataLt (ds.getD i .none) (ds.getD j .none)) (ds.length - 1)]? = some v := by
    rw [← List.getElem?_toArray]; exact hP
  obtain ⟨x, hx, rx⟩ := vals_get rv hP'
  exact ⟨x, H, I.kept hk', rx, q x hx⟩
theorem py_getD : ∀ (l : List D) (i : Nat), (pyAll l).getD i .none = (l.getD i .non).py
  | [], i => rfl
  | d :: l, 0 => rfl
  | d :: l, i + 1 => py_getD l i
theorem pyAll_len : ∀ l : List D, (pyAll l).length = l.length
  | [] => rfl
  | d :: l => by show (pyAll l).length + 1 = l.length + 1; rw [pyAll_len l]
theorem pyAll_mem : ∀ {l : List D} {x : PyData}, x ∈ pyAll l → ∃ d ∈ l, d.py = x
  | [], x, h => by cases h
  | d :: l, x, h => by
    rcases List.mem_cons.mp h with rfl | h
    · exact ⟨d, List.mem_cons_self, rfl⟩
    · obtain ⟨e, he, k⟩ := pyAll_mem h
      exact ⟨e, List.mem_cons_of_mem _ he, k⟩
theorem rep_get {K : PySem.W.Frag} {M : Mk} {H : Hp} : ∀ {vs : List V} {ds : List D}, RepAll K M H vs ds → ∀ {i : Nat} {v : V}, vs[i]? = some v → Rep K M H v (ds.getD i .non)
  | _, _, .nil, i, v, h => by cases h
  | _, _, .cons r rs, 0, v, h => by cases h; exact r
  | _, _, .cons r rs, i + 1, v, h => rep_get rs h
theorem alike_of {l : List D} (h : alikeB l = true) : plAll l = true ∧ PySem.W.AlikeAll (pyAll l) ∧ PyData.depthAll (pyAll l) ≤ 60 := by
  unfold alikeB at h
  rw [Bool.and_eq_true, Bool.and_eq_true, decide_eq_true_eq] at h
  refine ⟨h.1.1, ⟨fun x hx y hy => ?_, fun x hx e => ?_⟩, h.2⟩
  · obtain ⟨a, ha, rfl⟩ := pyAll_mem hx
    obtain ⟨b, hb, rfl⟩ := pyAll_mem hy
    have := List.all_eq_true.mp h.1.2 a ha
    rw [Bool.and_eq_true] at this
    exact List.all_eq_true.mp this.1 b hb
  · obtain ⟨a, ha, rfl⟩ := pyAll_mem hx
    have := List.all_eq_true.mp h.1.2 a ha
    rw [Bool.and_eq_true] at this
    have p : a.pl = true := by
      have : ∀ {l : List D}, plAll l = true → a ∈ l → a.pl = true := fun {l} => by
        induction l with
        | nil => intro _ h; cases h
        | cons d l ih =>
          intro h1 h2
          have h' : d.pl = true ∧ plAll l = true := by simpa [plAll] using h1
          rcases List.mem_cons.mp h2 with rfl | h2
          · exact h'.1
          · exact ih h'.2 h2
      exact this h.1.1 ha
    cases a <;> first | exact absurd this.2 (by decide) | exact absurd p (by decide +revert) | (simp [D.pl] at p; done) | (cases e; done)
def pMinG : Prim := { syn := callSyn "min", sem := one1 opMinG }
theorem minGG : PrimG pMinG := prim_blt (id := "min") (by decide) (by decide +kernel) (by decide) (by decide) fun X k W xo => by
  refine ⟨_, cr_minG xo.calm (by have := xo.room.un; omega), fun M H xs ds d Q dm rs e k => ?_⟩
  obtain ⟨a, vs, l, rfl, rfl, e, s, n, ra⟩ := one_lst rs e (fun a d h => by cases a <;> first | exact ⟨_, rfl⟩ | cases h)
  match l, ra, e with
  | [], _, e => cases e
  | x :: l, ra, e =>
    have e' : (if alikeB (x :: l) then some (minG x l) else none) = some d := e
    split at e'
    · rename_i hl
      cases e'
      obtain ⟨p, al, dp⟩ := alike_of hl
      refine ⟨a, vs, pyAll (x :: l), rfl, SqL.of s, RepAll.dp _ _ p ra, al, by rw [pyAll_len, List.length_cons]; omega, dp, fun v hv => ?_⟩
      have r := rep_get ra hv
      have fe : (fun i j => PySem.W.dataLt ((pyAll (x :: l)).getD i .none) ((pyAll (x :: l)).getD j .none)) = fun i j => ltD ((x :: l).getD i .non) ((x :: l).getD j .non) := by
        funext i j
        rw [py_getD, py_getD]; rfl
      rw [fe, pyAll_len, List.length_cons, Nat.add_sub_cancel, (PySem.W.argBest_fold ltD D.non x l l.length (Nat.le_refl _)).2, List.take_length] at r
      exact k _ _ (Same.refl H) r
    · cases e'
theorem pyAll_ints : ∀ a : List Int, pyAll (a.map D.int) = a.map PyData.int
  | [] => rfl
  | x :: a => by show PyData.int x :: pyAll (a.map D.int) = _; rw [pyAll_ints a]; rfl
theorem py_tupI (a : List Int) : (D.tup (a.map D.int)).py = .tuple (a.map PyData.int) := by
  show PyData.tuple (pyAll (a.map D.int)) = _
  rw [pyAll_ints]
theorem ltD_ints (a b : List Int) : ltD (.tup (a.map D.int)) (.tup (b.map D.int)) = decide (a < b) := by
  unfold ltD
  rw [py_tupI, py_tupI, PySem.W.dataLt_tuple]
  exact PySem.W.dataLt_ints a b
theorem alike_tupI (a b : List Int) : PySem.W.alike (D.tup (a.map D.int)).py (D.tup (b.map D.int)).py = true := by
  rw [py_tupI, py_tupI]
  unfold PySem.W.alike
  exact PySem.W.alike_ints a b
theorem eqv_tupI (a b : List Int) : PyData.eqv (D.tup (a.map D.int)).py (D.tup (b.map D.int)).py = decide (a = b) := by
  rw [py_tupI, py_tupI]
  have : ∀ a b : List Int, PyData.eqvAll (a.map PyData.int) (b.map PyData.int) = decide (a = b) := fun a => by
    induction a with
    | nil => intro b; cases b <;> simp [PyData.eqvAll]
    | cons x a ih =>
      intro b
      cases b with
      | nil => simp [PyData.eqvAll]
      | cons y b =>
        rw [List.map_cons, List.map_cons, PySem.W.eqv_all_cons, ih]
        simp [PyData.eqv, Bool.beq_eq_decide_eq]
  unfold PyData.eqv
  exact this a b
theorem ltD_pairI (x y : Int) (a b : List Int) : ltD (.tup [.int x, .tup (a.map D.int)]) (.tup [.int y, .tup (b.map D.int)]) = if x = y then (if a = b then false else decide (a < b)) else decide (x < y) := by
  have e : ∀ (x : Int) (a : List Int), (D.tup [.int x, .tup (a.map D.int)]).py = .tuple [.int x, (D.tup (a.map D.int)).py] := fun x a => rfl
  unfold ltD
  rw [e, e, PySem.W.dataLt_pair (by unfold PySem.W.alike; rfl) (alike_tupI a b), eqv_tupI]
  have h := ltD_ints a b
  unfold ltD at h
  rw [h, PySem.W.dataLt_int]
  have e2 : PyData.eqv (.int x) (.int y) = decide (x = y) := by simp [PyData.eqv, Bool.beq_eq_decide_eq]
  rw [e2]
  by_cases hx : x = y
  · by_cases ha : a = b <;> simp [hx, ha]
  · simp [hx]
theorem alike_pairI (x y : Int) (a b : List Int) : PySem.W.alike (D.tup [.int x, .tup (a.map D.int)]).py (D.tup [.int y, .tup (b.map D.int)]).py = true := by
  show PySem.W.alike (.tuple [.int x, (D.tup (a.map D.int)).py]) (.tuple [.int y, (D.tup (b.map D.int)).py]) = true
  unfold PySem.W.alike PySem.W.alikeAll PySem.W.alikeAll PySem.W.alikeAll
  rw [alike_tupI]
  simp [PySem.W.alike]
end PL

namespace PL
open PySem PySem.Spec PyProof.Rows L2
/-! ## min(t), t a tuple of things that are alike -/
def rMinT (K : PySem.W.Frag) : List V → Hp → VK → Prop := fun vs H Q => ∃ (a : Addr) (xs : List V) (ds : List PyData), vs = [V.ref a] ∧ SqT K H a xs ∧ DpAll K H xs ds ∧ PySem.W.AlikeAll ds ∧ 0 < ds.length ∧ PyData.depthAll ds ≤ 60 ∧
  ∀ x, xs[argBest (fun i j => PySem.W.dataLt (ds.getD i .none) (ds.getD j .none)) (ds.length - 1)]? = some x → Q x H
theorem cr_minT {X : Cx} (hc : X.calm = true) (hu : X.A.units + 65 < cLine) : CallR X (.builtin "min") (rMinT X.K) := by
  intro pins s σ H vs us Q I r h
  obtain ⟨a, xs, ds, rfl, hs, hd, ha, hne, hdp, q⟩ := h
  obtain ⟨its, rv, hl, _⟩ := I.tuple hs
  rw [Vals.ref1 r]
  obtain ⟨as, hr⟩ := Dp.readsAll I ds xs its hd rv
  have hr' : ReadsAll s.heap its.toArray.toList ds as := by rw [List.toList_toArray]; exact hr
  have hn : its.toArray.size = ds.length := PySem.W.readsAll_len hr'
  refine call_min_walkH (PySem.W.iter_tupleW (A := X.A.in1) (I.ok.hd hc) hl fun s₂ e W st hfp hw hk => ?_)
  refine ⟨_, _, _, _, _, _, _, s.heap, _, rfl, W, st, hfp, by omega, hw, hk, PySem.W.cmpIn_lt (A := X.A.in1) hr' ha (by show X.A.units + 1 + _ < _; omega), fun v s' hP m => ?_⟩
  obtain ⟨h', tk, rfl, hk'⟩ := PySem.W.moved_old e rfl m
  rw [hn] at hP
  have hP' : its[argBest (fun i j => PySem.W.dataLt (ds.getD i .none) (ds.getD j .none)) (ds.length - 1)]? = some v := by
    rw [← List.getElem?_toArray]; exact hP
  obtain ⟨x, hx, rx⟩ := vals_get rv hP'
  exact ⟨x, H, I.kept hk', rx, q x hx⟩
def opMinT : D → Option D
  | .tup (x :: l) => if alikeB (x :: l) then some (minG x l) else none
  | _ => none
theorem one_tup {K : PySem.W.Frag} {M : Mk} {H : Hp} {xs : List V} {ds : List D} {f : D → Option D} {d : D} (rs : RepAll K M H xs ds) (e : one1 f ds = some d) (hf : ∀ a d, f a = some d → ∃ l, a = .tup l) :
    ∃ a vs l, xs = [.ref a] ∧ ds = [.tup l] ∧ f (.tup l) = some d ∧ H a = some (.tup vs) ∧ ¬ M a ∧ RepAll K M H vs l := by
  match ds, rs, e with
  | [x], .cons r1 .nil, e =>
    obtain ⟨l, rfl⟩ := hf x d e
    cases r1 with
    | tup s n ra => exact ⟨_, _, l, rfl, rfl, e, s, n, ra⟩
def pMinT : Prim := { syn := callSyn "min", sem := one1 opMinT }
theorem minTG : PrimG pMinT := prim_blt (id := "min") (by decide) (by decide +kernel) (by decide) (by decide) fun X k W xo => by
  refine ⟨_, cr_minT xo.calm (by have := xo.room.un; omega), fun M H xs ds d Q dm rs e k => ?_⟩
  obtain ⟨a, vs, l, rfl, rfl, e, s, n, ra⟩ := one_tup rs e (fun a d h => by cases a <;> first | exact ⟨_, rfl⟩ | cases h)
  match l, ra, e with
  | [], _, e => cases e
  | x :: l, ra, e =>
    have e' : (if alikeB (x :: l) then some (minG x l) else none) = some d := e
    split at e'
    · rename_i hl
      cases e'
      obtain ⟨p, al, dp⟩ := alike_of hl
      refine ⟨a, vs, pyAll (x :: l), rfl, SqT.of s, RepAll.dp _ _ p ra, al, by rw [pyAll_len, List.length_cons]; omega, dp, fun v hv => ?_⟩
      have r := rep_get ra hv
      have fe : (fun i j => PySem.W.dataLt ((pyAll (x :: l)).getD i .none) ((pyAll (x :: l)).getD j .none)) = fun i j => ltD ((x :: l).getD i .non) ((x :: l).getD j .non) := by
        funext i j
        rw [py_getD, py_getD]; rfl
      rw [fe, pyAll_len, List.length_cons, Nat.add_sub_cancel, (PySem.W.argBest_fold ltD D.non x l l.length (Nat.le_refl _)).2, List.take_length] at r
      exact k _ _ (Same.refl H) r
    · cases e'
end PL

namespace PL
open PySem PySem.Spec PyProof.Rows L2
/-! ## in an except suite: a small part of the language -/
structure XH (X : Cx) (W : WX) : Prop where
  nd : X.N.Nodup
  un : X.A.units + 200 < cLine
  tk : Takes X W
  bf : ∀ x ∈ bnames, X.mg x = none
def PrimH (p : Prim) : Prop := ∀ X W, XH X W → PrimOk X W p
def AtomH (K : PySem.W.Frag) (mg : Str → Option Value) (q : Atom) : Prop := ∀ X W, XH X W → X.K = K → X.mg = mg → ∀ x, q.chk X.N X.env.scope x = true → PE X x (tS X W q.sem) ∧ PT X x (tST X W fun ρ => (q.sem ρ).bind truth)
theorem prim_binH {op : Operator} {same : Operator → Bool} {f : D → D → Option D} (hs : ∀ o, same o = true → o = op) (ho : ∀ X W, XH X W → OpT X (binaryOp op) f) : PrimH { syn := binSyn op same, sem := two f } := by
  intro X W xo
  obtain ⟨r, hr, hw⟩ := ho X W xo
  have main : ∀ {e : Expr} {es : List Expr} {ms : List (En → Res D)}, binSyn op same X.env.scope e = some es → PEs X W es ms → ∃ a b pos, e = .BinOp a op b pos ∧ PE X e (tS X W fun ρ => (seqM ms ρ).bind fun ds => ofO (two f ds)) := by
    intro e es ms h hp
    unfold binSyn at h
    split at h
    · rename_i a o b pos
      split at h
      · rename_i hso
        cases h
        obtain rfl := hs o hso
        obtain ⟨ma, mb, rfl, h1, h2, _, _⟩ := two_pes hp
        exact ⟨a, b, pos, rfl, pe_weak (pe_op hr h1 h2) fun σ H Q q => w_2 (fun M H x y d1 d2 d dm r1 r2 e k => hw M H x y d1 d2 d Q dm r1 r2 e k) q⟩
      · cases h
    · cases h
  refine ⟨fun h hp => (main h hp).choose_spec.choose_spec.choose_spec.2, (fun z => nomatch z), fun {e es ms} h hp => ?_⟩
  obtain ⟨a, b, pos, rfl, pe⟩ := main h hp
  exact pt_of_pe pe (fun _ => rfl)
theorem prim_cmpH {op : CmpOp} {same : CmpOp → Bool} {f : D → D → Option D} (hs : ∀ o, same o = true → o = op) (ho : ∀ X W, XH X W → OpT X (compareOp op) f) : PrimH { syn := cmpSyn same, sem := two f } := by
  intro X W xo
  obtain ⟨r, hr, hw⟩ := ho X W xo
  have main : ∀ {e : Expr} {es : List Expr} {ms : List (En → Res D)}, cmpSyn same X.env.scope e = some es → PEs X W es ms →
      PE X e (tS X W fun ρ => (seqM ms ρ).bind fun ds => ofO (two f ds)) ∧ PT X e (tST X W fun ρ => ((seqM ms ρ).bind fun ds => ofO (two f ds)).bind truth) := by
    intro e es ms h hp
    unfold cmpSyn at h
    split at h
    · rename_i a o b pos
      split at h
      · rename_i hso
        cases h
        rw [Bool.and_eq_true, Bool.not_eq_true'] at hso
        obtain rfl := hs o hso.1
        obtain ⟨ma, mb, rfl, h1, h2, _, _⟩ := two_pes hp
        refine ⟨pe_weak (pe_cmpR hr h1 h2 hso.2) fun σ H Q q => w_2 (fun M H x y d1 d2 d dm r1 r2 e k => hw M H x y d1 d2 d Q dm r1 r2 e k) q, pt_weak (pt_cmpR hr h1 h2 hso.2) fun σ H Q q => ?_⟩
        exact w_2 (fun M H x y d1 d2 d dm r1 r2 e k => hw M H x y d1 d2 d _ dm r1 r2 e k) (w_test q)
      · cases h
    · cases h
  exact ⟨fun h hp => (main h hp).1, (fun z => nomatch z), fun h hp => (main h hp).2⟩
theorem lstH : PrimH pLst := by
  intro X W xo
  have main : ∀ {e : Expr} {es : List Expr} {ms : List (En → Res D)}, lstSyn X.env.scope e = some es → PEs X W es ms → ∃ es pos, e = .List es pos ∧ PE X e (tF X W fun ρ => (seqM ms ρ).bind fun ds => ofO (mkLst ds)) := by
    intro e es ms h hp
    unfold lstSyn at h
    split at h
    · rename_i es' pos
      cases h
      refine ⟨_, pos, rfl, pe_weak (pe_lst hp.pa) fun σ H Q q => w_nF (r := fun xs H1 Q => xs.length ≤ sizeLine ∧ ∀ p, H1 p = none → Q (.ref p) (upd H1 p (.lst xs))) (fun M H xs ds d dm rs e k => ?_) q⟩
      unfold mkLst at e
      split at e
      · rename_i hl
        cases e
        obtain ⟨es, ee, k⟩ := k
        cases ee
        exact ⟨by rw [rs.length]; exact Nat.le_of_lt (small1000 hl), fun p n => k p xs _ (same_new n) n upd_same ((RepAll.ext (Ext.mark n) _ _ rs).same (same_new n))⟩
      · cases e
    · cases h
  have lst : ∀ (ms : List (En → Res D)) ρ d, ((seqM ms ρ).bind fun ds => ofO (mkLst ds)) = .ok d → ∃ l, d = .lst l := fun ms ρ d e => by
    obtain ⟨ds, _, e⟩ := Res.bind_eq_ok e
    unfold mkLst at e
    split at e
    · cases e; exact ⟨_, rfl⟩
    · cases e
  refine ⟨fun {e es ms} h hp => ?_, fun _ {e es ms} h hp => ?_, fun {e es ms} h hp => ?_⟩
  · obtain ⟨a, pos, rfl, pe⟩ := main h hp
    exact tF_S pe (lst ms)
  · obtain ⟨a, pos, rfl, pe⟩ := main h hp
    exact pe
  · obtain ⟨a, pos, rfl, pe⟩ := main h hp
    exact pt_of_pe (tF_S pe (lst ms)) (fun _ => rfl)
theorem ixH : PrimH pIx := by
  intro X W xo
  have main : ∀ {e : Expr} {es : List Expr} {ms : List (En → Res D)}, ixSyn X.env.scope e = some es → PEs X W es ms → ∃ a b pos, e = .Subscript a b pos ∧ PE X e (tS X W fun ρ => (seqM ms ρ).bind fun ds => ofO (two opIx ds)) := by
    intro e es ms h hp
    unfold ixSyn at h
    split at h
    · rename_i a b pos
      split at h
      · rename_i hns
        cases h
        obtain ⟨ma, mb, rfl, h1, h2, _, _⟩ := two_pes hp
        refine ⟨a, b, pos, rfl, pe_weak (pe_ix ix_seq h1 h2 (plainIx hns)) fun σ H Q q => w_2 (fun M H x y d1 d2 d dm r1 r2 e k => ?_) q⟩
        have e' : opIx d1 d2 = some d := e
        unfold opIx at e'
        split at e'
        · rename_i l i
          cases r1 with
          | lst s n ra =>
            cases r2
            obtain ⟨v, h3, h4⟩ := ra.at e'
            exact .inl ⟨_, _, i, v, rfl, rfl, SqL.of s, h3, k v H (Same.refl H) h4⟩
        · rename_i l i
          cases r1 with
          | tup s n ra =>
            cases r2
            obtain ⟨v, h3, h4⟩ := ra.at e'
            exact .inr (.inl ⟨_, _, i, v, rfl, rfl, SqT.of s, h3, k v H (Same.refl H) h4⟩)
        · rename_i l i
          cases r1 with
          | scr s =>
            cases r2
            cases e3 : atI l i with
            | none => rw [e3] at e'; cases e'
            | some j =>
              rw [e3] at e'
              cases e'
              exact .inl ⟨_, _, i, .int j, rfl, rfl, s.sq, atI_map e3, k _ H (Same.refl H) (.int j)⟩
        · rename_i s i
          split at e'
          · rename_i hl
            cases r1
            cases r2
            cases e3 : atI s.cps.toList i with
            | none => rw [e3] at e'; cases e'
            | some c =>
              rw [e3] at e'
              cases e'
              exact .inr (.inr ⟨s, i, c, rfl, rfl, sizeD_le hl, e3, k _ H (Same.refl H) (.str _)⟩)
          · cases e'
        · cases e'
      · cases h
    · cases h
  refine ⟨fun h hp => (main h hp).choose_spec.choose_spec.choose_spec.2, (fun z => nomatch z), fun {e es ms} h hp => ?_⟩
  obtain ⟨a, b, pos, rfl, pe⟩ := main h hp
  exact pt_of_pe pe (fun _ => rfl)
theorem addH : PrimH pAdd := prim_binH (fun o h => by cases o <;> first | rfl | cases h) fun X W xo => opT_add
theorem neH : PrimH pNe := prim_cmpH (op := .NotEq) (fun o h => by cases o <;> first | rfl | cases h) fun X W xo => opT_ne (by have := xo.un; omega)
theorem isXH {K : PySem.W.Frag} {mg : Str → Option Value} {i : Nat} {d : Str} {tab : List (Str × Bool)} (gt : ∀ p ∈ tab, ClsC K mg p.1 d p.2) (ne : tab ≠ []) : AtomH K mg (aIsi i d tab) := by
  intro X W xo eK eM x hc
  subst eK eM
  obtain ⟨⟨f, y, t⟩, e1, hc1⟩ := optM (o := asIsi x) (f := fun t => decide (t.1 = "isinstance") && glB X.env.scope t.1 && chkV X.N X.env.scope i t.2.1 && decide (t.2.2 = d) && glB X.env.scope d && okName d) hc
  obtain ⟨p, q, r, pos, rfl⟩ := asIsi_eq e1
  have hc2 : (((((f = "isinstance" ∧ glB X.env.scope f = true) ∧ chkV X.N X.env.scope i y = true) ∧ t = d) ∧ glB X.env.scope d = true) ∧ okName d = true) := by simpa using hc1
  obtain ⟨⟨⟨⟨⟨rfl, h1⟩, h2⟩, rfl⟩, h4⟩, h5⟩ := hc2
  obtain ⟨v1, v2, v3⟩ := chkV_of h2
  obtain ⟨p0, hp0⟩ : ∃ p0, p0 ∈ tab := List.exists_mem_of_ne_nil _ ne
  have cls : ∀ (c : Str) (b : Bool), (c, b) ∈ tab → ClsC X.K X.mg c t b := fun c b hb => gt (c, b) hb
  have named : ∃ (cV : V) (cv : Value), (∀ u, RelV cV u → u = cv) ∧ PE X (.Name t r) (tC cV) ∧ ∀ cv', ((∃ D, cv' = .ref D ∧ X.mg t = some cv') ∨ (X.mg t = none ∧ cv' = .type "ValueError" ∧ t = "ValueError")) → cv' = cv := by
    obtain ⟨E, cv, f1, f2, f3, f4, f5, f6⟩ := (cls p0.1 p0.2 hp0).ex
    rcases f4 with ⟨Dd, rfl, f7⟩ | ⟨f7, rfl, rfl⟩
    · refine ⟨.ref Dd, .ref Dd, fun u hu => hu, pe_glob (gl_of h4) f7 rfl (okName_of h5).1, fun cv' hv => ?_⟩
      rcases hv with ⟨D2, rfl, h⟩ | ⟨h, _, _⟩
      · exact Option.some.inj (h.symm.trans f7)
      · rw [f7] at h; cases h
    · refine ⟨.ty "ValueError", .type "ValueError", fun u hu => hu, pe_bltn (v := .ty "ValueError") (gl_of h4) f7 (by decide +kernel) rfl (by decide) (by decide), fun cv' hv => ?_⟩
      rcases hv with ⟨D2, rfl, h⟩ | ⟨_, h, _⟩
      · rw [f7] at h; cases h
      · exact h
  obtain ⟨cV, cv, g1, g2, g3⟩ := named
  have pe : PE X (.Call (.Name "isinstance" p) [.Name y q, .Name t r] [] pos) (tS X W (aIsi i t tab).sem) := by
    refine pe_weak (pe_callB call_isX (gl_of h1) (xo.bf _ (by decide)) (by decide +kernel) (pa_cons (pe_var v1 v2 (okName_of v3).1 (okName_of v3).2) (pa_cons g2 pa_nil)) (by decide) (by decide)) fun σ H Q hq => ?_
    obtain ⟨M, ρ, dm, re, o⟩ := hq
    have o1 : OutE X W M σ H Q (match ρ[i]? with
      | some (some (.exc c)) => (match tab.lookup c with
        | some b => .ok (.bl b)
        | none => .stuck)
      | _ => .stuck) := o
    cases e2 : ρ[i]? with
    | none => rw [e2] at o1; exact o1.elim
    | some w =>
      rw [e2] at o1
      cases w with
      | none => exact o1.elim
      | some dd =>
        cases dd with
        | exc c =>
          dsimp only at o1
          cases e3 : tab.lookup c with
          | none => rw [e3] at o1; exact o1.elim
          | some b =>
            rw [e3] at o1
            obtain ⟨v, hv, rv⟩ := re.get i _ e2
            cases rv with
            | exc n1 n2 n3 =>
              obtain ⟨E, cv2, f1, f2, f3, f4, f5, f6⟩ := (cls c b (lookup_mem e3)).ex
              have ec := g3 cv2 f4
              subst ec
              rw [f1] at n1
              cases n1
              exact ⟨_, hv, _, _, _, _, _, rfl, n2, g1, f3, f5, o1 _ _ (Same.refl H) (.bl b)⟩
        | _ => exact o1.elim
  exact ⟨pe, pt_of_pe pe (fun _ => rfl)⟩
mutual
def cool (K : PySem.W.Frag) (mg : Str → Option Value) : E → Prop
  | .v _ => True
  | .c _ => True
  | .prim p as => PrimH p ∧ coolL K mg as
  | .or a b => cool K mg a ∧ cool K mg b
  | .not a => cool K mg a
  | .atom q => AtomH K mg q
  | _ => False
def coolL (K : PySem.W.Frag) (mg : Str → Option Value) : EL → Prop
  | .nil => True
  | .cons a r => cool K mg a ∧ coolL K mg r
end
mutual
theorem snd_h : ∀ (e : E) {X : Cx} {W : WX}, XH X W → cool X.K X.mg e → ∀ x, chk X.N X.env.scope e x = true → SndE X W e x
  | .v i, X, W, xo, g, x, h => by
    cases x with
    | Name y p =>
      have h' : (X.N[i]? = some y ∧ visB X.env.scope y = true) ∧ okName y = true := by simpa [chk] using h
      obtain ⟨⟨h1, h2⟩, h3⟩ := h'
      obtain ⟨h4, h5⟩ := okName_of h3
      have pe : PE X (.Name y p) (tS X W (ev (.v i))) := pe_weak (pe_var h1 (vis_of h2) h4 h5) fun σ H Q q => by
        obtain ⟨M, ρ, dm, re, o⟩ := q
        have o' : OutE X W M σ H Q (getE ρ i) := o
        unfold getE at o'
        split at o'
        · rename_i d e
          obtain ⟨v, h6, h7⟩ := re.get i d e
          exact ⟨v, h6, o' v H (Same.refl H) h7⟩
        · exact o'.elim
      exact ⟨pe, pt_of_pe pe (fun _ => rfl), fun z => nomatch z⟩
    | _ => cases h
  | .c c, X, W, xo, g, x, h => by
    cases x with
    | Constant kk j p =>
      have h' : chkC c kk = true := h
      have pe : PE X (.Constant kk j p) (tS X W (ev (.c c))) := by
        cases c with
        | non =>
          cases kk with
          | none => exact pe_weak pe_non fun σ H Q ⟨M, ρ, dm, re, o⟩ => o _ H (Same.refl H) .non
          | _ => cases h'
        | bl b =>
          cases kk with
          | bool b' =>
            have e : b = b' := by simpa [chkC] using h'
            subst e
            exact pe_weak pe_bl fun σ H Q ⟨M, ρ, dm, re, o⟩ => o _ H (Same.refl H) (.bl b)
          | _ => cases h'
        | int i =>
          cases kk with
          | int b' =>
            have e : i = b' := by simpa [chkC] using h'
            subst e
            exact pe_weak pe_int fun σ H Q ⟨M, ρ, dm, re, o⟩ => o _ H (Same.refl H) (.int i)
          | _ => cases h'
        | str i =>
          cases kk with
          | str b' =>
            have e : i = b' := by simpa [chkC] using h'
            subst e
            exact pe_weak pe_str fun σ H Q ⟨M, ρ, dm, re, o⟩ => o _ H (Same.refl H) (.str i)
          | _ => cases h'
        | cls d b => cases kk <;> cases h'
        | fact φ => cases kk <;> cases h'
      exact ⟨pe, pt_of_pe pe (fun _ => rfl), fun z => nomatch z⟩
    | _ => cases h
  | .or a b, X, W, xo, g, x, h => by
    match x, h with
    | .BoolOp .Or (x1 :: y :: r) pos, h =>
      have sb : SndE X W a x1 ∧ PE X (.BoolOp .Or (y :: r) pos) (tS X W (ev b)) ∧ PW X (.BoolOp .Or (y :: r) pos) (tST X W fun ρ => (ev b ρ).bind truth) := by
        cases r with
        | nil =>
          have h' : chk X.N X.env.scope a x1 = true ∧ chk X.N X.env.scope b y = true := by simpa [chk] using h
          have sb := snd_h b xo g.2 y h'.2
          exact ⟨snd_h a xo g.1 x1 h'.1, pe_one sb.pe, pw_or1 sb.pt⟩
        | cons z r' =>
          have h' : chk X.N X.env.scope a x1 = true ∧ chk X.N X.env.scope b (.BoolOp .Or (y :: z :: r') pos) = true := by simpa [chk] using h
          have sb := snd_h b xo g.2 _ h'.2
          exact ⟨snd_h a xo g.1 x1 h'.1, sb.pe, pw_of_pt sb.pt⟩
      obtain ⟨sa, sb⟩ := sb
      refine ⟨pe_weak (pe_or sa.pe sb.1) fun σ H Q q => s_or q, pt_weak (PW.pt (pw_or sa.pt sb.2)) fun σ H Q q => t_or q, fun z => nomatch z⟩
  | .not a, X, W, xo, g, x, h => by
    match x, h with
    | .UnaryOp .Not x1 pos, h =>
      have sa := snd_h a xo g x1 h
      refine ⟨pe_weak (pe_not sa.pe) fun σ H Q q => s_not q, pt_weak (pt_not sa.pt) fun σ H Q q => t_not q, fun z => nomatch z⟩
  | .prim p as, X, W, xo, g, x, h => by
    have h' : (match p.syn X.env.scope x with | some es => chkL X.N X.env.scope as es | none => false) = true := h
    cases e1 : p.syn X.env.scope x with
    | none => rw [e1] at h'; cases h'
    | some es =>
      rw [e1] at h'
      obtain ⟨ms, hp, he⟩ := snd_hL as xo g.2 es h'
      have po := g.1 X W xo
      have ee : ev (.prim p as) = fun ρ => (seqM ms ρ).bind fun ds => ofO (p.sem ds) := by
        funext ρ
        show (evL as ρ).bind _ = _
        rw [he]
      refine ⟨?_, ?_, ?_⟩
      · rw [ee]; exact po.pe e1 hp
      · rw [ee]; exact po.pt e1 hp
      · intro hf; rw [ee]; exact po.fr hf e1 hp
  | .atom q, X, W, xo, g, x, h => by
    have g' : AtomH X.K X.mg q := g
    have h' : q.chk X.N X.env.scope x = true := by simpa [chk] using h
    exact ⟨(g' X W xo rfl rfl x h').1, (g' X W xo rfl rfl x h').2, fun z => nomatch z⟩
  | .g _ _, X, W, xo, g, x, h => g.elim
  | .and _ _, X, W, xo, g, x, h => g.elim
  | .ite _ _ _, X, W, xo, g, x, h => g.elim
  | .chain _ _ _ _ _ _ _, X, W, xo, g, x, h => g.elim
  | .call _ _ _, X, W, xo, g, x, h => g.elim
  | .comp _ _ _ _ _, X, W, xo, g, x, h => g.elim
theorem snd_hL : ∀ (l : EL) {X : Cx} {W : WX}, XH X W → coolL X.K X.mg l → ∀ es, chkL X.N X.env.scope l es = true → ∃ ms, PEs X W es ms ∧ ∀ ρ, evL l ρ = seqM ms ρ
  | .nil, X, W, xo, g, es, h => by
    cases es with
    | nil => exact ⟨[], .nil, fun _ => rfl⟩
    | cons a b => cases h
  | .cons a r, X, W, xo, g, es, h => by
    cases es with
    | nil => cases h
    | cons e es =>
      have h' : (chk X.N X.env.scope a e = true ∧ notStar e = true) ∧ chkL X.N X.env.scope r es = true := by simpa [chkL] using h
      obtain ⟨⟨h1, h2⟩, h3⟩ := h'
      obtain ⟨ms, hp, he⟩ := snd_hL r xo g.2 es h3
      refine ⟨ev a :: ms, .cons (snd_h a xo g.1 e h1).pe h2 hp, fun ρ => ?_⟩
      show (ev a ρ).bind (fun d => (evL r ρ).bind fun ds => .ok (d :: ds)) = (ev a ρ).bind (fun d => (seqM ms ρ).bind fun ds => .ok (d :: ds))
      rw [he]
end
theorem m1H {K : PySem.W.Frag} {mg : Str → Option Value} {name : Str} {id : String} {op : List D → D → Option D} {i : Nat} {a : E} (ga : cool K mg a)
    (slot : Slot "list" name id) (hty : typeOf (.builtin id) = pure (.type "method_descriptor"))
    (hr : ∀ (X : Cx) (W : WX), XH X W → ∃ r : V → List V → Hp → VK → Prop, MtR X id r ∧ ∀ (M : Mk) (H : Hp) (p : Addr) (y : V) (l : List D) (d z : D) (Q : VK), DomM M H → Rep X.K M H (.ref p) (.lst l) → Rep X.K M H y d → op l d = some z → (∀ v H', Same X.K H H' → Rep X.K M H' v z → Q v H') → r (.ref p) [y] H Q) : AtomH K mg (aM1 name op i a) := by
  intro X W xo eK eM x hc
  subst eK eM
  obtain ⟨⟨y, m, ap, v, cp⟩, e1, hc1⟩ := optM (o := asM1 x) (f := fun t => chkV X.N X.env.scope i t.1 && decide (t.2.1 = name) && (t.2.2.1.endLine == t.2.2.2.2.line) && chk X.N X.env.scope a t.2.2.2.1 && notStar t.2.2.2.1) hc
  obtain ⟨p, rfl⟩ := asM1_eq e1
  rw [Bool.and_eq_true, Bool.and_eq_true, Bool.and_eq_true, Bool.and_eq_true, decide_eq_true_eq] at hc1
  obtain ⟨⟨⟨⟨h1, h2⟩, h3⟩, h4⟩, h5⟩ := hc1
  have h2' : m = name := h2
  subst h2'
  obtain ⟨v1, v2, v3⟩ := chkV_of h1
  obtain ⟨r, mt, wr⟩ := hr X W xo
  have pe : PE X (.Call (.Attribute (.Name y p) m ap) [v] [] cp) (tS X W (aM1 m op i a).sem) := by
    refine pe_weak (pe_bm PySem.F.plainAttrs_list slot hty mt (pe_var v1 v2 (okName_of v3).1 (okName_of v3).2) (pa_cons (snd_h a xo ga v h4).pe pa_nil (star_of h5 _ X.env)) rfl (by rw [star_of h5]; rfl) h3 (star_of h5 _ X.env) rfl) fun σ H Q hq => ?_
    obtain ⟨M, ρ, dm, re, o⟩ := hq
    have o1 : OutE X W M σ H Q (match ρ[i]? with
      | some (some (.lst l)) => (noExc (ev a ρ)).bind fun d => ofO (op l d)
      | _ => .stuck) := o
    cases e2 : ρ[i]? with
    | none => rw [e2] at o1; exact o1.elim
    | some w =>
      rw [e2] at o1
      cases w with
      | none => exact o1.elim
      | some dd =>
        cases dd with
        | lst l =>
          dsimp only at o1
          obtain ⟨u, hu, ru⟩ := re.get i _ e2
          cases ru with
          | lst s n ra =>
            refine ⟨_, hu, .inl ⟨rfl, _, SqL.of s⟩, M, ρ, dm, re, ?_⟩
            cases e3 : ev a ρ with
            | ok d =>
              rw [e3] at o1
              intro w H1 s1 rw1
              have o2 : OutE X W M σ H Q (ofO (op l d)) := o1
              cases e4 : op l d with
              | none => rw [e4] at o2; exact o2.elim
              | some z =>
                rw [e4] at o2
                exact wr M H1 _ w l d z Q (dm.mono s1) (.lst (s1.get _ _ s) n (ra.same s1)) rw1 e4 fun v H' s' rv => o2 v H' (s1.trans s') rv
            | exc c => rw [e3] at o1; exact o1.elim
            | stuck => rw [e3] at o1; exact o1.elim
        | _ => exact o1.elim
  exact ⟨pe, pt_of_pe pe (fun _ => rfl)⟩
theorem countH {K : PySem.W.Frag} {mg : Str → Option Value} {i : Nat} {a : E} (ga : cool K mg a) : AtomH K mg (aCount i a) :=
  m1H ga PySem.F.slot_list_count PySem.F.type_list_count fun X W xo => ⟨_, mt_countD (by have := xo.un; omega), fun M H p y l d z Q dm r1 r2 e k => by
    unfold cntF at e
    split at e
    · rename_i hc
      cases e
      rw [Bool.and_eq_true] at hc
      unfold shp at hc
      rw [Bool.and_eq_true, Bool.and_eq_true] at hc
      refine ⟨p, y, d.py, pyAll l, rfl, rfl, Rep.dp _ _ hc.1.1 r1, Rep.dp _ _ hc.2.1 r2, hc.1.2, hc.2.2, ?_⟩
      rw [py_count]
      exact k _ H (Same.refl H) (.int _)
    · cases e⟩
theorem indexH {K : PySem.W.Frag} {mg : Str → Option Value} {i : Nat} {a : E} (ga : cool K mg a) : AtomH K mg (aIndex i a) :=
  m1H ga PySem.F.slot_list_index PySem.F.type_list_index fun X W xo => ⟨_, mt_indexD (by have := xo.un; omega), fun M H p y l d z Q dm r1 r2 e k => by
    unfold idxF at e
    split at e
    · rename_i hc
      rw [Bool.and_eq_true] at hc
      unfold shp at hc
      rw [Bool.and_eq_true, Bool.and_eq_true] at hc
      cases ef : l.findIdx? fun z => deq z d with
      | none => rw [ef] at e; cases e
      | some j =>
        rw [ef] at e
        cases e
        obtain ⟨hj, hj1, hj2⟩ := List.findIdx?_eq_some_iff_getElem.mp ef
        refine ⟨p, y, d.py, pyAll l, j, l[j].py, rfl, rfl, Rep.dp _ _ hc.1.1 r1, Rep.dp _ _ hc.2.1 r2, hc.1.2, hc.2.2, ?_, hj1, fun m z' hm hz => ?_, k _ H (Same.refl H) (.int _)⟩
        · rw [py_get, List.getElem?_eq_getElem hj]; rfl
        · have hm' : m < l.length := by omega
          rw [py_get, List.getElem?_eq_getElem hm'] at hz
          cases hz
          have := hj2 m hm
          simpa [deq] using this
    · cases e⟩
end PL

namespace PL
open PySem PySem.Spec PyProof.Rows L2
/-! ## statements there -/
structure XHS (X : Cx) (W : WX) : Prop extends XH X W where
  fnA : ∀ x, X.fn x = true
mutual
def coolS (K : PySem.W.Frag) (mg : Str → Option Value) : S → Prop
  | .nil => True
  | .cons a r => coolS1 K mg a ∧ coolS K mg r
  | .frz _ _ => False
def coolS1 (K : PySem.W.Frag) (mg : Str → Option Value) : S1 → Prop
  | .set _ _ e => cool K mg e
  | .ret e => cool K mg e
  | .ite c a b => cool K mg c ∧ coolS K mg a ∧ coolS K mg b
  | _ => False
end
theorem cool_comp {K : PySem.W.Frag} {mg : Str → Option Value} {e : E} (g : cool K mg e) : isComp e = false := by
  cases e <;> first | rfl | exact g.elim
section
variable {X : Cx} {W : WX} {H0 : Hp} {M0 : Mk}
theorem snd_hset {hd : Bool} {i : Nat} {e : E} (xo : XHS X W) (g : cool X.K X.mg e) {st : Stmt} (h : chkS1 X.N X.env.scope (.set hd i e) st = true) : PS X st (tSS X W H0 M0 (run1 (.set hd i e))) := by
  obtain ⟨⟨x, p, v⟩, e1, hh⟩ := optM (o := asName st) (f := fun t => chkNm X.N X.env.scope i (.Name t.1 t.2.1) && chk X.N X.env.scope e t.2.2 && (isComp e || notComp t.2.2)) h
  obtain ⟨pos, rfl⟩ := asName_eq e1
  rw [Bool.and_eq_true, Bool.and_eq_true] at hh
  have hn' : X.N[i]? = some x ∧ locB X.env.scope x = true := by simpa [chkNm] using hh.1.1
  obtain ⟨h1, h2⟩ := hn'
  have hv : notComp v = true := by
    have := hh.2
    rw [cool_comp g] at this
    simpa using this
  exact ps_weak (ps_set xo.nd h1 (loc_of h2) (snd_h e xo.toXH g v hh.1.2).pe (swaps_no hv) (.inl (xo.fnA x))) fun Dn σ H q => st_set q
theorem snd_hret {e : E} (xo : XHS X W) (g : cool X.K X.mg e) {st : Stmt} (h : chkS1 X.N X.env.scope (.ret e) st = true) : PS X st (tSS X W H0 M0 (run1 (.ret e))) := by
  obtain ⟨v, e1, hh⟩ := optM (o := asRet st) (f := fun v => chk X.N X.env.scope e v) h
  obtain ⟨pos, rfl⟩ := asRet_eq e1
  exact ps_weak (ps_ret (snd_h e xo.toXH g v hh).pe) fun Dn σ H q => st_ret q
end
mutual
theorem snd_hS : ∀ (b : S) {X : Cx} {W : WX} {H0 : Hp} {M0 : Mk}, XHS X W → coolS X.K X.mg b → ∀ sts, chkS X.N X.env.scope b sts = true → PSs X sts (tSS X W H0 M0 (run b))
  | .nil, X, W, H0, M0, xo, g, sts, h => by
    cases sts with
    | nil =>
      refine pss_weak pss_nil fun Dn σ H q => ?_
      obtain ⟨A, s, r, o⟩ := q
      exact o σ H A r (Frame.refl r.dm)
    | cons a b => cases h
  | .cons a r, X, W, H0, M0, xo, g, sts, h => by
    cases sts with
    | nil => cases h
    | cons st sts =>
      have h' : (chkS1 X.N X.env.scope a st && chkS X.N X.env.scope r sts) = true := h
      rw [Bool.and_eq_true] at h'
      exact pss_weak (pss_cons (snd_hS1 a xo g.1 st h'.1) (snd_hS r xo g.2 sts h'.2)) fun Dn σ H q => s_seq q
  | .frz _ _, X, W, H0, M0, xo, g, sts, h => g.elim
theorem snd_hS1 : ∀ (b : S1) {X : Cx} {W : WX} {H0 : Hp} {M0 : Mk}, XHS X W → coolS1 X.K X.mg b → ∀ st, chkS1 X.N X.env.scope b st = true → PS X st (tSS X W H0 M0 (run1 b))
  | .set hd i e, X, W, H0, M0, xo, g, st, h => snd_hset xo g h
  | .ret e, X, W, H0, M0, xo, g, st, h => snd_hret xo g h
  | .ite c a b, X, W, H0, M0, xo, g, st, h => by
    obtain ⟨⟨x, y, z⟩, e1, hh⟩ := optM (o := asIf st) (f := fun t => chk X.N X.env.scope c t.1 && chkS X.N X.env.scope a t.2.1 && chkS X.N X.env.scope b t.2.2) h
    obtain ⟨pos, rfl⟩ := asIf_eq e1
    rw [Bool.and_eq_true, Bool.and_eq_true] at hh
    exact ps_weak (ps_if (snd_h c xo.toXH g.1 x hh.1.1).pt (snd_hS a xo g.2.1 y hh.1.2) (snd_hS b xo g.2.2 z hh.2)) fun Dn σ H q => st_ite q
  | .own _ _ _, X, W, H0, M0, xo, g, st, h => g.elim
  | .unp _ _ _, X, W, H0, M0, xo, g, st, h => g.elim
  | .par _ _ _, X, W, H0, M0, xo, g, st, h => g.elim
  | .expr _, X, W, H0, M0, xo, g, st, h => g.elim
  | .app _ _ _, X, W, H0, M0, xo, g, st, h => g.elim
  | .extd _ _ _, X, W, H0, M0, xo, g, st, h => g.elim
  | .six _ _ _ _, X, W, H0, M0, xo, g, st, h => g.elim
  | .pop _, X, W, H0, M0, xo, g, st, h => g.elim
  | .for_ _ _ _, X, W, H0, M0, xo, g, st, h => g.elim
  | .while_ _ _ _, X, W, H0, M0, xo, g, st, h => g.elim
  | .raise _, X, W, H0, M0, xo, g, st, h => g.elim
  | .never, X, W, H0, M0, xo, g, st, h => g.elim
  | .atom _, X, W, H0, M0, xo, g, st, h => g.elim
end
/-! ## a def called there -/
structure FnW (P : Program) (w : World) (K : PySem.W.Frag) (mg : Str → Option Value) (base : Heap) (CX : CXT) (k : Nat) (f : Addr) (fd : FuncData) (ps : List Str) (sp : Sp) : Prop where
  len : ∀ vs H Q E, sp vs H Q E → vs.length = ps.length
  run : ∀ (A : Around) (outer : List Env) (s : Shared) (H : Hp) (args : Args) (us : List Value) (vs : List V) (Q : VK) (E : XK), L2H.RoomH k A → Env0 P w K mg base A outer s H → BindsTo s fd args (ps.zip us) → Vals vs us → sp vs H Q E →
    codeAny (model P w) A (.call (.ref f) args) (CR CX outer P w H s Q E) s
abbrev cxW (CX : CXT) (P : Program) (w : World) (K : PySem.W.Frag) (mg : Str → Option Value) (base : Heap) (N : List Str) (qual : Str) (scope : Scope) (f : Addr) (cd : Value) (A : Around) (outer : List Env) (s : Shared) (H : Hp) (E : XK) (o : Obj) : Cx := L2H.cxH CX P w K mg base N qual scope f cd A outer s H E (f, o)
/-- the def's own object lies there, out of reach -/
theorem pin_def {P : Program} {w : World} {K : PySem.W.Frag} {mg : Str → Option Value} {base : Heap} {A : Around} {outer : List Env} {s : Shared} {H : Hp} {f : Addr} {o : Obj} {fd : FuncData} (e0 : Env0 P w K mg base A outer s H) (lk : K.lookup f = some o) (d : o.data = .func fd) : L2H.PinOk outer H s (f, o) := by
  have b := e0.bs f o (e0.mod.kin f o lk)
  refine ⟨b.1, b.2, fun hm => ?_, fun v z => by rw [d] at z; cases z⟩
  obtain ⟨h1, o', e', hnf⟩ := e0.funs.mem hm
  have := e0.mod.kin f o lk
  rw [h1] at this
  cases this
theorem fn_ofW {CX : CXT} {P : Program} {w : World} {K : PySem.W.Frag} {mg : Str → Option Value} {base : Heap} {k : Nat} {f : Addr} {name qual : Str} {params : Arguments} {body : List Stmt} {scope : Scope} {dV kV doc pm cdv ct oc : Value} {an od : Option Addr}
    {osl : Array (Option Value)} {N ps : List Str} {sp : Sp} (lk : K.lookup f = some ⟨oc, od, .func (PySem.W.fnOf name qual params body scope dV kV doc pm an cdv ct), osl⟩) (hcd : PySem.W.codeIn K cdv qual = true) (S : FnScope N ps scope)
    (len : ∀ vs H Q E, sp vs H Q E → vs.length = ps.length)
    (hbody : ∀ (A : Around) (outer : List Env) (s : Shared) (H : Hp) (vs : List V) (Q : VK) (E : XK), L2H.RoomH k (A.deeper (envOfC qual scope s.heap.objs.size f cdv)) → sp vs H Q E →
      ∃ t, PSs (cxW CX P w K mg base N qual scope f cdv A outer s H E ⟨oc, od, .func (PySem.W.fnOf name qual params body scope dV kV doc pm an cdv ct), osl⟩) body t ∧ t { nx := fun _ H' => Q .non H', rt := Q } (L2.start N vs) H) :
    FnW P w K mg base CX (k + 1) f (PySem.W.fnOf name qual params body scope dV kV doc pm an cdv ct) ps sp := by
  refine ⟨len, fun A outer s H args us vs Q E hr e0 hb r hsp => ?_⟩
  have hl := len _ _ _ _ hsp
  have KX : K.In s.heap := e0.mod.kin.keeps fun b o e => (e0.bs b o e).1
  have lim : s.heap.NoLimit := e0.mod.nolimit.keeps fun b o e => (e0.bs b o e).1
  have hkind : ∀ y ∈ ps.zip us, scope.names.lookup y.1 = some .local ∨ (scope.names.lookup y.1 = some .cell ∧ ((cellsFrom (s.heap.objs.size + 1) scope.names []).lookup y.1).isSome = true) := fun ⟨n, v⟩ hy => by
    rcases S.par n (List.of_mem_zip hy).1 with q | q
    · exact .inl q
    · exact .inr ⟨q, PySem.W.cellsFrom_some _ _ _ (.inl q)⟩
  refine codeAny_call_function hr.depth (KX _ _ lk) rfl S.co S.gen rfl (PySem.W.codeRec_of KX hcd) (hb _ _ _ _ ?_)
  refine wpAny_newFunctionEnv_cells S.kind hkind fun env he s1 x => ?_
  subst he
  refine ⟨lim.keeps x.toInCall.keep, codeAny_func ?_⟩
  obtain ⟨t, ht, hq⟩ := hbody A outer s H vs Q E (hr.deeper _) hsp
  have I : Inv (cxW CX P w K mg base N qual scope f cdv A outer s H E ⟨oc, od, .func (PySem.W.fnOf name qual params body scope dV kV doc pm an cdv ct), osl⟩) [] (L2.start N vs) H s1 := L2H.inv_startH S (pin_def e0 lk rfl) e0 hl r x
  refine wpAny_mono (ht.run [] s1 (L2.start N vs) H _ I hq) (fun fl s' hs => ?_) fun e s' hs => hs
  have fin : ∀ {σ' : L2.St} {H' : Hp} {v : V} {u : Value}, Inv (cxW CX P w K mg base N qual scope f cdv A outer s H E ⟨oc, od, .func (PySem.W.fnOf name qual params body scope dV kV doc pm an cdv ct), osl⟩) [] σ' H' s' → RelV v u → Q v H' → CE outer P w H s Q u s' :=
    fun {σ' H' v u} J rv q => ⟨v, H', J.os, J.bare, J.base, J.hok, rv, q⟩
  cases fl with
  | ret u =>
    obtain ⟨v, σ', H', J, rv, q⟩ := hs
    exact fin J rv q
  | next =>
    obtain ⟨σ', H', J, q⟩ := hs
    exact fin (v := V.non) (u := Value.none) J rfl q
  | brk =>
    obtain ⟨_, _, _, q⟩ := hs
    exact False.elim q
  | cont =>
    obtain ⟨_, _, _, q⟩ := hs
    exact False.elim q
section
variable {X : Cx} {CX : CXT} {k : Nat} {f C : Addr} {fd : FuncData} {ps : List Str} {sp : Sp} {E : L2.St → XK} {x m : Str} {q pos apos : Pos} {e o : Expr} {es : List Expr} {ta : TE} {t : TA}
theorem pe_callW (F : FnW X.prog X.w X.K X.mg X.base CX k f fd ps sp) (hr : L2H.RoomH k X.A) (hg : Gl X x) (hm : X.mg x = some (.ref f)) (hk : PySem.W.keepIn X.K (.ref f) = true) (hb : Binds X.K fd ps []) (hx : ∀ σ, PassesAt CX X σ (E σ))
    (ha : PA X (e :: es) t) (hdb : (x == ("__debug__" : Str)) = false) (he : starEach (e :: es) X.env = (false, eval e X.env) :: starEach es X.env) (hpl : (backTo pos (starEach es X.env)).any (·.1) = false) :
    PE X (.Call (.Name x q) (e :: es) [] pos) (tCallS sp E t) := by
  refine ⟨fun pins s σ H Q I h => ?_⟩
  refine wpAny_Call_Name_kw (ld_glob I hg hm ?_ hdb)
  refine PySem.W.callWith_K (h₀ := X.base) I.ok.mod.kin hk (thn (ha.run pos pins s σ H _ I h) fun us s1 ⟨vs, H1, I1, r, q⟩ => ⟨I1.kIn, ?_⟩) he hpl
  have hl : us.length = ps.length := by rw [← r.length]; exact F.len _ _ _ _ q
  have b := hb s1 us I1.kIn (by rw [List.append_nil]; exact hl)
  rw [List.append_nil] at b
  refine wpAny_call (codeAny_mono (F.run X.A X.stack s1 H1 ⟨us, []⟩ us vs Q (E σ) hr I1.env0 b r q) fun r s' hq => ?_)
  cases r with
  | error e => exact hx σ pins H1 s1 e s' I1 hq
  | ok fl =>
    cases fl with
    | ret u => exact I1.after hq
    | next => exact False.elim hq
    | brk => exact False.elim hq
    | cont => exact False.elim hq
end
end PL

namespace PL
open PySem PySem.Spec PyProof.Rows L2
/-! ## a def of that small part, by its body -/
theorem fnW_of {P : Program} {w : World} {K : PySem.W.Frag} {mg : Str → Option Value} {base : Heap} {x qual : Str} {params : Arguments} {body : List Stmt} {scope : Scope} {kws : List (Str × V)} {f : Addr} {fd : FuncData} {N ps : List Str} {k : Nat} {b : S} (F : FunD K x qual params body scope [] kws f fd) (S : FnScope N ps scope)
    (bf : ∀ y ∈ bnames, mg y = none) (g : coolS K mg b) (hc : chkS N scope b body = true) : FnW P w K mg base (L2.CX P w) (k + 1) f fd ps (spD K mg ps.length (callD N.length ps.length b)) := by
  obtain ⟨oc, od, dV, kV, doc, pm, an, cdv, ct, osl, rfl, lk, hcd, _, _⟩ := F.ex
  refine fn_ofW lk hcd S (fun vs H Q E h => h.1) (fun A outer s H vs Q E hr h => ?_)
  obtain ⟨hl, th, M, ds, dm, rs, o⟩ := h
  have xo : XHS (cxW (L2.CX P w) P w K mg base N qual scope f cdv A outer s H E ⟨oc, od, .func (PySem.W.fnOf x qual params body scope dV kV doc pm an cdv ct), osl⟩) (fun cls d _ H => E cls d H) :=
    { nd := S.nd, un := (show (A.deeper (envOfC qual scope s.heap.objs.size f cdv)).units + 200 < cLine by have := hr.un; omega), tk := takes_of rfl rfl rfl rfl, bf := bf, fnA := fun _ => rfl }
  refine ⟨_, snd_hS b (H0 := H) (M0 := M) xo g body hc, (fun _ => []), startS N.length ds, relS_start th dm rs, ?_⟩
  unfold callD at o
  by_cases hd : ds.length = ps.length
  · rw [if_pos hd] at o
    cases e : run b (startS N.length ds) with
    | nx s' => rw [e] at o; exact fun σ' H' A' r' _ => o .non H' r'.same .non
    | rt d => rw [e] at o; exact fun v H' s' r' => o v H' s' r'
    | exc c => rw [e] at o; exact fun σ' H' s' _ => o H' s'
    | stuck => rw [e] at o; exact o
  · rw [if_neg hd] at o; exact o.elim
/-! ## told: try: return a() / except C as n: return g(n) -/
def asTold : List Stmt → Option (Str × Str × Str × Str × Str)
  | [.Try [.Return (some (.Call (.Name a _) [] [] _)) _] [.ExceptHandler (some (.Name C _)) (some n) [.Return (some (.Call (.Name g _) [.Name m _] [] _)) _] _] [] [] _] => some (a, C, n, g, m)
  | _ => none
theorem asTold_eq {b : List Stmt} {a C n g m : Str} (h : asTold b = some (a, C, n, g, m)) : ∃ p1 p2 p3 p4 p5 p6 p7 p8 p9 p10, b = [.Try [.Return (some (.Call (.Name a p1) [] [] p2)) p3] [.ExceptHandler (some (.Name C p4)) (some n) [.Return (some (.Call (.Name g p5) [.Name m p6] [] p7)) p8] p9] [] [] p10] := by
  unfold asTold at h
  split at h
  · cases h; exact ⟨_, _, _, _, _, _, _, _, _, _, rfl⟩
  · cases h
/-- what is known of such a def -/
structure ToldC (Γ : Gm) (x : Str) (tab : List (Str × Bool)) (csem : List D → Res D) : Prop where
  ex : ∃ (fd fdc : FuncData) (params : Arguments) (bg : List Stmt) (sg : Scope) (kws : List (Str × V)) (g fc CS : Addr) (Ng psc : List Str) (a C n gc : Str) (i : Nat), FunD Γ.K x x params bg sg [] kws g fd ∧ Γ.mg x = some (.ref g) ∧ Binds Γ.K fd [a] [] ∧ FnScope Ng [a] sg ∧ asTold bg = some (a, C, n, gc, n) ∧
    Ng[0]? = some a ∧ Ng[i]? = some n ∧ visB sg a = true ∧ okName a = true ∧ lclB sg n = true ∧ okName n = true ∧ glB sg C = true ∧ okName C = true ∧ glB sg gc = true ∧ okName gc = true ∧ Γ.mg C = some (.ref CS) ∧ (∀ p ∈ tab, ClsC Γ.K Γ.mg p.1 C p.2) ∧
    FnW Γ.prog Γ.w Γ.K Γ.mg Γ.base (L2.CX Γ.prog Γ.w) 1 fc fdc psc (spD Γ.K Γ.mg psc.length csem) ∧ psc.length = 1 ∧ Γ.mg gc = some (.ref fc) ∧ PySem.W.keepIn Γ.K (.ref fc) = true ∧ Binds Γ.K fdc psc []
/-- what an error of the lambda wishes -/
def EchT (K : PySem.W.Frag) (mg : Str → Option Value) (tab : List (Str × Bool)) (csem : List D → Res D) (Q : VK) : XK := fun cls d H' => ∃ c, cls = excV mg c ∧ tab.lookup c = some true ∧ d = none ∧ ∀ a, H' a = none → spD K mg 1 csem [.ref a] (upd H' a (ExC cls a)) Q (fun _ _ _ => False)
def TTl (K : PySem.W.Frag) (mg : Str → Option Value) (tab : List (Str × Bool)) (csem : List D → Res D) : (XK → Hp → VK → Prop) → Hp → VK → Prop := fun tl H Q => tl (EchT K mg tab csem Q) H Q
theorem told_givesC {X : Cx} {k : Nat} {x a C n gc q : Str} {Ng psc : List Str} {sg : Scope} {g fc CS : Addr} {cdg : Value} {bg : List Stmt} {fdc : FuncData} {tab : List (Str × Bool)} {csem : List D → Res D} {i : Nat} (hr : Room (k + 2) X.A) (hb : asTold bg = some (a, C, n, gc, n)) (hN : Ng.Nodup) (hi : Ng[i]? = some n) (h0 : ∀ f : Addr, (L2.start Ng [V.ref f])[0]? = some (some (V.ref f)))
    (hln : lclB sg n = true) (hon : okName n = true) (hgC : glB sg C = true) (hoC : okName C = true) (hgg : glB sg gc = true) (hog : okName gc = true) (mC : X.mg C = some (.ref CS)) (cl : ∀ p ∈ tab, ClsC X.K X.mg p.1 C p.2)
    (Fc : FnW X.prog X.w X.K X.mg X.base (L2.CX X.prog X.w) 1 fc fdc psc (spD X.K X.mg psc.length csem)) (hpl : psc.length = 1) (mg_ : X.mg gc = some (.ref fc)) (hk : PySem.W.keepIn X.K (.ref fc) = true) (bc : Binds X.K fdc psc []) :
    LamX.GivesTo X Ng x sg g cdg bg a q (TTl X.K X.mg tab csem) := by
  obtain ⟨p1, p2, p3, p4, p5, p6, p7, p8, p9, p10, rfl⟩ := asTold_eq hb
  intro f c' s H Q tl act hc h
  have hloc : sg.names.lookup n = some .local := lcl_of hln
  refine ⟨_, pss_one (ps_try_exc (X := (cxOf C8.CX0 X.prog X.w X.K X.mg X.base Ng x sg g cdg X.A X.stack s H C8.E0).nox) (c := .ref CS) (i := i)
      (tb := fun W D σ H => ∃ Ech : XK, (∀ cls d σ' H', Ech cls d H' → W cls d σ' H') ∧ σ[0]? = some (some (.ref f)) ∧ H c' = some (LamX.CodeO c' q) ∧ tl Ech H D.rt)
      rfl rfl rfl hN hi hloc ⟨gl_of hgC, (okName_of hoC).1, .inl mC⟩ LamX.takes0 (fun W pn xe tk _ => ?_) (fun a' cls pn => pss_one (ps_ret (pe_callW (k := 1) (E := fun σ => WE (fun _ _ _ _ => False) σ) Fc ?_ (gl_of hgg) mg_ hk bc (fun σ => passAt LamX.takes0 σ) (pa_cons (pe_var hi (.inl hloc) (okName_of hon).1 (okName_of hon).2) pa_nil) (okName_of hog).1 rfl rfl)))), ?_⟩
  · refine ⟨fun pins s' σ H' D I h' => ?_⟩
    obtain ⟨Ech, hW, h1, h2, h3⟩ := h'
    have hp := act W pn xe Ech p1 p2 tk hW
    exact (pss_one (ps_ret (pos := p3) hp)).run pins s' σ H' D I ⟨h1, h2, h3⟩
  · exact ⟨by have := hr.dp; show X.A.depth + 1 + 3 * 1 + 5 < _; omega, by have := hr.un; show X.A.units + 3 + 16 * 1 + 200 < _; omega⟩
  · refine ⟨EchT X.K X.mg tab csem Q, fun cls d σ' H' hE => ?_, h0 f, hc, h⟩
    obtain ⟨c, ec, et, ed, hs⟩ := hE
    obtain ⟨E, cv, f1, f2, f3, f4, f5, f6⟩ := (cl (c, true) (lookup_mem et)).ex
    have ecv : cv = .ref CS := by
      rcases f4 with ⟨D', rfl, h⟩ | ⟨h, _, _⟩
      · exact Option.some.inj (h.symm.trans mC)
      · rw [mC] at h; cases h
    subst ecv
    have ex : excV X.mg c = .ref E := by unfold excV; rw [f2]; rfl
    refine ⟨true, by rw [ec, ex]; exact f6, fun _ => ⟨ed, fun a' na hl => ?_⟩, fun z => by cases z⟩
    have hlt : i < σ'.length := by
      rw [hl]
      exact (List.getElem?_eq_some_iff.mp hi).1
    refine ⟨.ref a', List.getElem?_set_self hlt, ?_⟩
    have := hs a' na
    rw [hpl]
    exact this
/-! ## x(lambda: e), where x is such a def -/
def asLam : Expr → Option (Str × Arguments × Expr × Scope)
  | .Call (.Name x _) [.Lambda params body scope _] [] _ => some (x, params, body, scope)
  | _ => none
theorem asLam_eq {ex : Expr} {t : Str × Arguments × Expr × Scope} (h : asLam ex = some t) : ∃ p lp pos, ex = .Call (.Name t.1 p) [.Lambda t.2.1 t.2.2.1 t.2.2.2 lp] [] pos := by
  unfold asLam at h
  split at h
  · cases h; exact ⟨_, _, _, rfl⟩
  · cases h
def noParams : Arguments → Bool
  | ⟨[], [], none, [], [], none, []⟩ => true
  | _ => false
theorem noParams_eq {a : Arguments} (h : noParams a = true) : a = ⟨[], [], none, [], [], none, []⟩ := by
  unfold noParams at h
  split at h
  · rfl
  · cases h
def toldR (tab : List (Str × Bool)) (csem : List D → Res D) : Res D → Res D
  | .ok d => .ok d
  | .exc c => if tab.lookup c = some true then (match csem [.exc c] with
    | .ok d => .ok d
    | _ => .stuck) else .stuck
  | .stuck => .stuck
def aTold (x : Str) (e : E) (tab : List (Str × Bool)) (csem : List D → Res D) : Atom where
  chk := fun N sc ex => oB (asLam ex) fun t => decide (t.1 = x) && glB sc x && okName x && noParams t.2.1 && LamX.lamSB sc t.2.2.2 && chk N t.2.2.2 e t.2.2.1
  sem := fun ρ => toldR tab csem (ev e ρ)
/-- what the atom wants of the code around -/
def ToldF (x : Str) (e : E) (tab : List (Str × Bool)) (csem : List D → Res D) (Γ : Gm) : Prop :=
  ToldC Γ x tab csem ∧ (∃ n ∈ lamNames, Γ.Q = n ++ ".<locals>." ∧ ∀ p ∈ TK Γ.K, p.1 = (He.cT Γ.K (n, none)).2 → p.2 = n ++ ".<locals>." ++ "<lambda>") ∧ (∀ n ∈ lamNames, n.cps.back? ≠ some 62) ∧ ∃ k, Γ.k = k + 2 ∧ good (GoodF Γ.prog Γ.w Γ.K Γ.mg Γ.base k) (GC ⟨Γ.prog, Γ.w, Γ.K, Γ.mg, Γ.base, k, Γ.Q ++ "<lambda>" ++ ".<locals>."⟩) e
theorem lam_last {a n : Str} (hn : n.cps.back? ≠ some 62) (h : a ++ "<lambda>" ++ ".<locals>." = n ++ ".<locals>.") : False := by
  have q := str_cancel h
  subst q
  refine hn ?_
  show (a.cps ++ ("<lambda>" : Str).cps).back? = some 62
  rw [Array.back?_append]
  have h1 : ("<lambda>" : Str).cps.back? = some 62 := by decide
  rw [h1]
  rfl
end PL

namespace PL
open PySem PySem.Spec PyProof.Rows L2
theorem toldA {P : Str → (List D → Res D) → Prop} {C : Str → Cn → Prop} {x : Str} {e : E} {tab : List (Str × Bool)} {csem : List D → Res D} (h : C "" (.fact (ToldF x e tab csem))) : AtomG P C (aTold x e tab csem) := by
  intro X k W xo eP eC ex hc
  subst eP eC
  obtain ⟨T, ⟨n, hn, hq, hu⟩, hl, k', hk, g⟩ := (show ToldF x e tab csem (gm X k) from h)
  obtain ⟨⟨x', pa, body, scope⟩, e1, hh⟩ := optM (o := asLam ex) (f := fun t => decide (t.1 = x) && glB X.env.scope x && okName x && noParams t.2.1 && LamX.lamSB X.env.scope t.2.2.2 && chk X.N t.2.2.2 e t.2.2.1) hc
  obtain ⟨p, lp, pos, rfl⟩ := asLam_eq e1
  have hh' : ((((x' = x ∧ glB X.env.scope x = true) ∧ okName x = true) ∧ noParams pa = true) ∧ LamX.lamSB X.env.scope scope = true) ∧ chk X.N scope e body = true := by simpa using hh
  obtain ⟨⟨⟨⟨⟨rfl, h2⟩, h3⟩, h4⟩, h5⟩, h6⟩ := hh'
  have := noParams_eq h4
  subst this
  have hk2 : k = k' + 2 := hk
  subst hk2
  have hqe : X.env.qual = n ++ ".<locals>." := hq
  obtain ⟨fd, fdc, params, bg, sg, kws, ga, fc, CS, Ng, psc, a, CN, nn, gc, i, F, t1, t2, t3, t4, t5, t6, t7, t8, t9, t10, t11, t12, t13, t14, t15, t16, t17, t18, t19, t20, t21⟩ := T.ex
  obtain ⟨oc, od, dV, kV, doc, pm, an, cdv, ct, osl, rfl, lk, hcd, hkp, _⟩ := F.ex
  have h0 : ∀ f : Addr, (L2.start Ng [V.ref f])[0]? = some (some (V.ref f)) := fun f => by
    cases Ng with
    | nil => cases t5
    | cons y ys => rfl
  have hG := told_givesC (X := X) (k := k') (x := x') (q := X.env.qual ++ "<lambda>") (g := ga) (cdg := cdv) xo.room t4 t3.nd t6 h0 t9 t10 t11 t12 t13 t14 t15 t16 t17 t18 t19 t20 t21
  have pe : PE X (.Call (.Name x' p) [.Lambda ⟨[], [], none, [], [], none, []⟩ body scope lp] [] pos) (LamX.tLam (TK X.K) (TTl X.K X.mg tab csem) fun E => tS X (fun cls d _ H => E cls d H) (ev e)) :=
    by
    refine LamX.pe_lamcall (k := k') (gl_of h2) t1 ?_ lk hcd t2 t3 t5 (vis_of t7) hG (xo.tb n hn) (xo.cd n hn hqe) ?_ ?_ xo.room (LamX.lamS_by h5) ?_ ?_ ?_ (okName_of h3).1 (okName_of t8).1 (okName_of t8).2
    · exact F.kp
    · rw [hqe]; exact List.mem_map.mpr ⟨n, hn, rfl⟩
    · rw [hqe]; exact hu
    · rfl
    · intro q cl pm cv ctv; rfl
    · intro A outer s H E f c' hr
      have xo' : XOk (LamX.lamCx X A outer s H E scope f c') k' (fun cls d _ H => E cls d H) :=
        { calm := rfl, nd := xo.nd, room := hr, tk := takes_of rfl rfl rfl rfl, bf := xo.bf, tb := xo.tb, cd := fun n' hn' z => (lam_last (a := X.env.qual) (n := n') (hl n' hn') z).elim }
      exact (snd_e e xo' g body h6).pe
  have pe2 : PE X (.Call (.Name x' p) [.Lambda ⟨[], [], none, [], [], none, []⟩ body scope lp] [] pos) (tS X W fun ρ => toldR tab csem (ev e ρ)) := pe_weak pe fun σ H Q q => by
    obtain ⟨M, ρ, dm, re, o⟩ := q
    refine ⟨re.tab, fun H1 eN tT => ?_⟩
    have s1 : Same X.K H H1 := ⟨fun b o hb nt => eN b o hb nt, fun _ => tT⟩
    refine ⟨M, ρ, dm.mono s1, re.same s1, ?_⟩
    dsimp only at o
    cases ee : ev e ρ with
    | ok d => rw [ee] at o; exact fun v H' s' r => o v H' (s1.trans s') r
    | stuck => rw [ee] at o; exact o
    | exc c =>
      rw [ee] at o
      unfold toldR at o
      by_cases et : tab.lookup c = some true
      · dsimp only at o
        rw [if_pos et] at o
        intro H' s'
        obtain ⟨E, cv, f1, f2, f3, f4, f5, f6⟩ := (t16 (c, true) (lookup_mem et)).ex
        have exv : excV X.mg c = .ref E := by unfold excV; rw [show X.mg c = some (.ref E) from f2]; rfl
        refine ⟨c, rfl, et, rfl, fun a' na => ⟨rfl, ?_, M, [.exc c], ?_, ?_, ?_⟩⟩
        · exact (same_new na).tab (s'.tab tT)
        · exact (((dm.mono s1).mono s').mono (K := X.K) (same_new na))
        · refine .cons (.exc f1 ?_ ((((dm.mono s1).mono s')).fresh (Fr.of na))) .nil
          rw [upd_same, exv]
        · cases ec : csem [.exc c] with
          | ok d => rw [ec] at o; exact fun v H'' s'' r => o v H'' (s1.trans (s'.trans ((same_new na).trans s''))) r
          | exc c' => rw [ec] at o; exact o.elim
          | stuck => rw [ec] at o; exact o.elim
      · dsimp only at o
        rw [if_neg et] at o
        exact o.elim
  exact ⟨pe2, pt_of_pe pe2 fun _ => rfl⟩
/-- where the lambdas lie -/
def LamOk (Γ : Gm) : Prop := (∃ n ∈ lamNames, Γ.Q = n ++ ".<locals>." ∧ ∀ p ∈ TK Γ.K, p.1 = (He.cT Γ.K (n, none)).2 → p.2 = n ++ ".<locals>." ++ "<lambda>") ∧ ∀ n ∈ lamNames, n.cps.back? ≠ some 62
theorem lamOk_one {Γ : Gm} {n : Str} (h : lamNames = [n]) (hl : n.cps.back? ≠ some 62) (q : Γ.Q = n ++ ".<locals>.") : LamOk Γ := by
  refine ⟨⟨n, by rw [h]; exact List.mem_cons_self, q, fun p hp _ => ?_⟩, fun m hm => ?_⟩
  · unfold TK at hp
    rw [h] at hp
    obtain ⟨m, hm, rfl⟩ := List.mem_map.mp hp
    rw [List.mem_singleton.mp hm]
  · rw [h] at hm
    rw [List.mem_singleton.mp hm]
    exact hl
theorem toldAt {Γ : Gm} {x : Str} {e : E} {tab : List (Str × Bool)} {csem : List D → Res D} (k : Nat) (hk : Γ.k = k + 2) (T : ToldC Γ x tab csem) (L : LamOk Γ) (g : good (GoodF Γ.prog Γ.w Γ.K Γ.mg Γ.base k) (GC ⟨Γ.prog, Γ.w, Γ.K, Γ.mg, Γ.base, k, Γ.Q ++ "<lambda>" ++ ".<locals>."⟩) e) : GC Γ "" (.fact (ToldF x e tab csem)) :=
  ⟨T, L.1, L.2, k, hk, g⟩
end PL

namespace Pk21
noncomputable section
open PySem PySem.Spec PyProof.Rows L2 PL
def topS (i : Nat) : Stmt := PySem.Challenge.pw_tracklines_k21_whole_cells.main.body.getD i (.Pass ⟨0, 0, 0, 0⟩)
def N_is_whole : List Str := ["thing", "low", "high"]
def N_is_point : List Str := ["thing", "one"]
def N_is_track : List Str := ["thing", "point", "one", "other"]
def N_look_track : List Str := ["track"]
def N_cell_of : List Str := ["place", "size"]
def N_look_size : List Str := ["size"]
def N_cells : List Str := ["track", "size", "some", "point", "at", "one"]
def N_how_often : List Str := ["track", "size", "some", "point", "one"]
def N_looked : List Str := ["track"]
def N_snapped : List Str := ["track", "size", "time", "x", "y"]
def N__law_cell : List Str := ["script", "k"]
abbrev b__law_cell : S := PL.b__law_cell
abbrev f__law_cell : List D → Res D := PL.fCell
def N__law_pick : List Str := ["script", "k", "many", "drawn"]
abbrev b__law_pick : S := PL.b__law_pick
abbrev f__law_pick : List D → Res D := PL.fPick
def N__law_track : List Str := ["script", "at", "most", "many", "wide", "time", "x", "y", "made", "k"]
def N__law_class : List Str := ["kept", "kinds", "some"]
def b__law_class : S :=
  (.cons (.set true 1 (.prim pLst (.cons (.atom (aIsi 0 "NoBack" [("NoTrack", false), ("NoTime", false), ("NoNumber", false), ("NoText", false), ("NoBack", true), ("NoName", false), ("NoZone", false)])) (.cons (.atom (aIsi 0 "NoName" [("NoTrack", false), ("NoTime", false), ("NoNumber", false), ("NoText", false), ("NoBack", false), ("NoName", true), ("NoZone", false)])) (.cons (.atom (aIsi 0 "NoNumber" [("NoTrack", false), ("NoTime", false), ("NoNumber", true), ("NoText", false), ("NoBack", false), ("NoName", false), ("NoZone", false)])) (.cons (.atom (aIsi 0 "NoText" [("NoTrack", false), ("NoTime", false), ("NoNumber", false), ("NoText", true), ("NoBack", false), ("NoName", false), ("NoZone", false)])) .nil))))))
  (.cons (.set true 1 (.prim pAdd (.cons (.v 1) (.cons (.prim pLst (.cons (.atom (aIsi 0 "NoTime" [("NoTrack", false), ("NoTime", true), ("NoNumber", false), ("NoText", false), ("NoBack", false), ("NoName", false), ("NoZone", false)])) (.cons (.atom (aIsi 0 "NoTrack" [("NoTrack", true), ("NoTime", false), ("NoNumber", false), ("NoText", false), ("NoBack", false), ("NoName", false), ("NoZone", false)])) (.cons (.atom (aIsi 0 "NoZone" [("NoTrack", false), ("NoTime", false), ("NoNumber", false), ("NoText", false), ("NoBack", false), ("NoName", false), ("NoZone", true)])) .nil)))) .nil))))
  (.cons (.ite (.or (.prim pNe (.cons (.atom (aCount 1 (.c (.bl true)))) (.cons (.c (.int 1)) .nil))) (.not (.atom (aIsi 0 "ValueError" [("NoTrack", true), ("NoTime", true), ("NoNumber", true), ("NoText", true), ("NoBack", true), ("NoName", true), ("NoZone", true)]))))
  (.cons (.ret (.c (.str "wrong")))
  .nil)
  .nil)
  (.cons (.set true 2 (.prim pLst (.cons (.c (.str "no back")) (.cons (.c (.str "no name")) (.cons (.c (.str "no number")) (.cons (.c (.str "no text")) (.cons (.c (.str "no time")) (.cons (.c (.str "no track")) (.cons (.c (.str "no zone")) .nil)))))))))
  (.cons (.ret (.prim pIx (.cons (.v 2) (.cons (.atom (aIndex 1 (.c (.bl true)))) .nil))))
  .nil)))))
def f__law_class : List D → Res D := callD 3 1 b__law_class
def N__law_told : List Str := ["deed", "e"]

def N_law : List Str := ["script", "track", "size", "some", "due", "cell", "book", "made", "told", "every", "time", "x", "y", "point", "often"]
def b_law : S :=
  (.cons (.par true [(false, 1), (false, 2)] (.cons (.call "_law_track" f__law_track (.cons (.v 0) (.cons (.c (.int 100)) (.cons (.c (.int 12)) .nil)))) (.cons (.prim pAdd (.cons (.c (.int 1)) (.cons (.call "_law_pick" f__law_pick (.cons (.v 0) (.cons (.c (.int 0)) (.cons (.prim pIx (.cons (.prim pLst (.cons (.c (.int 4)) (.cons (.c (.int 20)) (.cons (.c (.int 99)) .nil)))) (.cons (.call "_law_pick" f__law_pick (.cons (.v 0) (.cons (.c (.int 1)) (.cons (.c (.int 3)) .nil)))) .nil))) .nil)))) .nil))) .nil)))
  (.cons (.set true 3 (.comp [("time", 10), ("x", 11), ("y", 12)] (.tup [10, 11, 12]) (.seq (.v 1)) .none (.prim pTup (.cons (.prim pFdv (.cons (.prim pSub (.cons (.v 11) (.cons (.prim pMod (.cons (.v 11) (.cons (.v 2) .nil))) .nil))) (.cons (.v 2) .nil))) (.cons (.prim pFdv (.cons (.prim pSub (.cons (.v 12) (.cons (.prim pMod (.cons (.v 12) (.cons (.v 2) .nil))) .nil))) (.cons (.v 2) .nil))) .nil)))))
  (.cons (.own true 4 (.prim pLst .nil))
  (.cons (.for_ (.name 5) (.seq (.v 3))
  (.cons (.ite (.or (.prim pEq (.cons (.v 4) (.cons (.prim pLst .nil) .nil))) (.prim pNe (.cons (.prim pIx (.cons (.v 4) (.cons (.prim pNeg (.cons (.c (.int 1)) .nil)) .nil))) (.cons (.v 5) .nil))))
  (.cons (.app true 4 (.v 5))
  .nil)
  .nil)
  .nil))
  (.cons (.ite (.prim pNe (.cons (.call "cells" f_cells (.cons (.v 1) (.cons (.v 2) .nil))) (.cons (.v 4) .nil)))
  (.cons (.ret (.c (.bl false)))
  .nil)
  .nil)
  (.cons (.atom (aNewD true 6))
  (.cons (.for_ (.name 5) (.seq (.v 3))
  (.cons (.atom (aPutD false 6 (.v 5) (.prim pAdd (.cons (.atom (aGetD (.v 6) (.v 5) (.c (.int 0)))) (.cons (.c (.int 1)) .nil)))))
  .nil))
  (.cons (.ite (.prim pNe (.cons (.call "how_often" f_how_often (.cons (.v 1) (.cons (.v 2) .nil))) (.cons (.atom (aItems (.v 6))) .nil)))
  (.cons (.ret (.c (.bl false)))
  .nil)
  .nil)
  (.cons (.set true 7 (.prim pTupleOf (.cons (.comp [("time", 10), ("x", 11), ("y", 12)] (.tup [10, 11, 12]) (.seq (.v 1)) .none (.prim pTup (.cons (.v 10) (.cons (.prim pSub (.cons (.v 11) (.cons (.prim pMod (.cons (.v 11) (.cons (.v 2) .nil))) .nil))) (.cons (.prim pSub (.cons (.v 12) (.cons (.prim pMod (.cons (.v 12) (.cons (.v 2) .nil))) .nil))) .nil))))) .nil)))
  (.cons (.set true 8 (.atom (aTold "_law_told" (.call "snapped" f_snapped (.cons (.v 1) (.cons (.v 2) .nil))) [("NoTrack", true), ("NoTime", true), ("NoNumber", true), ("NoText", true), ("NoBack", true), ("NoName", true), ("NoZone", true)] f__law_class)))
  (.cons (.ite (.prim pNe (.cons (.comp [("point", 13)] (.name 13) (.seq (.v 7)) (.some (.prim pLt (.cons (.prim pMinT (.cons (.prim pSlL (.cons (.v 13) (.cons (.c (.int 1)) .nil))) .nil)) (.cons (.prim pNeg (.cons (.c (.int 99)) .nil)) .nil)))) (.v 13)) (.cons (.prim pLst .nil) .nil)))
  (.cons (.ret (.prim pEq (.cons (.v 8) (.cons (.c (.str "no track")) .nil))))
  .nil)
  .nil)
  (.cons (.ite (.or (.prim pNe (.cons (.v 8) (.cons (.v 7) .nil))) (.or (.prim pNe (.cons (.call "snapped" f_snapped (.cons (.v 7) (.cons (.v 2) .nil))) (.cons (.v 7) .nil))) (.prim pNe (.cons (.call "cells" f_cells (.cons (.v 7) (.cons (.v 2) .nil))) (.cons (.v 4) .nil)))))
  (.cons (.ret (.c (.bl false)))
  .nil)
  .nil)
  (.cons (.set true 9 (.prim pSum (.cons (.comp [("cell", 5), ("often", 14)] (.tup [5, 14]) (.seq (.call "how_often" f_how_often (.cons (.v 1) (.cons (.c (.int 1)) .nil)))) .none (.v 14)) .nil)))
  (.cons (.ret (.and (.prim pEq (.cons (.call "snapped" f_snapped (.cons (.v 1) (.cons (.c (.int 1)) .nil))) (.cons (.v 1) .nil))) (.prim pEq (.cons (.v 9) (.cons (.prim pLen (.cons (.v 1) .nil)) .nil)))))
  .nil))))))))))))))

end
end Pk21
namespace Pk21
open PySem PySem.Spec PyProof.Rows PL
open L2 hiding prD ltP R2
/-! ## each cell but those as the one ahead -/
noncomputable def dueB : S := S.loop (S.drop b_law 3)
theorem sh_prs (l : List P2) : ∀ d ∈ l.map PL.prD, Sh 1 d := fun d hd => by
  obtain ⟨c, _, rfl⟩ := List.mem_map.mp hd
  exact sh_pr2 c
theorem due_step {ns : List Int} {T : List P3} {s : Int} {S3 : List D} {acc : List P2} {a c : P2} {A5 : Sl} (ha : acc.getLast? = some a) (hl : acc.length < 1000) : PL.run dueB [.ro (.scr ns), .ro (trk T), .ro (.int s), .ro (.lst S3), .own (acc.map PL.prD), .ro (PL.prD c), .no, .no, .no, .no, .no, .no, .no, .no, .no] = .nx [.ro (.scr ns), .ro (trk T), .ro (.int s), .ro (.lst S3), .own ((if c = a then acc else acc ++ [c]).map PL.prD), .ro (PL.prD c), .no, .no, .no, .no, .no, .no, .no, .no, .no] := by
  have ne : acc ≠ [] := fun z => by rw [z] at ha; cases ha
  have c1 : opEq (.lst (acc.map PL.prD)) (.lst []) = some (.bl false) := (eq_nil (n := 1) (sh_prs acc) (by decide)).trans (by cases acc with | nil => exact absurd rfl ne | cons => rfl)
  have c2 : opIx (.lst (acc.map PL.prD)) (.int (-1)) = some (PL.prD a) := atI_last (getLast_map _ ha)
  have cnd : ev (.or (.prim pEq (.cons (.v 4) (.cons (.prim pLst .nil) .nil))) (.prim pNe (.cons (.prim pIx (.cons (.v 4) (.cons (.prim pNeg (.cons (.c (.int 1)) .nil)) .nil))) (.cons (.v 5) .nil)))) (full [.ro (.scr ns), .ro (trk T), .ro (.int s), .ro (.lst S3), .own (acc.map PL.prD), .ro (PL.prD c), .no, .no, .no, .no, .no, .no, .no, .no, .no]) = .ok (.bl (!decide (a = c))) := eorF (e2 (x := .lst (acc.map PL.prD)) (y := .lst []) rfl rfl c1) (e2 (x := PL.prD a) (y := PL.prD c) (e2 (x := .lst (acc.map PL.prD)) rfl (e1 (x := .int 1) ki rfl) c2) rfl (ne_pr a c))
  by_cases e : c = a
  · rw [if_pos e]
    exact riteF (cnd.trans (by rw [decide_eq_true e.symm]; rfl)) rfl
  · rw [if_neg e]
    refine rite (k := true) (cnd.trans (by rw [decide_eq_false fun z => e z.symm]; rfl)) ?_
    rw [if_pos rfl]
    refine nx_seq (rapp (l := acc.map PL.prD) (d := PL.prD c) rfl rfl rfl ?_ ?_) rfl
    · rw [List.length_map]; exact Nat.lt_trans hl (by decide : 1000 < sizeD)
    · show Out.nx _ = _
      rw [List.map_append]; rfl
theorem due_loop {ns : List Int} {T : List P3} {s : Int} {S3 : List D} : ∀ (r : List P2) (acc : List P2) (a : P2) (A5 : Sl), acc.getLast? = some a → acc.length + r.length < 1000 → ∃ B5, forM (fun s => PL.run dueB s) (.name 5) (r.map PL.prD) [.ro (.scr ns), .ro (trk T), .ro (.int s), .ro (.lst S3), .own (acc.map PL.prD), A5, .no, .no, .no, .no, .no, .no, .no, .no, .no] = .nx [.ro (.scr ns), .ro (trk T), .ro (.int s), .ro (.lst S3), .own ((acc ++ ddA a r).map PL.prD), B5, .no, .no, .no, .no, .no, .no, .no, .no, .no]
  | [], acc, a, A5, _, _ => ⟨A5, by show Out.nx _ = _; rw [show ddA a [] = [] from rfl, List.append_nil]⟩
  | c :: r, acc, a, A5, ha, hl => by
    rw [List.length_cons] at hl
    have st := due_step (ns := ns) (T := T) (s := s) (S3 := S3) (acc := acc) (a := a) (c := c) (A5 := A5) ha (by omega)
    by_cases e : c = a
    · subst e
      rw [if_pos rfl] at st
      obtain ⟨B5, ih⟩ := due_loop (ns := ns) (T := T) (s := s) (S3 := S3) r acc c (.ro (PL.prD c)) ha (by omega)
      refine ⟨B5, ?_⟩
      have ed : ddA c (c :: r) = ddA c r := if_pos rfl
      rw [ed]
      exact for_name st ih
    · rw [if_neg e] at st
      obtain ⟨B5, ih⟩ := due_loop (ns := ns) (T := T) (s := s) (S3 := S3) r (acc ++ [c]) c (.ro (PL.prD c)) List.getLast?_concat (by rw [List.length_append, List.length_singleton]; omega)
      refine ⟨B5, ?_⟩
      have ed : ddA a (c :: r) = c :: ddA c r := if_neg e
      rw [ed]
      rw [List.append_assoc] at ih
      exact for_name st ih
theorem due_ok {ns : List Int} {T : List P3} {s : Int} {S3 : List D} (l : List P2) (hl : l.length < 900) : ∃ B5, forM (fun s => PL.run dueB s) (.name 5) (l.map PL.prD) [.ro (.scr ns), .ro (trk T), .ro (.int s), .ro (.lst S3), .own [], .no, .no, .no, .no, .no, .no, .no, .no, .no, .no] = .nx [.ro (.scr ns), .ro (trk T), .ro (.int s), .ro (.lst S3), .own ((dd l).map PL.prD), B5, .no, .no, .no, .no, .no, .no, .no, .no, .no] := by
  cases l with
  | nil => exact ⟨.no, rfl⟩
  | cons a r =>
    rw [List.length_cons] at hl
    obtain ⟨B5, ih⟩ := due_loop (ns := ns) (T := T) (s := s) (S3 := S3) r [a] a (.ro (PL.prD a)) rfl (by rw [List.length_singleton]; omega)
    refine ⟨B5, for_name (s1 := [.ro (.scr ns), .ro (trk T), .ro (.int s), .ro (.lst S3), .own ([a].map PL.prD), .ro (PL.prD a), .no, .no, .no, .no, .no, .no, .no, .no, .no]) ?_ ih⟩
    refine rite (k := true) (eorT (e2 (x := .lst []) (y := .lst []) rfl rfl rfl)) ?_
    rw [if_pos rfl]
    exact nx_seq (rapp (l := []) (d := PL.prD a) rfl rfl rfl (by decide) rfl) rfl
/-! ## how often each cell is there: a book -/
def addN : List KN → List Int → List KN
  | [], c => [(c, 1)]
  | e :: r, c => if e.1 = c then (e.1, e.2 + 1) :: r else e :: addN r c
def ksOf (k : List KN) : List (List L2.Key) := k.map fun e => e.1.map Sum.inl
def dsOf (k : List KN) : List D := k.map fun e => D.int e.2
theorem inl_inj {a b : List Int} (h : a.map (Sum.inl : Int → L2.Key) = b.map Sum.inl) : a = b := (List.map_inj_right (fun x y z => Sum.inl.inj z)).mp h
theorem look_of : ∀ (k : List KN) (c : List Int), ((lookG (ksOf k) (dsOf k) (c.map Sum.inl)).getD (.int 0)) = .int (lookN k c)
  | [], c => rfl
  | e :: r, c => by
    show ((if e.1.map (Sum.inl : Int → L2.Key) = c.map Sum.inl then some (D.int e.2) else lookG (ksOf r) (dsOf r) (c.map Sum.inl)).getD (.int 0)) = .int (if e.1 = c then e.2 else lookN r c)
    by_cases h : e.1 = c
    · rw [if_pos (by rw [h]), if_pos h]; rfl
    · rw [if_neg (fun z => h (inl_inj z)), if_neg h]; exact look_of r c
theorem put_of : ∀ (k : List KN) (c : List Int), putG (ksOf k) (dsOf k) (c.map Sum.inl) (.int (lookN k c + 1)) = (ksOf (addN k c), dsOf (addN k c))
  | [], c => rfl
  | e :: r, c => by
    by_cases h : e.1 = c
    · have e1 : lookN (e :: r) c = e.2 := if_pos h
      have e2 : addN (e :: r) c = (e.1, e.2 + 1) :: r := if_pos h
      rw [e1, e2]
      show (if e.1.map (Sum.inl : Int → L2.Key) = c.map Sum.inl then _ else _) = _
      rw [if_pos (by rw [h])]; rfl
    · have e1 : lookN (e :: r) c = lookN r c := if_neg h
      have e2 : addN (e :: r) c = e :: addN r c := if_neg h
      rw [e1, e2]
      show (if e.1.map (Sum.inl : Int → L2.Key) = c.map Sum.inl then _ else (e.1.map Sum.inl :: (putG (ksOf r) (dsOf r) (c.map Sum.inl) (.int (lookN r c + 1))).1, [D.int e.2] ++ (putG (ksOf r) (dsOf r) (c.map Sum.inl) (.int (lookN r c + 1))).2)) = _
      rw [if_neg (fun z => h (inl_inj z)), put_of r c]; rfl
theorem add_mem : ∀ (k : List KN) (c x : List Int), x ∈ (addN k c).map (·.1) ↔ x = c ∨ x ∈ k.map (·.1)
  | [], c, x => by simp [addN]
  | e :: r, c, x => by
    unfold addN
    split
    · rename_i h
      subst h
      simp
    · rw [List.map_cons, List.mem_cons, add_mem r c x, List.map_cons, List.mem_cons]
      constructor
      · rintro (h | h | h)
        · exact .inr (.inl h)
        · exact .inl h
        · exact .inr (.inr h)
      · rintro (h | h | h)
        · exact .inr (.inl h)
        · exact .inl h
        · exact .inr (.inr h)
theorem add_nd : ∀ (k : List KN) (c : List Int), (k.map (·.1)).Nodup → ((addN k c).map (·.1)).Nodup
  | [], c, _ => by simp [addN]
  | e :: r, c, h => by
    rw [List.map_cons, List.nodup_cons] at h
    unfold addN
    split
    · rw [List.map_cons, List.nodup_cons]; exact h
    · rename_i ne
      rw [List.map_cons, List.nodup_cons]
      exact ⟨fun z => ((add_mem r c _).mp z).elim ne h.1, add_nd r c h.2⟩
theorem add_len : ∀ (k : List KN) (c : List Int), (addN k c).length ≤ k.length + 1
  | [], c => Nat.le_refl _
  | e :: r, c => by
    unfold addN
    split
    · exact Nat.le_succ _
    · have := add_len r c
      rw [List.length_cons, List.length_cons]; omega
theorem add_look : ∀ (k : List KN) (c x : List Int), lookN (addN k c) x = lookN k x + if c = x then 1 else 0
  | [], c, x => by
    show (if c = x then (1 : Int) else 0) = 0 + _
    rw [Int.zero_add]
  | e :: r, c, x => by
    unfold addN
    by_cases h : e.1 = c
    · rw [if_pos h]
      show (if e.1 = x then e.2 + 1 else lookN r x) = (if e.1 = x then e.2 else lookN r x) + _
      rw [← h]
      by_cases z : e.1 = x
      · rw [if_pos z, if_pos z, if_pos z]
      · rw [if_neg z, if_neg z, if_neg z, Int.add_zero]
    · rw [if_neg h]
      show (if e.1 = x then e.2 else lookN (addN r c) x) = (if e.1 = x then e.2 else lookN r x) + _
      by_cases z : e.1 = x
      · rw [if_pos z, if_pos z, if_neg (fun y => h (z.trans y.symm)), Int.add_zero]
      · rw [if_neg z, if_neg z, add_look r c x]
def pk (c : P2) : List Int := [c.1, c.2]
theorem pk_inj {a b : P2} (h : pk a = pk b) : a = b := by
  unfold pk at h
  injection h with h1 h2
  injection h2 with h2 _
  exact Prod.ext h1 h2
def bookN (L : List P2) : List KN := L.foldl (fun k c => addN k (pk c)) []
noncomputable def bkB : S := S.loop (S.drop b_law 6)
theorem get_book (k : List KN) (c : P2) : getD (.dcT (ksOf k) (dsOf k)) (PL.prD c) = some (lookG (ksOf k) (dsOf k) ((pk c).map Sum.inl)) := rfl
theorem ks_nd {k : List KN} (h : (k.map (·.1)).Nodup) : (ksOf k).Nodup := by
  unfold ksOf
  have e : k.map (fun e => e.1.map (Sum.inl : Int → L2.Key)) = (k.map (·.1)).map fun c => c.map Sum.inl := by rw [List.map_map]; rfl
  rw [e]
  exact List.pairwise_map.mpr (List.Pairwise.imp (fun {a b} hn z => hn (inl_inj z)) h)
theorem egetD {o e f : E} {ρ : En} {d k z : D} {r : Option D} (h1 : ev o ρ = .ok d) (hd : isDct d = true) (h2 : ev e ρ = .ok k) (h3 : ev f ρ = .ok z) (h4 : getD d k = some r) : ev (.atom (aGetD o e f)) ρ = .ok (r.getD z) := by
  show (ev o ρ).bind _ = _
  rw [h1]
  show (if isDct d then _ else _) = _
  rw [if_pos hd, h2]
  show (ev f ρ).bind _ = _
  rw [h3]
  show ofO ((getD d k).map fun o => o.getD z) = _
  rw [h4]; rfl
theorem rputD {h : Bool} {i : Nat} {x e : E} {s : SE} {d v k d' : D} {r : S} {o : Out} (hs : s[i]? = some (.odt d)) (h1 : ev e (see h s) = .ok v) (h2 : ev x (full s) = .ok k) (ho : okFor h v = true) (hp : putDD d k v = some d') (h3 : PL.run r (s.set i (.odt d')) = o) : PL.run (.cons (.atom (aPutD h i x e)) r) s = o := by
  show seqO (withDat s i fun d => outE (ev e (see h s)) fun v => outE (noExc (ev x (full s))) fun k => if okFor h v then ofD i s (putDD d k v) else .stuck) (fun s => PL.run r s) = _
  unfold withDat
  rw [hs]
  dsimp only
  rw [h1, h2]
  show seqO (if okFor h v then ofD i s (putDD d k v) else .stuck) _ = _
  rw [if_pos ho, hp]
  exact h3
theorem bk_loop {ns : List Int} {T : List P3} {s : Int} {S3 : List D} {A4 : Sl} : ∀ (r : List P2) (k : List KN) (A5 : Sl), (k.map (·.1)).Nodup → k.length + r.length < 1000 → ∃ B5, forM (fun s => PL.run bkB s) (.name 5) (r.map PL.prD) [.ro (.scr ns), .ro (trk T), .ro (.int s), .ro (.lst S3), A4, A5, .odt (.dcT (ksOf k) (dsOf k)), .no, .no, .no, .no, .no, .no, .no, .no] = .nx [.ro (.scr ns), .ro (trk T), .ro (.int s), .ro (.lst S3), A4, B5, .odt (.dcT (ksOf (r.foldl (fun k c => addN k (pk c)) k)) (dsOf (r.foldl (fun k c => addN k (pk c)) k))), .no, .no, .no, .no, .no, .no, .no, .no]
  | [], k, A5, _, _ => ⟨A5, rfl⟩
  | c :: r, k, A5, nd, hl => by
    rw [List.length_cons] at hl
    have al := add_len k (pk c)
    obtain ⟨B5, ih⟩ := bk_loop (ns := ns) (T := T) (s := s) (S3 := S3) (A4 := A4) r (addN k (pk c)) (.ro (PL.prD c)) (add_nd k _ nd) (by omega)
    refine ⟨B5, for_name (s1 := [.ro (.scr ns), .ro (trk T), .ro (.int s), .ro (.lst S3), A4, .ro (PL.prD c), .odt (.dcT (ksOf (addN k (pk c))) (dsOf (addN k (pk c)))), .no, .no, .no, .no, .no, .no, .no, .no]) ?_ ih⟩
    refine rputD (s := [.ro (.scr ns), .ro (trk T), .ro (.int s), .ro (.lst S3), A4, .ro (PL.prD c), .odt (.dcT (ksOf k) (dsOf k)), .no, .no, .no, .no, .no, .no, .no, .no]) (d := .dcT (ksOf k) (dsOf k)) (v := .int (lookN k (pk c) + 1)) (k := PL.prD c) (d' := .dcT (ksOf (addN k (pk c))) (dsOf (addN k (pk c)))) rfl (eadd ((egetD (d := .dcT (ksOf k) (dsOf k)) (k := PL.prD c) (z := .int 0) rfl rfl rfl ki (get_book k c)).trans (congrArg Res.ok (look_of k (pk c)))) ki) rfl rfl ?_ rfl
    show (if (ksOf k).Nodup ∧ (dsOf k).length < sizeD then some (D.dcT (putG (ksOf k) (dsOf k) ((pk c).map Sum.inl) (.int (lookN k (pk c) + 1))).1 (putG (ksOf k) (dsOf k) ((pk c).map Sum.inl) (.int (lookN k (pk c) + 1))).2) else none) = _
    rw [if_pos ⟨ks_nd nd, by unfold dsOf; rw [List.length_map]; exact Nat.lt_trans (by omega : k.length < 1000) (by decide : 1000 < sizeD)⟩, put_of]
theorem fold_look : ∀ (L : List P2) (k : List KN) (x : P2), lookN (L.foldl (fun k c => addN k (pk c)) k) (pk x) = lookN k (pk x) + ((L.count x : Nat) : Int)
  | [], k, x => by show lookN k (pk x) = lookN k (pk x) + ((0 : Nat) : Int); omega
  | c :: L, k, x => by
    show lookN (L.foldl (fun k c => addN k (pk c)) (addN k (pk c))) (pk x) = _
    rw [fold_look L, add_look, List.count_cons]
    by_cases e : c = x
    · subst e
      rw [if_pos rfl, beq_self_eq_true, if_pos rfl]
      omega
    · rw [if_neg (fun z => e (pk_inj z)), if_neg (by simpa using e)]
      omega
theorem fold_mem : ∀ (L : List P2) (k : List KN) (x : List Int), x ∈ (L.foldl (fun k c => addN k (pk c)) k).map (·.1) ↔ x ∈ L.map pk ∨ x ∈ k.map (·.1)
  | [], k, x => by simp
  | c :: L, k, x => by
    show x ∈ (L.foldl (fun k c => addN k (pk c)) (addN k (pk c))).map (·.1) ↔ _
    rw [fold_mem L, add_mem, List.map_cons, List.mem_cons]
    constructor
    · rintro (h | h | h)
      · exact .inl (.inr h)
      · exact .inl (.inl h)
      · exact .inr h
    · rintro ((h | h) | h)
      · exact .inr (.inl h)
      · exact .inl h
      · exact .inr (.inr h)
theorem fold_nd : ∀ (L : List P2) (k : List KN), (k.map (·.1)).Nodup → ((L.foldl (fun k c => addN k (pk c)) k).map (·.1)).Nodup
  | [], k, h => h
  | c :: L, k, h => fold_nd L _ (add_nd k _ h)
theorem fold_len : ∀ (L : List P2) (k : List KN), (L.foldl (fun k c => addN k (pk c)) k).length ≤ k.length + L.length
  | [], k => Nat.le_refl _
  | c :: L, k => by
    have h1 := fold_len L (addN k (pk c))
    have h2 := add_len k (pk c)
    show (L.foldl (fun k c => addN k (pk c)) (addN k (pk c))).length ≤ _
    rw [List.length_cons]; omega
theorem items_are (L : List P2) (hl : L.length < 60) : opItems (.dcT (ksOf (bookN L)) (dsOf (bookN L))) = some (.lst ((ssP L).map (oftD L))) := by
  have nd : ((bookN L).map (·.1)).Nodup := fold_nd L [] (by simp)
  have ln : (bookN L).length ≤ L.length := by have := fold_len L []; rw [List.length_nil, Nat.zero_add] at this; exact this
  have e1 : intKs (ksOf (bookN L)) = some ((bookN L).map (·.1)) := by
    have : ksOf (bookN L) = ((bookN L).map (·.1)).map fun c => c.map Sum.inl := by unfold ksOf; rw [List.map_map]; rfl
    rw [this]; exact intKs_map _
  have e2 : intsD (dsOf (bookN L)) = some ((bookN L).map (·.2)) := by
    have : dsOf (bookN L) = ((bookN L).map (·.2)).map D.int := by unfold dsOf; rw [List.map_map]; rfl
    rw [this]; exact intsD_map _
  have ez : ((bookN L).map (·.1)).zip ((bookN L).map (·.2)) = bookN L := by
    have : ∀ l : List KN, (l.map (·.1)).zip (l.map (·.2)) = l := fun l => by
      induction l with
      | nil => rfl
      | cons e l ih => rw [List.map_cons, List.map_cons, List.zip_cons_cons, ih]
    exact this _
  have sk : (ssP L).map pk = ssL ((bookN L).map (·.1)) := by
    refine ssL_is ?_ fun x => ?_
    · rw [List.pairwise_map]
      refine (ssP_pw L).imp fun {a b} h => ?_
      unfold pk
      rw [HT.lexLt_cons, HT.lexLt_cons]
      rcases h with h | ⟨h, h2⟩
      · rw [if_neg (by omega)]; exact decide_eq_true h
      · rw [if_pos h, if_neg (by omega)]; exact decide_eq_true h2
    · unfold bookN
      rw [fold_mem]
      constructor
      · intro h
        obtain ⟨c, hc, rfl⟩ := List.mem_map.mp h
        exact .inl (List.mem_map.mpr ⟨c, (ssP_mem _ _).mp hc, rfl⟩)
      · rintro (h | h)
        · obtain ⟨c, hc, rfl⟩ := List.mem_map.mp h
          exact List.mem_map.mpr ⟨c, (ssP_mem _ _).mpr hc, rfl⟩
        · cases h
  unfold opItems
  dsimp only
  rw [e1]
  show (intsD (dsOf (bookN L))).bind _ = _
  rw [e2]
  dsimp only [Option.bind]
  rw [if_pos ⟨nd, by rw [List.length_map, List.length_map], by rw [List.length_map]; omega⟩, ez, ← sk, List.map_map]
  refine congrArg (fun z => some (D.lst z)) (List.map_congr_left fun c _ => ?_)
  show D.tup [tupI (pk c), .int (lookN (bookN L) (pk c))] = oftD L c
  unfold bookN
  rw [fold_look]
  show D.tup [tupI (pk c), .int (0 + ((L.count c : Nat) : Int))] = _
  rw [Int.zero_add]; rfl
/-! ## the law -/
theorem sub_mod {x s : Int} : x - x % s = x / s * s := by
  have := Int.emod_add_mul_ediv x s
  rw [Int.mul_comm] at this
  omega
theorem cls1 : f__law_class [.exc "NoTrack"] = .ok (.str "no track") := by rfl
theorem snap_pt {s : Int} {p : P3} (h1 : 1 ≤ s) (h2 : s ≤ 99) (i : InPt p) : (snapP s p).1 = p.1 ∧ (snapP s p).2.1 ≤ 99 ∧ (snapP s p).2.2 ≤ 99 := by
  obtain ⟨a1, a2, a3, a4, a5, a6⟩ := i
  refine ⟨rfl, ?_, ?_⟩
  · show p.2.1 / s * s ≤ 99
    rw [← sub_mod]
    have := Int.emod_nonneg p.2.1 (show s ≠ 0 by omega)
    omega
  · show p.2.2 / s * s ≤ 99
    rw [← sub_mod]
    have := Int.emod_nonneg p.2.2 (show s ≠ 0 by omega)
    omega
def lowB (p : P3) : Bool := decide (p.2.1 < -99) || decide (p.2.2 < -99)
theorem good_snap {T : List P3} {s : Int} (G : Good T) (h1 : 1 ≤ s) (h2 : s ≤ 99) (h : ∀ p ∈ T.map (snapP s), lowB p = false) : Good (T.map (snapP s)) := by
  refine ⟨by rw [List.length_map]; exact G.ne, by rw [List.length_map]; exact G.le, fun p hp => ?_, rise_map (f := snapP s) (fun p q h => h) _ G.up⟩
  have l := h p hp
  obtain ⟨q, hq, rfl⟩ := List.mem_map.mp hp
  obtain ⟨b1, b2, b3⟩ := snap_pt h1 h2 (G.pt q hq)
  have := G.pt q hq
  unfold lowB at l
  rw [Bool.or_eq_false_iff, decide_eq_false_iff_not, decide_eq_false_iff_not] at l
  unfold InPt at this ⊢
  omega
theorem bad_snap {T : List P3} {p : P3} (hp : p ∈ T) (h : lowB p = true) : trackB (trk T) = false := by
  cases e : trackB (trk T) with
  | false => rfl
  | true =>
    obtain ⟨W, e1, G⟩ := track_is e
    have m : ptD p ∈ W.map ptD := by
      have e2 : T.map ptD = W.map ptD := D.tup.inj e1
      rw [← e2]; exact List.mem_map_of_mem hp
    obtain ⟨q, hq, eq⟩ := List.mem_map.mp m
    have i := G.pt q hq
    have e3 : [D.int q.1, .int q.2.1, .int q.2.2] = [.int p.1, .int p.2.1, .int p.2.2] := D.tup.inj eq
    injection e3 with x1 x2
    injection x2 with x2 x3
    injection x3 with x3 _
    injection x2 with x2
    injection x3 with x3
    unfold lowB at h
    rw [Bool.or_eq_true, decide_eq_true_eq, decide_eq_true_eq] at h
    unfold InPt at i
    omega
theorem etoldE {x : Str} {e : E} {tab : List (Str × Bool)} {csem : List D → Res D} {ρ : En} {c : Str} {d : D} (h : ev e ρ = .exc c) (hl : tab.lookup c = some true) (hc : csem [.exc c] = .ok d) : ev (.atom (aTold x e tab csem)) ρ = .ok d := by
  show toldR tab csem (ev e ρ) = _
  rw [h]
  show (if tab.lookup c = some true then _ else _) = _
  rw [if_pos hl, hc]
theorem etoldV {x : Str} {e : E} {tab : List (Str × Bool)} {csem : List D → Res D} {ρ : En} {d : D} (h : ev e ρ = .ok d) : ev (.atom (aTold x e tab csem)) ρ = .ok d := by
  show toldR tab csem (ev e ρ) = _
  rw [h]; rfl
theorem min_pl (p : P3) : opMinT (plD p) = some (.int (min p.2.1 p.2.2)) := by
  have h : alikeB [.int p.2.1, .int p.2.2] = true := rfl
  show (if alikeB [.int p.2.1, .int p.2.2] then some (minG (.int p.2.1) [.int p.2.2]) else none) = _
  rw [h, if_pos rfl]
  show some (if ltD (.int p.2.2) (.int p.2.1) then D.int p.2.2 else .int p.2.1) = _
  have e : ltD (.int p.2.2) (.int p.2.1) = decide (p.2.2 < p.2.1) := PySem.W.dataLt_int _ _
  rw [e]
  by_cases z : p.2.2 < p.2.1
  · rw [decide_eq_true z, if_pos rfl, Int.min_eq_right (by omega)]
  · rw [decide_eq_false z, if_neg (by decide), Int.min_eq_left (by omega)]
theorem low_min (p : P3) : decide (min p.2.1 p.2.2 < -99) = lowB p := by
  unfold lowB
  rw [← Bool.decide_or]
  exact decide_eq_decide.mpr (by omega)
theorem sh_lprs (l : List P2) : Sh 2 (.lst (l.map PL.prD)) := Sh.lst (n := 1) (sh_prs l)
theorem sh_oft (L M : List P2) : Sh 3 (.lst (M.map (oftD L))) := Sh.lst (n := 2) fun d hd => by
  obtain ⟨c, _, rfl⟩ := List.mem_map.mp hd
  exact Sh.tup (n := 1) fun d hd => by
    simp only [List.mem_cons, List.not_mem_nil, or_false] at hd
    rcases hd with rfl | rfl
    · exact sh_pr2 c
    · exact Sh.int 1 _
theorem snap_one (T : List P3) : T.map (snapP 1) = T := by
  refine (List.map_congr_left fun p _ => ?_).trans (List.map_id _)
  show (p.1, p.2.1 / 1 * 1, p.2.2 / 1 * 1) = p
  rw [Int.ediv_one, Int.ediv_one, Int.mul_one, Int.mul_one]
theorem snap_two {s : Int} (h : 1 ≤ s) (T : List P3) : (T.map (snapP s)).map (snapP s) = T.map (snapP s) := by
  rw [List.map_map]
  refine List.map_congr_left fun p _ => ?_
  show (p.1, p.2.1 / s * s / s * s, p.2.2 / s * s / s * s) = (p.1, p.2.1 / s * s, p.2.2 / s * s)
  rw [Int.mul_ediv_cancel _ (by omega), Int.mul_ediv_cancel _ (by omega)]
theorem law_true (ns : List Int) (_ : ns.length ≤ 63) : callD 15 1 b_law [.scr ns] = .ok (.bl true) := by
  have t1 := drawn_ok (ns := ns) (at_ := 100) (most := 12) (by decide) (by decide) (by decide) (by decide)
  have G : Good (trackT ns 100 12) := trackT_good (by decide) (by decide)
  generalize trackT ns 100 12 = T at *
  have h12 := G.le
  have s0 := pickI_nn ns 1 (m := 3) (by decide)
  have s1 := pickI_lt ns 1 (m := 3) (by decide)
  have p1 := pick_ok (ns := ns) (k := 1) (m := 3) (by decide) (by decide) (by decide)
  obtain ⟨w, hw⟩ : ∃ w, w = sel3 4 20 99 (pickI ns 1 3) := ⟨_, rfl⟩
  have wi := sel3_in 4 20 99 (pickI ns 1 3)
  rw [← hw] at wi
  have ixw := ix3 4 20 99 s0 s1
  rw [← hw] at ixw
  have p0 := pick_ok (ns := ns) (k := 0) (m := w) (by decide) (by decide) (by omega)
  have q0 := pickI_nn ns 0 (m := w) (by omega)
  have q1 := pickI_lt ns 0 (m := w) (by omega)
  obtain ⟨s, hs⟩ : ∃ s, s = 1 + pickI ns 0 w := ⟨_, rfl⟩
  have h1 : 1 ≤ s := by omega
  have h2 : s ≤ 99 := by omega
  refine rcall rfl (rpar (s := [.ro (.scr ns), .no, .no, .no, .no, .no, .no, .no, .no, .no, .no, .no, .no, .no, .no]) (s' := [.ro (.scr ns), .ro (trk T), .ro (.int s), .no, .no, .no, .no, .no, .no, .no, .no, .no, .no, .no, .no]) (ds := [trk T, .int s]) (lc (ec (lc rfl (lc ki (lc ki l0))) t1) (lc ?_ l0)) rfl ?_)
  · rw [hs]
    exact eadd ki (ec (lc rfl (lc ki (lc (e2 (x := .lst [.int 4, .int 20, .int 99]) rfl (ec (lc rfl (lc ki (lc ki l0))) p1) ixw) l0))) p0)
  refine rset (s := [.ro (.scr ns), .ro (trk T), .ro (.int s), .no, .no, .no, .no, .no, .no, .no, .no, .no, .no, .no, .no]) (d := .lst ((T.map (cellP s)).map PL.prD)) ?_ rfl ?_
  · refine (ecomp T ptD (fun p => PL.prD (cellP s p)) rfl (by omega) fun p _ => ⟨_, rfl, PL.en (ds := [.int (p.2.1 / s), .int (p.2.2 / s)]) (lc ?_ (lc ?_ l0)) rfl⟩).trans (by rw [List.map_map]; rfl)
    · have := efdv (a := .prim pSub (.cons (.v 11) (.cons (.prim pMod (.cons (.v 11) (.cons (.v 2) .nil))) .nil))) (b := .v 2) (ρ := full [.ro (.scr ns), .ro (trk T), .ro (.int s), .no, .no, .no, .no, .no, .no, .no, .ro (.int p.1), .ro (.int p.2.1), .ro (.int p.2.2), .no, .no]) (esub (x := p.2.1) (y := p.2.1 % s) rfl (emod rfl rfl (by omega))) rfl (div_small (by omega) (by omega))
      rw [sub_mod, Int.mul_ediv_cancel _ (by omega)] at this
      exact this
    · have := efdv (a := .prim pSub (.cons (.v 12) (.cons (.prim pMod (.cons (.v 12) (.cons (.v 2) .nil))) .nil))) (b := .v 2) (ρ := full [.ro (.scr ns), .ro (trk T), .ro (.int s), .no, .no, .no, .no, .no, .no, .no, .ro (.int p.1), .ro (.int p.2.1), .ro (.int p.2.2), .no, .no]) (esub (x := p.2.2) (y := p.2.2 % s) rfl (emod rfl rfl (by omega))) rfl (div_small (by omega) (by omega))
      rw [sub_mod, Int.mul_ediv_cancel _ (by omega)] at this
      exact this
  obtain ⟨L, hL⟩ : ∃ L, L = T.map (cellP s) := ⟨_, rfl⟩
  have ll : L.length ≤ 12 := by rw [hL, List.length_map]; exact h12
  have co := cells_ok G h1 h2
  have oo := often_ok G h1 h2
  rw [← hL] at co oo ⊢
  refine rown (s := [.ro (.scr ns), .ro (trk T), .ro (.int s), .ro (.lst (L.map PL.prD)), .no, .no, .no, .no, .no, .no, .no, .no, .no, .no, .no]) (l := []) rfl rfl ?_
  obtain ⟨B5, lp⟩ := due_ok (ns := ns) (T := T) (s := s) (S3 := L.map PL.prD) L (by omega)
  refine rfor (s := [.ro (.scr ns), .ro (trk T), .ro (.int s), .ro (.lst (L.map PL.prD)), .own [], .no, .no, .no, .no, .no, .no, .no, .no, .no, .no]) (iseq rfl rfl) lp ?_
  refine riteF (s := [.ro (.scr ns), .ro (trk T), .ro (.int s), .ro (.lst (L.map PL.prD)), .own ((dd L).map PL.prD), B5, .no, .no, .no, .no, .no, .no, .no, .no, .no]) (e2 (x := .lst ((dd L).map PL.prD)) (y := .lst ((dd L).map PL.prD)) (ec (lc rfl (lc rfl l0)) co) rfl (ne_refl (sh_lprs _) (by decide))) ?_
  obtain ⟨C5, lq⟩ := bk_loop (ns := ns) (T := T) (s := s) (S3 := L.map PL.prD) (A4 := .own ((dd L).map PL.prD)) L [] B5 (by simp) (by rw [List.length_nil]; omega)
  refine rc (s' := [.ro (.scr ns), .ro (trk T), .ro (.int s), .ro (.lst (L.map PL.prD)), .own ((dd L).map PL.prD), B5, .odt (.dcT [] []), .no, .no, .no, .no, .no, .no, .no, .no]) rfl ?_
  refine rfor (s := [.ro (.scr ns), .ro (trk T), .ro (.int s), .ro (.lst (L.map PL.prD)), .own ((dd L).map PL.prD), B5, .odt (.dcT [] []), .no, .no, .no, .no, .no, .no, .no, .no]) (iseq rfl rfl) lq ?_
  refine riteF (s := [.ro (.scr ns), .ro (trk T), .ro (.int s), .ro (.lst (L.map PL.prD)), .own ((dd L).map PL.prD), C5, .odt (.dcT (ksOf (bookN L)) (dsOf (bookN L))), .no, .no, .no, .no, .no, .no, .no, .no]) (e2 (x := .lst ((ssP L).map (oftD L))) (y := .lst ((ssP L).map (oftD L))) (ec (lc rfl (lc rfl l0)) oo) (eitems (d := .dcT (ksOf (bookN L)) (dsOf (bookN L))) rfl (items_are L (by omega))) (ne_refl (sh_oft L _) (by decide))) ?_
  obtain ⟨M, hM⟩ : ∃ M, M = T.map (snapP s) := ⟨_, rfl⟩
  obtain ⟨A4, hA4⟩ : ∃ A4 : List D, A4 = (dd L).map PL.prD := ⟨_, rfl⟩
  obtain ⟨A6, hA6⟩ : ∃ A6 : D, A6 = .dcT (ksOf (bookN L)) (dsOf (bookN L)) := ⟨_, rfl⟩
  rw [← hA4, ← hA6]
  refine rset (s := [.ro (.scr ns), .ro (trk T), .ro (.int s), .ro (.lst (L.map PL.prD)), .own A4, C5, .odt A6, .no, .no, .no, .no, .no, .no, .no, .no]) (d := trk M) ?_ rfl ?_
  · refine (e1 (ecomp T ptD (fun p => ptD (snapP s p)) (iseq rfl rfl) (by omega) (fun p _ => ⟨_, rfl, PL.en (ds := [.int p.1, .int (p.2.1 / s * s), .int (p.2.2 / s * s)]) (lc rfl (lc ((esub rfl (emod rfl rfl (by omega))).trans (by rw [sub_mod])) (lc ((esub rfl (emod rfl rfl (by omega))).trans (by rw [sub_mod])) l0))) rfl⟩)) rfl).trans ?_
    show Res.ok (D.tup _) = Res.ok (D.tup _)
    rw [hM, List.map_map]; rfl
  have cnd : ∀ {d8 : D}, ev (.prim pNe (.cons (.comp [("point", 13)] (.name 13) (.seq (.v 7)) (.some (.prim pLt (.cons (.prim pMinT (.cons (.prim pSlL (.cons (.v 13) (.cons (.c (.int 1)) .nil))) .nil)) (.cons (.prim pNeg (.cons (.c (.int 99)) .nil)) .nil)))) (.v 13)) (.cons (.prim pLst .nil) .nil))) (full [.ro (.scr ns), .ro (trk T), .ro (.int s), .ro (.lst (L.map PL.prD)), .own A4, C5, .odt A6, .ro (trk M), .ro d8, .no, .no, .no, .no, .no, .no]) = .ok (.bl (!(M.filter lowB).isEmpty)) := by
    intro d8
    have ml : M.length ≤ 1000 := by rw [hM, List.length_map]; omega
    refine e2 (x := .lst ((M.filter lowB).map ptD)) (y := .lst []) ((ecompF M ptD (fun p => if lowB p then some (ptD p) else none) (iseq rfl rfl) ml fun p _ => ⟨_, _, rfl, (elt (e1 (x := plD p) (e2 (x := ptD p) rfl ki (pt_tail p)) (min_pl p)) (e1 (x := .int 99) ki rfl)).trans (by rw [low_min]), fun z => by rw [z]; rfl, fun z => ⟨ptD p, rfl, by rw [z]; rfl⟩⟩).trans (by rw [filterMap_ite])) rfl ?_
    refine (ne_nil (n := 1) (fun d hd => by obtain ⟨p, _, rfl⟩ := List.mem_map.mp hd; exact sh_pt p) (by decide)).trans (by rw [List.isEmpty_map])
  cases lo : (M.filter lowB).isEmpty with
  | false =>
    have bt : trackB (trk M) = false := by
      cases e : M.filter lowB with
      | nil => rw [e] at lo; cases lo
      | cons p r =>
        have hp : p ∈ M.filter lowB := by rw [e]; exact List.mem_cons_self
        obtain ⟨a, b⟩ := List.mem_filter.mp hp
        exact bad_snap a b
    have so := snapped_off G h1 h2 (by rw [← hM]; exact bt)
    refine rset (s := [.ro (.scr ns), .ro (trk T), .ro (.int s), .ro (.lst (L.map PL.prD)), .own A4, C5, .odt A6, .ro (trk M), .no, .no, .no, .no, .no, .no, .no]) (d := .str "no track") (etoldE (ec (lc rfl (lc rfl l0)) so) rfl cls1) rfl ?_
    exact riteT (s := [.ro (.scr ns), .ro (trk T), .ro (.int s), .ro (.lst (L.map PL.prD)), .own A4, C5, .odt A6, .ro (trk M), .ro (.str "no track"), .no, .no, .no, .no, .no, .no]) (cnd.trans (by rw [lo]; rfl)) (rret (e2 (x := .str "no track") (y := .str "no track") rfl rfl (eq_refl (n := 0) ⟨rfl, by decide +kernel, Nat.zero_le _⟩ (by decide))))
  | true =>
    have gM : Good M := by
      rw [hM]
      refine good_snap G h1 h2 fun p hp => ?_
      rw [← hM] at hp
      cases e : lowB p with
      | false => rfl
      | true =>
        have : p ∈ M.filter lowB := List.mem_filter.mpr ⟨hp, e⟩
        cases z : M.filter lowB with
        | nil => rw [z] at this; cases this
        | cons a r => rw [z] at lo; cases lo
    have so := snapped_ok G h1 h2 (by rw [← hM]; exact gM)
    rw [← hM] at so
    have so2 : f_snapped [trk M, .int s] = .ok (trk M) := by
      have e : M.map (snapP s) = M := by rw [hM]; exact snap_two h1 T
      have := snapped_ok gM h1 h2 (by rw [e]; exact gM)
      rw [e] at this; exact this
    have co2 : f_cells [trk M, .int s] = .ok (.lst A4) := by
      have := cells_ok gM h1 h2
      have e : M.map (cellP s) = L := by
        rw [hM, hL, List.map_map]
        exact List.map_congr_left fun p _ => cell_snap h1 p
      rw [e] at this
      rw [hA4]; exact this
    refine rset (s := [.ro (.scr ns), .ro (trk T), .ro (.int s), .ro (.lst (L.map PL.prD)), .own A4, C5, .odt A6, .ro (trk M), .no, .no, .no, .no, .no, .no, .no]) (d := trk M) (etoldV (ec (lc rfl (lc rfl l0)) so)) rfl ?_
    refine riteF (s := [.ro (.scr ns), .ro (trk T), .ro (.int s), .ro (.lst (L.map PL.prD)), .own A4, C5, .odt A6, .ro (trk M), .ro (trk M), .no, .no, .no, .no, .no, .no]) (cnd.trans (by rw [lo]; rfl)) ?_
    refine riteF (s := [.ro (.scr ns), .ro (trk T), .ro (.int s), .ro (.lst (L.map PL.prD)), .own A4, C5, .odt A6, .ro (trk M), .ro (trk M), .no, .no, .no, .no, .no, .no]) (eorF (e2 (x := trk M) (y := trk M) rfl rfl (ne_refl (sh_trk M) (by decide))) (eorF (e2 (x := trk M) (y := trk M) (ec (lc rfl (lc rfl l0)) so2) rfl (ne_refl (sh_trk M) (by decide))) (e2 (x := .lst A4) (y := .lst A4) (ec (lc rfl (lc rfl l0)) co2) rfl (ne_refl (by rw [hA4]; exact sh_lprs _) (by decide))))) ?_
    obtain ⟨L1, hL1⟩ : ∃ L1, L1 = T.map (cellP 1) := ⟨_, rfl⟩
    have o1 := often_ok G (s := 1) (by decide) (by decide)
    rw [← hL1] at o1
    have l1 : L1.length = T.length := by rw [hL1, List.length_map]
    have sl := ssP_len L1
    refine rset (s := [.ro (.scr ns), .ro (trk T), .ro (.int s), .ro (.lst (L.map PL.prD)), .own A4, C5, .odt A6, .ro (trk M), .ro (trk M), .no, .no, .no, .no, .no, .no]) (d := .int (T.length : Nat)) (e1 (ecomp (ssP L1) (oftD L1) (fun c => D.int ((L1.count c : Nat) : Int)) (iseq (x := .lst ((ssP L1).map (oftD L1))) (ec (lc rfl (lc ki l0)) o1) rfl) (by omega) fun c _ => ⟨_, rfl, rfl⟩) ((sum_map (fun c => ((L1.count c : Nat) : Int)) (ssP L1)).trans (by rw [sum_count (ss_nodup L1) L1 fun x hx => (ssP_mem _ _).mpr hx, l1]))) rfl ?_
    have so1 : f_snapped [trk T, .int 1] = .ok (trk T) := by
      have e : T.map (snapP 1) = T := snap_one T
      have := snapped_ok G (s := 1) (by decide) (by decide) (by rw [e]; exact G)
      rw [e] at this; exact this
    exact rret (eandT (e2 (x := trk T) (y := trk T) (ec (lc rfl (lc ki l0)) so1) rfl (eq_refl (sh_trk T) (by decide))) ((e2 (x := .int (T.length : Nat)) (y := .int (T.length : Nat)) rfl (e1 (x := trk T) rfl (len_trk T)) (o_eqI _ _)).trans (by rw [decide_eq_true rfl])))
end Pk21

namespace Pk21
open PySem PySem.Spec PyProof.Rows L2 PL
theorem k_is_whole : chkS N_is_whole (defScope (topS 13)) b_is_whole (defBody (topS 13)) = true := by decide +kernel
theorem s_is_whole : FnScope N_is_whole ["thing", "low", "high"] (defScope (topS 13)) := ⟨rfl, rfl, rfl, by decide +kernel, rfl, by decide +kernel, by decide +kernel⟩
theorem k_is_point : chkS N_is_point (defScope (topS 14)) b_is_point (defBody (topS 14)) = true := by decide +kernel
theorem s_is_point : FnScope N_is_point ["thing"] (defScope (topS 14)) := ⟨rfl, rfl, rfl, by decide +kernel, rfl, by decide +kernel, by decide +kernel⟩
theorem k_is_track : chkS N_is_track (defScope (topS 15)) b_is_track (defBody (topS 15)) = true := by decide +kernel
theorem s_is_track : FnScope N_is_track ["thing"] (defScope (topS 15)) := ⟨rfl, rfl, rfl, by decide +kernel, rfl, by decide +kernel, by decide +kernel⟩
theorem k_look_track : chkS N_look_track (defScope (topS 16)) b_look_track (defBody (topS 16)) = true := by decide +kernel
theorem s_look_track : FnScope N_look_track ["track"] (defScope (topS 16)) := ⟨rfl, rfl, rfl, by decide +kernel, rfl, by decide +kernel, by decide +kernel⟩
theorem k_cell_of : chkS N_cell_of (defScope (topS 20)) b_cell_of (defBody (topS 20)) = true := by decide +kernel
theorem s_cell_of : FnScope N_cell_of ["place", "size"] (defScope (topS 20)) := ⟨rfl, rfl, rfl, by decide +kernel, rfl, by decide +kernel, by decide +kernel⟩
theorem k_look_size : chkS N_look_size (defScope (topS 21)) b_look_size (defBody (topS 21)) = true := by decide +kernel
theorem s_look_size : FnScope N_look_size ["size"] (defScope (topS 21)) := ⟨rfl, rfl, rfl, by decide +kernel, rfl, by decide +kernel, by decide +kernel⟩
theorem k_cells : chkS N_cells (defScope (topS 22)) b_cells (defBody (topS 22)) = true := by decide +kernel
theorem s_cells : FnScope N_cells ["track", "size"] (defScope (topS 22)) := ⟨rfl, rfl, rfl, by decide +kernel, rfl, by decide +kernel, by decide +kernel⟩
theorem k_how_often : chkS N_how_often (defScope (topS 23)) b_how_often (defBody (topS 23)) = true := by decide +kernel
theorem s_how_often : FnScope N_how_often ["track", "size"] (defScope (topS 23)) := ⟨rfl, rfl, rfl, by decide +kernel, rfl, by decide +kernel, by decide +kernel⟩
theorem k_looked : chkS N_looked (defScope (topS 17)) b_looked (defBody (topS 17)) = true := by decide +kernel
theorem s_looked : FnScope N_looked ["track"] (defScope (topS 17)) := ⟨rfl, rfl, rfl, by decide +kernel, rfl, by decide +kernel, by decide +kernel⟩
theorem k_snapped : chkS N_snapped (defScope (topS 24)) b_snapped (defBody (topS 24)) = true := by decide +kernel
theorem s_snapped : FnScope N_snapped ["track", "size"] (defScope (topS 24)) := ⟨rfl, rfl, rfl, by decide +kernel, rfl, by decide +kernel, by decide +kernel⟩
theorem k__law_cell : chkS N__law_cell (defScope (topS 26)) b__law_cell (defBody (topS 26)) = true := by decide +kernel
theorem s__law_cell : FnScope N__law_cell ["script", "k"] (defScope (topS 26)) := ⟨rfl, rfl, rfl, by decide +kernel, rfl, by decide +kernel, by decide +kernel⟩
theorem k__law_pick : chkS N__law_pick (defScope (topS 27)) b__law_pick (defBody (topS 27)) = true := by decide +kernel
theorem s__law_pick : FnScope N__law_pick ["script", "k", "many"] (defScope (topS 27)) := ⟨rfl, rfl, rfl, by decide +kernel, rfl, by decide +kernel, by decide +kernel⟩
theorem k__law_track : chkS N__law_track (defScope (topS 28)) b__law_track (defBody (topS 28)) = true := by decide +kernel
theorem s__law_track : FnScope N__law_track ["script", "at", "most"] (defScope (topS 28)) := ⟨rfl, rfl, rfl, by decide +kernel, rfl, by decide +kernel, by decide +kernel⟩
theorem k__law_class : chkS N__law_class (defScope (topS 29)) b__law_class (defBody (topS 29)) = true := by decide +kernel
theorem s__law_class : FnScope N__law_class ["kept"] (defScope (topS 29)) := ⟨rfl, rfl, rfl, by decide +kernel, rfl, by decide +kernel, by decide +kernel⟩
theorem s__law_told : FnScope N__law_told ["deed"] (defScope (topS 30)) := ⟨rfl, rfl, rfl, by decide +kernel, rfl, by decide +kernel, by decide +kernel⟩
theorem k_law : chkS N_law (defScope (topS 31)) b_law (defBody (topS 31)) = true := by decide +kernel
theorem s_law : FnScope N_law ["script"] (defScope (topS 31)) := ⟨rfl, rfl, rfl, by decide +kernel, rfl, by decide +kernel, by decide +kernel⟩
def d_is_whole : He.DefD := ⟨("is_whole", none), "is_whole", "is_whole", defArgs (topS 13), defBody (topS 13), defScope (topS 13), [], []⟩
def d_is_point : He.DefD := ⟨("is_point", none), "is_point", "is_point", defArgs (topS 14), defBody (topS 14), defScope (topS 14), [], []⟩
def d_is_track : He.DefD := ⟨("is_track", none), "is_track", "is_track", defArgs (topS 15), defBody (topS 15), defScope (topS 15), [], []⟩
def d_look_track : He.DefD := ⟨("look_track", none), "look_track", "look_track", defArgs (topS 16), defBody (topS 16), defScope (topS 16), [], []⟩
def d_cell_of : He.DefD := ⟨("cell_of", none), "cell_of", "cell_of", defArgs (topS 20), defBody (topS 20), defScope (topS 20), [], []⟩
def d_look_size : He.DefD := ⟨("look_size", none), "look_size", "look_size", defArgs (topS 21), defBody (topS 21), defScope (topS 21), [], []⟩
def d_cells : He.DefD := ⟨("cells", none), "cells", "cells", defArgs (topS 22), defBody (topS 22), defScope (topS 22), [], []⟩
def d_how_often : He.DefD := ⟨("how_often", none), "how_often", "how_often", defArgs (topS 23), defBody (topS 23), defScope (topS 23), [], []⟩
def d_looked : He.DefD := ⟨("looked", none), "looked", "looked", defArgs (topS 17), defBody (topS 17), defScope (topS 17), [], []⟩
def d_snapped : He.DefD := ⟨("snapped", none), "snapped", "snapped", defArgs (topS 24), defBody (topS 24), defScope (topS 24), [], []⟩
def d__law_cell : He.DefD := ⟨("_law_cell", none), "_law_cell", "_law_cell", defArgs (topS 26), defBody (topS 26), defScope (topS 26), [], []⟩
def d__law_pick : He.DefD := ⟨("_law_pick", none), "_law_pick", "_law_pick", defArgs (topS 27), defBody (topS 27), defScope (topS 27), [], []⟩
def d__law_track : He.DefD := ⟨("_law_track", none), "_law_track", "_law_track", defArgs (topS 28), defBody (topS 28), defScope (topS 28), [], []⟩
def d__law_class : He.DefD := ⟨("_law_class", none), "_law_class", "_law_class", defArgs (topS 29), defBody (topS 29), defScope (topS 29), [], []⟩
def d__law_told : He.DefD := ⟨("_law_told", none), "_law_told", "_law_told", defArgs (topS 30), defBody (topS 30), defScope (topS 30), [], []⟩
def d_law : He.DefD := ⟨("law", none), "law", "law", defArgs (topS 31), defBody (topS 31), defScope (topS 31), [], []⟩
def fn : List He.DefD := [d_is_whole, d_is_point, d_is_track, d_look_track, d_cell_of, d_look_size, d_cells, d_how_often, d_looked, d_snapped, d__law_cell, d__law_pick, d__law_track, d__law_class, d__law_told, d_law]
def fa : List He.Fa := [.glo "is_whole", .glo "is_point", .glo "is_track", .glo "look_track", .glo "cell_of", .glo "look_size", .glo "cells", .glo "how_often", .glo "looked", .glo "snapped", .glo "_law_cell", .glo "_law_pick", .glo "_law_track", .glo "_law_class", .glo "_law_told", .glo "law", .free "zip", .free "range", .free "enumerate", .free "len", .free "abs", .free "min", .free "max", .free "list", .free "tuple", .free "all", .free "any", .free "sum", .free "sorted", .free "set", .free "int", .free "isinstance", .free "str", .free "bool", .free "dict", .int "LAST" 999, .int "FARTHEST" 99, .int "MOST" 12, .int "MOST_SIZE" 99, .glo "NoTrack", .exc "NoTrack", .glo "NoNumber", .exc "NoNumber", .glo "NoBack", .glo "NoName", .glo "NoText", .glo "NoTime", .glo "NoZone", .glo "TrackError", .free "ValueError"]
def rel (c d : Str) : Bool := ([("NoTrack", "NoTrack"), ("NoTrack", "TrackError"), ("NoTrack", "ValueError"), ("NoTime", "NoTime"), ("NoTime", "TrackError"), ("NoTime", "ValueError"), ("NoNumber", "NoNumber"), ("NoNumber", "TrackError"), ("NoNumber", "ValueError"), ("NoText", "NoText"), ("NoText", "TrackError"), ("NoText", "ValueError"), ("NoBack", "NoBack"), ("NoBack", "TrackError"), ("NoBack", "ValueError"), ("NoName", "NoName"), ("NoName", "TrackError"), ("NoName", "ValueError"), ("NoZone", "NoZone"), ("NoZone", "TrackError"), ("NoZone", "ValueError")] : List (Str × Str)).contains (c, d)
def tst : PySem.W.Frag → Bool := PL.tstC ["NoTrack", "NoTime", "NoNumber", "NoText", "NoBack", "NoName", "NoZone"] ["NoBack", "NoName", "NoNumber", "NoText", "NoTime", "NoTrack", "NoZone", "TrackError", "ValueError"] rel
theorem bf {K : PySem.W.Frag} {mg : Str → Option Value} {h : Heap} (X : K.In h) (G : h.Ns mainGlobals mg) (c : PL.SaysX fa fn tst K) : ∀ y ∈ bnames, mg y = none := by
  intro y hy
  simp only [bnames, List.mem_cons, List.not_mem_nil, or_false] at hy
  rcases hy with rfl | rfl | rfl | rfl | rfl | rfl | rfl | rfl | rfl | rfl | rfl | rfl | rfl | rfl | rfl | rfl | rfl | rfl | rfl
  · exact He.free_ok X G (c.d.fact 16 (f := .free "zip") rfl)
  · exact He.free_ok X G (c.d.fact 17 (f := .free "range") rfl)
  · exact He.free_ok X G (c.d.fact 18 (f := .free "enumerate") rfl)
  · exact He.free_ok X G (c.d.fact 19 (f := .free "len") rfl)
  · exact He.free_ok X G (c.d.fact 20 (f := .free "abs") rfl)
  · exact He.free_ok X G (c.d.fact 21 (f := .free "min") rfl)
  · exact He.free_ok X G (c.d.fact 22 (f := .free "max") rfl)
  · exact He.free_ok X G (c.d.fact 23 (f := .free "list") rfl)
  · exact He.free_ok X G (c.d.fact 24 (f := .free "tuple") rfl)
  · exact He.free_ok X G (c.d.fact 25 (f := .free "all") rfl)
  · exact He.free_ok X G (c.d.fact 26 (f := .free "any") rfl)
  · exact He.free_ok X G (c.d.fact 27 (f := .free "sum") rfl)
  · exact He.free_ok X G (c.d.fact 28 (f := .free "sorted") rfl)
  · exact He.free_ok X G (c.d.fact 29 (f := .free "set") rfl)
  · exact He.free_ok X G (c.d.fact 30 (f := .free "int") rfl)
  · exact He.free_ok X G (c.d.fact 31 (f := .free "isinstance") rfl)
  · exact He.free_ok X G (c.d.fact 32 (f := .free "str") rfl)
  · exact He.free_ok X G (c.d.fact 33 (f := .free "bool") rfl)
  · exact He.free_ok X G (c.d.fact 34 (f := .free "dict") rfl)
theorem gc_LAST {K : PySem.W.Frag} {mg : Str → Option Value} {h : Heap} (X : K.In h) (G : h.Ns mainGlobals mg) (c : PL.SaysX fa fn tst K) : ∃ u, mg "LAST" = some u ∧ L2.RelV (PL.Cn.v (.int 999)) u := by
  obtain ⟨t, e⟩ := He.int_ok X G (c.d.fact 35 (f := .int "LAST" 999) rfl)
  exact ⟨_, e, t, rfl⟩
theorem gc_FARTHEST {K : PySem.W.Frag} {mg : Str → Option Value} {h : Heap} (X : K.In h) (G : h.Ns mainGlobals mg) (c : PL.SaysX fa fn tst K) : ∃ u, mg "FARTHEST" = some u ∧ L2.RelV (PL.Cn.v (.int 99)) u := by
  obtain ⟨t, e⟩ := He.int_ok X G (c.d.fact 36 (f := .int "FARTHEST" 99) rfl)
  exact ⟨_, e, t, rfl⟩
theorem gc_MOST {K : PySem.W.Frag} {mg : Str → Option Value} {h : Heap} (X : K.In h) (G : h.Ns mainGlobals mg) (c : PL.SaysX fa fn tst K) : ∃ u, mg "MOST" = some u ∧ L2.RelV (PL.Cn.v (.int 12)) u := by
  obtain ⟨t, e⟩ := He.int_ok X G (c.d.fact 37 (f := .int "MOST" 12) rfl)
  exact ⟨_, e, t, rfl⟩
theorem gc_MOST_SIZE {K : PySem.W.Frag} {mg : Str → Option Value} {h : Heap} (X : K.In h) (G : h.Ns mainGlobals mg) (c : PL.SaysX fa fn tst K) : ∃ u, mg "MOST_SIZE" = some u ∧ L2.RelV (PL.Cn.v (.int 99)) u := by
  obtain ⟨t, e⟩ := He.int_ok X G (c.d.fact 38 (f := .int "MOST_SIZE" 99) rfl)
  exact ⟨_, e, t, rfl⟩
theorem rc_NoTrack {K : PySem.W.Frag} {mg : Str → Option Value} {h : Heap} (X : K.In h) (G : h.Ns mainGlobals mg) (c : PL.SaysX fa fn tst K) : RaiseC K mg "NoTrack" := by
  obtain ⟨e1, e2, e3, e4⟩ := He.exc_ok (c.d.fact 40 (f := .exc "NoTrack") rfl)
  exact ⟨⟨_, He.glo_ok X G (c.d.fact 39 (f := .glo "NoTrack") rfl), e1, e2, e3, e4⟩⟩
theorem rc_NoNumber {K : PySem.W.Frag} {mg : Str → Option Value} {h : Heap} (X : K.In h) (G : h.Ns mainGlobals mg) (c : PL.SaysX fa fn tst K) : RaiseC K mg "NoNumber" := by
  obtain ⟨e1, e2, e3, e4⟩ := He.exc_ok (c.d.fact 42 (f := .exc "NoNumber") rfl)
  exact ⟨⟨_, He.glo_ok X G (c.d.fact 41 (f := .glo "NoNumber") rfl), e1, e2, e3, e4⟩⟩
theorem gx_NoBack {K : PySem.W.Frag} {mg : Str → Option Value} {h : Heap} (X : K.In h) (G : h.Ns mainGlobals mg) (c : PL.SaysX fa fn tst K) : ∀ p ∈ ([("NoTrack", false), ("NoTime", false), ("NoNumber", false), ("NoText", false), ("NoBack", true), ("NoName", false), ("NoZone", false)] : List (Str × Bool)), PL.ClsC K mg p.1 "NoBack" p.2 := by
  intro p hp
  simp only [List.mem_cons, List.not_mem_nil, or_false] at hp
  rcases hp with rfl | rfl | rfl | rfl | rfl | rfl | rfl
  · have e : rel "NoTrack" "NoBack" = false := by decide +kernel
    have z := tstC_ok X G c.t (c := "NoTrack") (d := "NoBack") (by decide +kernel) (by decide +kernel) (.inl (And.intro (by decide) (c.d.fact 43 (f := .glo "NoBack") rfl)))
    rw [e] at z
    exact z
  · have e : rel "NoTime" "NoBack" = false := by decide +kernel
    have z := tstC_ok X G c.t (c := "NoTime") (d := "NoBack") (by decide +kernel) (by decide +kernel) (.inl (And.intro (by decide) (c.d.fact 43 (f := .glo "NoBack") rfl)))
    rw [e] at z
    exact z
  · have e : rel "NoNumber" "NoBack" = false := by decide +kernel
    have z := tstC_ok X G c.t (c := "NoNumber") (d := "NoBack") (by decide +kernel) (by decide +kernel) (.inl (And.intro (by decide) (c.d.fact 43 (f := .glo "NoBack") rfl)))
    rw [e] at z
    exact z
  · have e : rel "NoText" "NoBack" = false := by decide +kernel
    have z := tstC_ok X G c.t (c := "NoText") (d := "NoBack") (by decide +kernel) (by decide +kernel) (.inl (And.intro (by decide) (c.d.fact 43 (f := .glo "NoBack") rfl)))
    rw [e] at z
    exact z
  · have e : rel "NoBack" "NoBack" = true := by decide +kernel
    have z := tstC_ok X G c.t (c := "NoBack") (d := "NoBack") (by decide +kernel) (by decide +kernel) (.inl (And.intro (by decide) (c.d.fact 43 (f := .glo "NoBack") rfl)))
    rw [e] at z
    exact z
  · have e : rel "NoName" "NoBack" = false := by decide +kernel
    have z := tstC_ok X G c.t (c := "NoName") (d := "NoBack") (by decide +kernel) (by decide +kernel) (.inl (And.intro (by decide) (c.d.fact 43 (f := .glo "NoBack") rfl)))
    rw [e] at z
    exact z
  · have e : rel "NoZone" "NoBack" = false := by decide +kernel
    have z := tstC_ok X G c.t (c := "NoZone") (d := "NoBack") (by decide +kernel) (by decide +kernel) (.inl (And.intro (by decide) (c.d.fact 43 (f := .glo "NoBack") rfl)))
    rw [e] at z
    exact z
theorem gx_NoName {K : PySem.W.Frag} {mg : Str → Option Value} {h : Heap} (X : K.In h) (G : h.Ns mainGlobals mg) (c : PL.SaysX fa fn tst K) : ∀ p ∈ ([("NoTrack", false), ("NoTime", false), ("NoNumber", false), ("NoText", false), ("NoBack", false), ("NoName", true), ("NoZone", false)] : List (Str × Bool)), PL.ClsC K mg p.1 "NoName" p.2 := by
  intro p hp
  simp only [List.mem_cons, List.not_mem_nil, or_false] at hp
  rcases hp with rfl | rfl | rfl | rfl | rfl | rfl | rfl
  · have e : rel "NoTrack" "NoName" = false := by decide +kernel
    have z := tstC_ok X G c.t (c := "NoTrack") (d := "NoName") (by decide +kernel) (by decide +kernel) (.inl (And.intro (by decide) (c.d.fact 44 (f := .glo "NoName") rfl)))
    rw [e] at z
    exact z
  · have e : rel "NoTime" "NoName" = false := by decide +kernel
    have z := tstC_ok X G c.t (c := "NoTime") (d := "NoName") (by decide +kernel) (by decide +kernel) (.inl (And.intro (by decide) (c.d.fact 44 (f := .glo "NoName") rfl)))
    rw [e] at z
    exact z
  · have e : rel "NoNumber" "NoName" = false := by decide +kernel
    have z := tstC_ok X G c.t (c := "NoNumber") (d := "NoName") (by decide +kernel) (by decide +kernel) (.inl (And.intro (by decide) (c.d.fact 44 (f := .glo "NoName") rfl)))
    rw [e] at z
    exact z
  · have e : rel "NoText" "NoName" = false := by decide +kernel
    have z := tstC_ok X G c.t (c := "NoText") (d := "NoName") (by decide +kernel) (by decide +kernel) (.inl (And.intro (by decide) (c.d.fact 44 (f := .glo "NoName") rfl)))
    rw [e] at z
    exact z
  · have e : rel "NoBack" "NoName" = false := by decide +kernel
    have z := tstC_ok X G c.t (c := "NoBack") (d := "NoName") (by decide +kernel) (by decide +kernel) (.inl (And.intro (by decide) (c.d.fact 44 (f := .glo "NoName") rfl)))
    rw [e] at z
    exact z
  · have e : rel "NoName" "NoName" = true := by decide +kernel
    have z := tstC_ok X G c.t (c := "NoName") (d := "NoName") (by decide +kernel) (by decide +kernel) (.inl (And.intro (by decide) (c.d.fact 44 (f := .glo "NoName") rfl)))
    rw [e] at z
    exact z
  · have e : rel "NoZone" "NoName" = false := by decide +kernel
    have z := tstC_ok X G c.t (c := "NoZone") (d := "NoName") (by decide +kernel) (by decide +kernel) (.inl (And.intro (by decide) (c.d.fact 44 (f := .glo "NoName") rfl)))
    rw [e] at z
    exact z
theorem gx_NoNumber {K : PySem.W.Frag} {mg : Str → Option Value} {h : Heap} (X : K.In h) (G : h.Ns mainGlobals mg) (c : PL.SaysX fa fn tst K) : ∀ p ∈ ([("NoTrack", false), ("NoTime", false), ("NoNumber", true), ("NoText", false), ("NoBack", false), ("NoName", false), ("NoZone", false)] : List (Str × Bool)), PL.ClsC K mg p.1 "NoNumber" p.2 := by
  intro p hp
  simp only [List.mem_cons, List.not_mem_nil, or_false] at hp
  rcases hp with rfl | rfl | rfl | rfl | rfl | rfl | rfl
  · have e : rel "NoTrack" "NoNumber" = false := by decide +kernel
    have z := tstC_ok X G c.t (c := "NoTrack") (d := "NoNumber") (by decide +kernel) (by decide +kernel) (.inl (And.intro (by decide) (c.d.fact 41 (f := .glo "NoNumber") rfl)))
    rw [e] at z
    exact z
  · have e : rel "NoTime" "NoNumber" = false := by decide +kernel
    have z := tstC_ok X G c.t (c := "NoTime") (d := "NoNumber") (by decide +kernel) (by decide +kernel) (.inl (And.intro (by decide) (c.d.fact 41 (f := .glo "NoNumber") rfl)))
    rw [e] at z
    exact z
  · have e : rel "NoNumber" "NoNumber" = true := by decide +kernel
    have z := tstC_ok X G c.t (c := "NoNumber") (d := "NoNumber") (by decide +kernel) (by decide +kernel) (.inl (And.intro (by decide) (c.d.fact 41 (f := .glo "NoNumber") rfl)))
    rw [e] at z
    exact z
  · have e : rel "NoText" "NoNumber" = false := by decide +kernel
    have z := tstC_ok X G c.t (c := "NoText") (d := "NoNumber") (by decide +kernel) (by decide +kernel) (.inl (And.intro (by decide) (c.d.fact 41 (f := .glo "NoNumber") rfl)))
    rw [e] at z
    exact z
  · have e : rel "NoBack" "NoNumber" = false := by decide +kernel
    have z := tstC_ok X G c.t (c := "NoBack") (d := "NoNumber") (by decide +kernel) (by decide +kernel) (.inl (And.intro (by decide) (c.d.fact 41 (f := .glo "NoNumber") rfl)))
    rw [e] at z
    exact z
  · have e : rel "NoName" "NoNumber" = false := by decide +kernel
    have z := tstC_ok X G c.t (c := "NoName") (d := "NoNumber") (by decide +kernel) (by decide +kernel) (.inl (And.intro (by decide) (c.d.fact 41 (f := .glo "NoNumber") rfl)))
    rw [e] at z
    exact z
  · have e : rel "NoZone" "NoNumber" = false := by decide +kernel
    have z := tstC_ok X G c.t (c := "NoZone") (d := "NoNumber") (by decide +kernel) (by decide +kernel) (.inl (And.intro (by decide) (c.d.fact 41 (f := .glo "NoNumber") rfl)))
    rw [e] at z
    exact z
theorem gx_NoText {K : PySem.W.Frag} {mg : Str → Option Value} {h : Heap} (X : K.In h) (G : h.Ns mainGlobals mg) (c : PL.SaysX fa fn tst K) : ∀ p ∈ ([("NoTrack", false), ("NoTime", false), ("NoNumber", false), ("NoText", true), ("NoBack", false), ("NoName", false), ("NoZone", false)] : List (Str × Bool)), PL.ClsC K mg p.1 "NoText" p.2 := by
  intro p hp
  simp only [List.mem_cons, List.not_mem_nil, or_false] at hp
  rcases hp with rfl | rfl | rfl | rfl | rfl | rfl | rfl
  · have e : rel "NoTrack" "NoText" = false := by decide +kernel
    have z := tstC_ok X G c.t (c := "NoTrack") (d := "NoText") (by decide +kernel) (by decide +kernel) (.inl (And.intro (by decide) (c.d.fact 45 (f := .glo "NoText") rfl)))
    rw [e] at z
    exact z
  · have e : rel "NoTime" "NoText" = false := by decide +kernel
    have z := tstC_ok X G c.t (c := "NoTime") (d := "NoText") (by decide +kernel) (by decide +kernel) (.inl (And.intro (by decide) (c.d.fact 45 (f := .glo "NoText") rfl)))
    rw [e] at z
    exact z
  · have e : rel "NoNumber" "NoText" = false := by decide +kernel
    have z := tstC_ok X G c.t (c := "NoNumber") (d := "NoText") (by decide +kernel) (by decide +kernel) (.inl (And.intro (by decide) (c.d.fact 45 (f := .glo "NoText") rfl)))
    rw [e] at z
    exact z
  · have e : rel "NoText" "NoText" = true := by decide +kernel
    have z := tstC_ok X G c.t (c := "NoText") (d := "NoText") (by decide +kernel) (by decide +kernel) (.inl (And.intro (by decide) (c.d.fact 45 (f := .glo "NoText") rfl)))
    rw [e] at z
    exact z
  · have e : rel "NoBack" "NoText" = false := by decide +kernel
    have z := tstC_ok X G c.t (c := "NoBack") (d := "NoText") (by decide +kernel) (by decide +kernel) (.inl (And.intro (by decide) (c.d.fact 45 (f := .glo "NoText") rfl)))
    rw [e] at z
    exact z
  · have e : rel "NoName" "NoText" = false := by decide +kernel
    have z := tstC_ok X G c.t (c := "NoName") (d := "NoText") (by decide +kernel) (by decide +kernel) (.inl (And.intro (by decide) (c.d.fact 45 (f := .glo "NoText") rfl)))
    rw [e] at z
    exact z
  · have e : rel "NoZone" "NoText" = false := by decide +kernel
    have z := tstC_ok X G c.t (c := "NoZone") (d := "NoText") (by decide +kernel) (by decide +kernel) (.inl (And.intro (by decide) (c.d.fact 45 (f := .glo "NoText") rfl)))
    rw [e] at z
    exact z
theorem gx_NoTime {K : PySem.W.Frag} {mg : Str → Option Value} {h : Heap} (X : K.In h) (G : h.Ns mainGlobals mg) (c : PL.SaysX fa fn tst K) : ∀ p ∈ ([("NoTrack", false), ("NoTime", true), ("NoNumber", false), ("NoText", false), ("NoBack", false), ("NoName", false), ("NoZone", false)] : List (Str × Bool)), PL.ClsC K mg p.1 "NoTime" p.2 := by
  intro p hp
  simp only [List.mem_cons, List.not_mem_nil, or_false] at hp
  rcases hp with rfl | rfl | rfl | rfl | rfl | rfl | rfl
  · have e : rel "NoTrack" "NoTime" = false := by decide +kernel
    have z := tstC_ok X G c.t (c := "NoTrack") (d := "NoTime") (by decide +kernel) (by decide +kernel) (.inl (And.intro (by decide) (c.d.fact 46 (f := .glo "NoTime") rfl)))
    rw [e] at z
    exact z
  · have e : rel "NoTime" "NoTime" = true := by decide +kernel
    have z := tstC_ok X G c.t (c := "NoTime") (d := "NoTime") (by decide +kernel) (by decide +kernel) (.inl (And.intro (by decide) (c.d.fact 46 (f := .glo "NoTime") rfl)))
    rw [e] at z
    exact z
  · have e : rel "NoNumber" "NoTime" = false := by decide +kernel
    have z := tstC_ok X G c.t (c := "NoNumber") (d := "NoTime") (by decide +kernel) (by decide +kernel) (.inl (And.intro (by decide) (c.d.fact 46 (f := .glo "NoTime") rfl)))
    rw [e] at z
    exact z
  · have e : rel "NoText" "NoTime" = false := by decide +kernel
    have z := tstC_ok X G c.t (c := "NoText") (d := "NoTime") (by decide +kernel) (by decide +kernel) (.inl (And.intro (by decide) (c.d.fact 46 (f := .glo "NoTime") rfl)))
    rw [e] at z
    exact z
  · have e : rel "NoBack" "NoTime" = false := by decide +kernel
    have z := tstC_ok X G c.t (c := "NoBack") (d := "NoTime") (by decide +kernel) (by decide +kernel) (.inl (And.intro (by decide) (c.d.fact 46 (f := .glo "NoTime") rfl)))
    rw [e] at z
    exact z
  · have e : rel "NoName" "NoTime" = false := by decide +kernel
    have z := tstC_ok X G c.t (c := "NoName") (d := "NoTime") (by decide +kernel) (by decide +kernel) (.inl (And.intro (by decide) (c.d.fact 46 (f := .glo "NoTime") rfl)))
    rw [e] at z
    exact z
  · have e : rel "NoZone" "NoTime" = false := by decide +kernel
    have z := tstC_ok X G c.t (c := "NoZone") (d := "NoTime") (by decide +kernel) (by decide +kernel) (.inl (And.intro (by decide) (c.d.fact 46 (f := .glo "NoTime") rfl)))
    rw [e] at z
    exact z
theorem gx_NoTrack {K : PySem.W.Frag} {mg : Str → Option Value} {h : Heap} (X : K.In h) (G : h.Ns mainGlobals mg) (c : PL.SaysX fa fn tst K) : ∀ p ∈ ([("NoTrack", true), ("NoTime", false), ("NoNumber", false), ("NoText", false), ("NoBack", false), ("NoName", false), ("NoZone", false)] : List (Str × Bool)), PL.ClsC K mg p.1 "NoTrack" p.2 := by
  intro p hp
  simp only [List.mem_cons, List.not_mem_nil, or_false] at hp
  rcases hp with rfl | rfl | rfl | rfl | rfl | rfl | rfl
  · have e : rel "NoTrack" "NoTrack" = true := by decide +kernel
    have z := tstC_ok X G c.t (c := "NoTrack") (d := "NoTrack") (by decide +kernel) (by decide +kernel) (.inl (And.intro (by decide) (c.d.fact 39 (f := .glo "NoTrack") rfl)))
    rw [e] at z
    exact z
  · have e : rel "NoTime" "NoTrack" = false := by decide +kernel
    have z := tstC_ok X G c.t (c := "NoTime") (d := "NoTrack") (by decide +kernel) (by decide +kernel) (.inl (And.intro (by decide) (c.d.fact 39 (f := .glo "NoTrack") rfl)))
    rw [e] at z
    exact z
  · have e : rel "NoNumber" "NoTrack" = false := by decide +kernel
    have z := tstC_ok X G c.t (c := "NoNumber") (d := "NoTrack") (by decide +kernel) (by decide +kernel) (.inl (And.intro (by decide) (c.d.fact 39 (f := .glo "NoTrack") rfl)))
    rw [e] at z
    exact z
  · have e : rel "NoText" "NoTrack" = false := by decide +kernel
    have z := tstC_ok X G c.t (c := "NoText") (d := "NoTrack") (by decide +kernel) (by decide +kernel) (.inl (And.intro (by decide) (c.d.fact 39 (f := .glo "NoTrack") rfl)))
    rw [e] at z
    exact z
  · have e : rel "NoBack" "NoTrack" = false := by decide +kernel
    have z := tstC_ok X G c.t (c := "NoBack") (d := "NoTrack") (by decide +kernel) (by decide +kernel) (.inl (And.intro (by decide) (c.d.fact 39 (f := .glo "NoTrack") rfl)))
    rw [e] at z
    exact z
  · have e : rel "NoName" "NoTrack" = false := by decide +kernel
    have z := tstC_ok X G c.t (c := "NoName") (d := "NoTrack") (by decide +kernel) (by decide +kernel) (.inl (And.intro (by decide) (c.d.fact 39 (f := .glo "NoTrack") rfl)))
    rw [e] at z
    exact z
  · have e : rel "NoZone" "NoTrack" = false := by decide +kernel
    have z := tstC_ok X G c.t (c := "NoZone") (d := "NoTrack") (by decide +kernel) (by decide +kernel) (.inl (And.intro (by decide) (c.d.fact 39 (f := .glo "NoTrack") rfl)))
    rw [e] at z
    exact z
theorem gx_NoZone {K : PySem.W.Frag} {mg : Str → Option Value} {h : Heap} (X : K.In h) (G : h.Ns mainGlobals mg) (c : PL.SaysX fa fn tst K) : ∀ p ∈ ([("NoTrack", false), ("NoTime", false), ("NoNumber", false), ("NoText", false), ("NoBack", false), ("NoName", false), ("NoZone", true)] : List (Str × Bool)), PL.ClsC K mg p.1 "NoZone" p.2 := by
  intro p hp
  simp only [List.mem_cons, List.not_mem_nil, or_false] at hp
  rcases hp with rfl | rfl | rfl | rfl | rfl | rfl | rfl
  · have e : rel "NoTrack" "NoZone" = false := by decide +kernel
    have z := tstC_ok X G c.t (c := "NoTrack") (d := "NoZone") (by decide +kernel) (by decide +kernel) (.inl (And.intro (by decide) (c.d.fact 47 (f := .glo "NoZone") rfl)))
    rw [e] at z
    exact z
  · have e : rel "NoTime" "NoZone" = false := by decide +kernel
    have z := tstC_ok X G c.t (c := "NoTime") (d := "NoZone") (by decide +kernel) (by decide +kernel) (.inl (And.intro (by decide) (c.d.fact 47 (f := .glo "NoZone") rfl)))
    rw [e] at z
    exact z
  · have e : rel "NoNumber" "NoZone" = false := by decide +kernel
    have z := tstC_ok X G c.t (c := "NoNumber") (d := "NoZone") (by decide +kernel) (by decide +kernel) (.inl (And.intro (by decide) (c.d.fact 47 (f := .glo "NoZone") rfl)))
    rw [e] at z
    exact z
  · have e : rel "NoText" "NoZone" = false := by decide +kernel
    have z := tstC_ok X G c.t (c := "NoText") (d := "NoZone") (by decide +kernel) (by decide +kernel) (.inl (And.intro (by decide) (c.d.fact 47 (f := .glo "NoZone") rfl)))
    rw [e] at z
    exact z
  · have e : rel "NoBack" "NoZone" = false := by decide +kernel
    have z := tstC_ok X G c.t (c := "NoBack") (d := "NoZone") (by decide +kernel) (by decide +kernel) (.inl (And.intro (by decide) (c.d.fact 47 (f := .glo "NoZone") rfl)))
    rw [e] at z
    exact z
  · have e : rel "NoName" "NoZone" = false := by decide +kernel
    have z := tstC_ok X G c.t (c := "NoName") (d := "NoZone") (by decide +kernel) (by decide +kernel) (.inl (And.intro (by decide) (c.d.fact 47 (f := .glo "NoZone") rfl)))
    rw [e] at z
    exact z
  · have e : rel "NoZone" "NoZone" = true := by decide +kernel
    have z := tstC_ok X G c.t (c := "NoZone") (d := "NoZone") (by decide +kernel) (by decide +kernel) (.inl (And.intro (by decide) (c.d.fact 47 (f := .glo "NoZone") rfl)))
    rw [e] at z
    exact z
theorem gx_TrackError {K : PySem.W.Frag} {mg : Str → Option Value} {h : Heap} (X : K.In h) (G : h.Ns mainGlobals mg) (c : PL.SaysX fa fn tst K) : ∀ p ∈ ([("NoTrack", true), ("NoTime", true), ("NoNumber", true), ("NoText", true), ("NoBack", true), ("NoName", true), ("NoZone", true)] : List (Str × Bool)), PL.ClsC K mg p.1 "TrackError" p.2 := by
  intro p hp
  simp only [List.mem_cons, List.not_mem_nil, or_false] at hp
  rcases hp with rfl | rfl | rfl | rfl | rfl | rfl | rfl
  · have e : rel "NoTrack" "TrackError" = true := by decide +kernel
    have z := tstC_ok X G c.t (c := "NoTrack") (d := "TrackError") (by decide +kernel) (by decide +kernel) (.inl (And.intro (by decide) (c.d.fact 48 (f := .glo "TrackError") rfl)))
    rw [e] at z
    exact z
  · have e : rel "NoTime" "TrackError" = true := by decide +kernel
    have z := tstC_ok X G c.t (c := "NoTime") (d := "TrackError") (by decide +kernel) (by decide +kernel) (.inl (And.intro (by decide) (c.d.fact 48 (f := .glo "TrackError") rfl)))
    rw [e] at z
    exact z
  · have e : rel "NoNumber" "TrackError" = true := by decide +kernel
    have z := tstC_ok X G c.t (c := "NoNumber") (d := "TrackError") (by decide +kernel) (by decide +kernel) (.inl (And.intro (by decide) (c.d.fact 48 (f := .glo "TrackError") rfl)))
    rw [e] at z
    exact z
  · have e : rel "NoText" "TrackError" = true := by decide +kernel
    have z := tstC_ok X G c.t (c := "NoText") (d := "TrackError") (by decide +kernel) (by decide +kernel) (.inl (And.intro (by decide) (c.d.fact 48 (f := .glo "TrackError") rfl)))
    rw [e] at z
    exact z
  · have e : rel "NoBack" "TrackError" = true := by decide +kernel
    have z := tstC_ok X G c.t (c := "NoBack") (d := "TrackError") (by decide +kernel) (by decide +kernel) (.inl (And.intro (by decide) (c.d.fact 48 (f := .glo "TrackError") rfl)))
    rw [e] at z
    exact z
  · have e : rel "NoName" "TrackError" = true := by decide +kernel
    have z := tstC_ok X G c.t (c := "NoName") (d := "TrackError") (by decide +kernel) (by decide +kernel) (.inl (And.intro (by decide) (c.d.fact 48 (f := .glo "TrackError") rfl)))
    rw [e] at z
    exact z
  · have e : rel "NoZone" "TrackError" = true := by decide +kernel
    have z := tstC_ok X G c.t (c := "NoZone") (d := "TrackError") (by decide +kernel) (by decide +kernel) (.inl (And.intro (by decide) (c.d.fact 48 (f := .glo "TrackError") rfl)))
    rw [e] at z
    exact z
theorem gx_ValueError {K : PySem.W.Frag} {mg : Str → Option Value} {h : Heap} (X : K.In h) (G : h.Ns mainGlobals mg) (c : PL.SaysX fa fn tst K) : ∀ p ∈ ([("NoTrack", true), ("NoTime", true), ("NoNumber", true), ("NoText", true), ("NoBack", true), ("NoName", true), ("NoZone", true)] : List (Str × Bool)), PL.ClsC K mg p.1 "ValueError" p.2 := by
  intro p hp
  simp only [List.mem_cons, List.not_mem_nil, or_false] at hp
  rcases hp with rfl | rfl | rfl | rfl | rfl | rfl | rfl
  · have e : rel "NoTrack" "ValueError" = true := by decide +kernel
    have z := tstC_ok X G c.t (c := "NoTrack") (d := "ValueError") (by decide +kernel) (by decide +kernel) (.inr (And.intro rfl (c.d.fact 49 (f := .free "ValueError") rfl)))
    rw [e] at z
    exact z
  · have e : rel "NoTime" "ValueError" = true := by decide +kernel
    have z := tstC_ok X G c.t (c := "NoTime") (d := "ValueError") (by decide +kernel) (by decide +kernel) (.inr (And.intro rfl (c.d.fact 49 (f := .free "ValueError") rfl)))
    rw [e] at z
    exact z
  · have e : rel "NoNumber" "ValueError" = true := by decide +kernel
    have z := tstC_ok X G c.t (c := "NoNumber") (d := "ValueError") (by decide +kernel) (by decide +kernel) (.inr (And.intro rfl (c.d.fact 49 (f := .free "ValueError") rfl)))
    rw [e] at z
    exact z
  · have e : rel "NoText" "ValueError" = true := by decide +kernel
    have z := tstC_ok X G c.t (c := "NoText") (d := "ValueError") (by decide +kernel) (by decide +kernel) (.inr (And.intro rfl (c.d.fact 49 (f := .free "ValueError") rfl)))
    rw [e] at z
    exact z
  · have e : rel "NoBack" "ValueError" = true := by decide +kernel
    have z := tstC_ok X G c.t (c := "NoBack") (d := "ValueError") (by decide +kernel) (by decide +kernel) (.inr (And.intro rfl (c.d.fact 49 (f := .free "ValueError") rfl)))
    rw [e] at z
    exact z
  · have e : rel "NoName" "ValueError" = true := by decide +kernel
    have z := tstC_ok X G c.t (c := "NoName") (d := "ValueError") (by decide +kernel) (by decide +kernel) (.inr (And.intro rfl (c.d.fact 49 (f := .free "ValueError") rfl)))
    rw [e] at z
    exact z
  · have e : rel "NoZone" "ValueError" = true := by decide +kernel
    have z := tstC_ok X G c.t (c := "NoZone") (d := "ValueError") (by decide +kernel) (by decide +kernel) (.inr (And.intro rfl (c.d.fact 49 (f := .free "ValueError") rfl)))
    rw [e] at z
    exact z
theorem g_is_whole {P : Program} {w : World} {K : PySem.W.Frag} {mg : Str → Option Value} {h base : Heap} (X : K.In h) (G : h.Ns mainGlobals mg) (c : PL.SaysX fa fn tst K) (tb : PL.TabBs K mg base) : GoodF P w K mg base 1 "is_whole" f_is_whole := by
  obtain ⟨fd, F⟩ := (c.d).def_ 0 (d := d_is_whole) rfl
  exact goodF_of F s_is_whole (He.glo_ok X G ((c.d).fact 0 (f := .glo "is_whole") rfl)) (F.bindsN (fun _ _ _ _ _ _ us hl => match us, hl with | [_, _, _], _ => rfl)) (bf X G c) tb (fun _ => rfl) (And.intro (And.intro (And.intro isIntG (And.intro trivial trivial)) (And.intro (And.intro isBoolG (And.intro trivial trivial)) (And.intro leO (And.intro leO (And.intro trivial (And.intro trivial trivial)))))) trivial) k_is_whole
theorem g_is_point {P : Program} {w : World} {K : PySem.W.Frag} {mg : Str → Option Value} {h base : Heap} (X : K.In h) (G : h.Ns mainGlobals mg) (c : PL.SaysX fa fn tst K) (tb : PL.TabBs K mg base) : GoodF P w K mg base 2 "is_point" f_is_point := by
  obtain ⟨fd, F⟩ := (c.d).def_ 1 (d := d_is_point) rfl
  exact goodF_of F s_is_point (He.glo_ok X G ((c.d).fact 1 (f := .glo "is_point") rfl)) (F.bindsN (fun _ _ _ _ _ _ us hl => match us, hl with | [_], _ => rfl)) (bf X G c) tb (fun _ => rfl) (And.intro (And.intro (And.intro (And.intro isTupleG (And.intro trivial trivial)) (And.intro (And.intro neG (And.intro (And.intro lenG (And.intro trivial trivial)) (And.intro trivial trivial))) (And.intro ((g_is_whole X G c tb).mono (by first | decide | omega)) (And.intro (And.intro ixG (And.intro trivial (And.intro trivial trivial))) (And.intro trivial (And.intro (gc_LAST X G c) trivial)))))) (And.intro (And.intro trivial trivial) trivial)) (And.intro (And.intro allG (And.intro (And.intro (And.intro slLG (And.intro trivial (And.intro trivial trivial))) (And.intro trivial (And.intro ((g_is_whole X G c tb).mono (by first | decide | omega)) (And.intro trivial (And.intro (And.intro subG (And.intro trivial (And.intro (gc_FARTHEST X G c) trivial))) (And.intro (gc_FARTHEST X G c) trivial)))))) trivial)) trivial)) k_is_point
theorem g_is_track {P : Program} {w : World} {K : PySem.W.Frag} {mg : Str → Option Value} {h base : Heap} (X : K.In h) (G : h.Ns mainGlobals mg) (c : PL.SaysX fa fn tst K) (tb : PL.TabBs K mg base) : GoodF P w K mg base 3 "is_track" f_is_track := by
  obtain ⟨fd, F⟩ := (c.d).def_ 2 (d := d_is_track) rfl
  exact goodF_of F s_is_track (He.glo_ok X G ((c.d).fact 2 (f := .glo "is_track") rfl)) (F.bindsN (fun _ _ _ _ _ _ us hl => match us, hl with | [_], _ => rfl)) (bf X G c) tb (fun _ => rfl) (And.intro (And.intro (And.intro (And.intro isTupleG (And.intro trivial trivial)) (And.intro (And.intro leO (And.intro leO (And.intro trivial (And.intro (And.intro lenG (And.intro trivial trivial)) (gc_MOST X G c))))) (And.intro allG (And.intro (And.intro trivial (And.intro trivial (And.intro ((g_is_point X G c tb).mono (by first | decide | omega)) (And.intro trivial trivial)))) trivial)))) (And.intro (And.intro trivial trivial) trivial)) (And.intro (And.intro allG (And.intro (And.intro (And.intro trivial (And.intro slLG (And.intro trivial (And.intro trivial trivial)))) (And.intro trivial (And.intro ltG (And.intro (And.intro ixG (And.intro trivial (And.intro trivial trivial))) (And.intro (And.intro ixG (And.intro trivial (And.intro trivial trivial))) trivial))))) trivial)) trivial)) k_is_track
theorem g_look_track {P : Program} {w : World} {K : PySem.W.Frag} {mg : Str → Option Value} {h base : Heap} (X : K.In h) (G : h.Ns mainGlobals mg) (c : PL.SaysX fa fn tst K) (tb : PL.TabBs K mg base) : GoodF P w K mg base 4 "look_track" f_look_track := by
  obtain ⟨fd, F⟩ := (c.d).def_ 3 (d := d_look_track) rfl
  exact goodF_of F s_look_track (He.glo_ok X G ((c.d).fact 3 (f := .glo "look_track") rfl)) (F.bindsN (fun _ _ _ _ _ _ us hl => match us, hl with | [_], _ => rfl)) (bf X G c) tb (fun _ => rfl) (And.intro (And.intro (And.intro ((g_is_track X G c tb).mono (by first | decide | omega)) (And.intro trivial trivial)) (And.intro (And.intro (rc_NoTrack X G c) trivial) trivial)) trivial) k_look_track
theorem g_cell_of {P : Program} {w : World} {K : PySem.W.Frag} {mg : Str → Option Value} {h base : Heap} (X : K.In h) (G : h.Ns mainGlobals mg) (c : PL.SaysX fa fn tst K) (tb : PL.TabBs K mg base) : GoodF P w K mg base 1 "cell_of" f_cell_of := by
  obtain ⟨fd, F⟩ := (c.d).def_ 4 (d := d_cell_of) rfl
  exact goodF_of F s_cell_of (He.glo_ok X G ((c.d).fact 4 (f := .glo "cell_of") rfl)) (F.bindsN (fun _ _ _ _ _ _ us hl => match us, hl with | [_, _], _ => rfl)) (bf X G c) tb (fun _ => rfl) (And.intro (And.intro tupG (And.intro (And.intro fdvG (And.intro (And.intro ixG (And.intro trivial (And.intro trivial trivial))) (And.intro trivial trivial))) (And.intro (And.intro fdvG (And.intro (And.intro ixG (And.intro trivial (And.intro trivial trivial))) (And.intro trivial trivial))) trivial))) trivial) k_cell_of
theorem g_look_size {P : Program} {w : World} {K : PySem.W.Frag} {mg : Str → Option Value} {h base : Heap} (X : K.In h) (G : h.Ns mainGlobals mg) (c : PL.SaysX fa fn tst K) (tb : PL.TabBs K mg base) : GoodF P w K mg base 2 "look_size" f_look_size := by
  obtain ⟨fd, F⟩ := (c.d).def_ 5 (d := d_look_size) rfl
  exact goodF_of F s_look_size (He.glo_ok X G ((c.d).fact 5 (f := .glo "look_size") rfl)) (F.bindsN (fun _ _ _ _ _ _ us hl => match us, hl with | [_], _ => rfl)) (bf X G c) tb (fun _ => rfl) (And.intro (And.intro (And.intro ((g_is_whole X G c tb).mono (by first | decide | omega)) (And.intro trivial (And.intro trivial (And.intro (gc_MOST_SIZE X G c) trivial)))) (And.intro (And.intro (rc_NoNumber X G c) trivial) trivial)) trivial) k_look_size
theorem g_cells {P : Program} {w : World} {K : PySem.W.Frag} {mg : Str → Option Value} {h base : Heap} (X : K.In h) (G : h.Ns mainGlobals mg) (c : PL.SaysX fa fn tst K) (tb : PL.TabBs K mg base) : GoodF P w K mg base 5 "cells" f_cells := by
  obtain ⟨fd, F⟩ := (c.d).def_ 6 (d := d_cells) rfl
  exact goodF_of F s_cells (He.glo_ok X G ((c.d).fact 6 (f := .glo "cells") rfl)) (F.bindsN (fun _ _ _ _ _ _ us hl => match us, hl with | [_, _], _ => rfl)) (bf X G c) tb (fun _ => rfl) (And.intro (And.intro ((g_look_track X G c tb).mono (by first | decide | omega)) (And.intro trivial trivial)) (And.intro (And.intro ((g_look_size X G c tb).mono (by first | decide | omega)) (And.intro trivial trivial)) (And.intro (And.intro trivial (And.intro trivial (And.intro ((g_cell_of X G c tb).mono (by first | decide | omega)) (And.intro (And.intro slLG (And.intro trivial (And.intro trivial trivial))) (And.intro trivial trivial))))) (And.intro (And.intro trivial (And.intro (And.intro (And.intro eqG (And.intro trivial (And.intro trivial trivial))) (And.intro neG (And.intro trivial (And.intro (And.intro ixG (And.intro trivial (And.intro (And.intro subG (And.intro trivial (And.intro trivial trivial))) trivial))) trivial)))) trivial)) trivial)))) k_cells
theorem g_how_often {P : Program} {w : World} {K : PySem.W.Frag} {mg : Str → Option Value} {h base : Heap} (X : K.In h) (G : h.Ns mainGlobals mg) (c : PL.SaysX fa fn tst K) (tb : PL.TabBs K mg base) : GoodF P w K mg base 5 "how_often" f_how_often := by
  obtain ⟨fd, F⟩ := (c.d).def_ 7 (d := d_how_often) rfl
  exact goodF_of F s_how_often (He.glo_ok X G ((c.d).fact 7 (f := .glo "how_often") rfl)) (F.bindsN (fun _ _ _ _ _ _ us hl => match us, hl with | [_, _], _ => rfl)) (bf X G c) tb (fun _ => rfl) (And.intro (And.intro ((g_look_track X G c tb).mono (by first | decide | omega)) (And.intro trivial trivial)) (And.intro (And.intro ((g_look_size X G c tb).mono (by first | decide | omega)) (And.intro trivial trivial)) (And.intro (And.intro trivial (And.intro trivial (And.intro ((g_cell_of X G c tb).mono (by first | decide | omega)) (And.intro (And.intro slLG (And.intro trivial (And.intro trivial trivial))) (And.intro trivial trivial))))) (And.intro (And.intro (And.intro sortedSetG (And.intro trivial trivial)) (And.intro trivial (And.intro tupG (And.intro trivial (And.intro (countG trivial) trivial))))) trivial)))) k_how_often
theorem g_looked {P : Program} {w : World} {K : PySem.W.Frag} {mg : Str → Option Value} {h base : Heap} (X : K.In h) (G : h.Ns mainGlobals mg) (c : PL.SaysX fa fn tst K) (tb : PL.TabBs K mg base) : GoodF P w K mg base 5 "looked" f_looked := by
  obtain ⟨fd, F⟩ := (c.d).def_ 8 (d := d_looked) rfl
  exact goodF_of F s_looked (He.glo_ok X G ((c.d).fact 8 (f := .glo "looked") rfl)) (F.bindsN (fun _ _ _ _ _ _ us hl => match us, hl with | [_], _ => rfl)) (bf X G c) tb (fun _ => rfl) (And.intro (And.intro ((g_look_track X G c tb).mono (by first | decide | omega)) (And.intro trivial trivial)) (And.intro trivial trivial)) k_looked
theorem g_snapped {P : Program} {w : World} {K : PySem.W.Frag} {mg : Str → Option Value} {h base : Heap} (X : K.In h) (G : h.Ns mainGlobals mg) (c : PL.SaysX fa fn tst K) (tb : PL.TabBs K mg base) : GoodF P w K mg base 6 "snapped" f_snapped := by
  obtain ⟨fd, F⟩ := (c.d).def_ 9 (d := d_snapped) rfl
  exact goodF_of F s_snapped (He.glo_ok X G ((c.d).fact 9 (f := .glo "snapped") rfl)) (F.bindsN (fun _ _ _ _ _ _ us hl => match us, hl with | [_, _], _ => rfl)) (bf X G c) tb (fun _ => rfl) (And.intro (And.intro ((g_look_track X G c tb).mono (by first | decide | omega)) (And.intro trivial trivial)) (And.intro (And.intro ((g_look_size X G c tb).mono (by first | decide | omega)) (And.intro trivial trivial)) (And.intro (And.intro ((g_looked X G c tb).mono (by first | decide | omega)) (And.intro (And.intro tupleOfG (And.intro (And.intro trivial (And.intro trivial (And.intro tupG (And.intro trivial (And.intro (And.intro mulG (And.intro (And.intro fdvG (And.intro trivial (And.intro trivial trivial))) (And.intro trivial trivial))) (And.intro (And.intro mulG (And.intro (And.intro fdvG (And.intro trivial (And.intro trivial trivial))) (And.intro trivial trivial))) trivial)))))) trivial)) trivial)) trivial))) k_snapped
theorem g__law_cell {P : Program} {w : World} {K : PySem.W.Frag} {mg : Str → Option Value} {h base : Heap} (X : K.In h) (G : h.Ns mainGlobals mg) (c : PL.SaysX fa fn tst K) (tb : PL.TabBs K mg base) : GoodF P w K mg base 1 "_law_cell" f__law_cell := by
  obtain ⟨fd, F⟩ := (c.d).def_ 10 (d := d__law_cell) rfl
  have z : GoodF P w K mg base 1 "_law_cell" (callD 2 2 b__law_cell) := goodF_of F s__law_cell (He.glo_ok X G ((c.d).fact 10 (f := .glo "_law_cell") rfl)) (F.bindsN (fun _ _ _ _ _ _ us hl => match us, hl with | [_, _], _ => rfl)) (bf X G c) tb (fun _ => rfl) (And.intro (And.intro (And.intro ltG (And.intro trivial (And.intro (And.intro lenG (And.intro trivial trivial)) trivial))) (And.intro (And.intro (And.intro ixG (And.intro trivial (And.intro trivial trivial))) trivial) trivial)) (And.intro (And.intro (And.intro eqG (And.intro trivial (And.intro (And.intro lstG trivial) trivial))) (And.intro (And.intro trivial trivial) trivial)) (And.intro (And.intro addG (And.intro (And.intro mulG (And.intro (And.intro ixG (And.intro trivial (And.intro (And.intro modG (And.intro trivial (And.intro (And.intro lenG (And.intro trivial trivial)) trivial))) trivial))) (And.intro trivial trivial))) (And.intro trivial trivial))) trivial))) k__law_cell
  exact z.ref r__law_cell
theorem g__law_pick {P : Program} {w : World} {K : PySem.W.Frag} {mg : Str → Option Value} {h base : Heap} (X : K.In h) (G : h.Ns mainGlobals mg) (c : PL.SaysX fa fn tst K) (tb : PL.TabBs K mg base) : GoodF P w K mg base 2 "_law_pick" f__law_pick := by
  obtain ⟨fd, F⟩ := (c.d).def_ 11 (d := d__law_pick) rfl
  have z : GoodF P w K mg base 2 "_law_pick" (callD 4 3 b__law_pick) := goodF_of F s__law_pick (He.glo_ok X G ((c.d).fact 11 (f := .glo "_law_pick") rfl)) (F.bindsN (fun _ _ _ _ _ _ us hl => match us, hl with | [_, _, _], _ => rfl)) (bf X G c) tb (fun _ => rfl) (And.intro (And.intro modG (And.intro (And.intro mulG (And.intro (And.intro addG (And.intro (And.intro ((g__law_cell X G c tb).mono (by first | decide | omega)) (And.intro trivial (And.intro trivial trivial))) (And.intro (And.intro mulG (And.intro trivial (And.intro (And.intro addG (And.intro trivial (And.intro trivial trivial))) trivial))) trivial))) (And.intro trivial trivial))) (And.intro trivial trivial))) (And.intro (And.intro modG (And.intro (And.intro modG (And.intro (And.intro addG (And.intro (And.intro mulG (And.intro trivial (And.intro trivial trivial))) (And.intro (And.intro fdvG (And.intro trivial (And.intro trivial trivial))) trivial))) (And.intro trivial trivial))) (And.intro trivial trivial))) trivial)) k__law_pick
  exact z.ref r__law_pick
theorem g__law_track {P : Program} {w : World} {K : PySem.W.Frag} {mg : Str → Option Value} {h base : Heap} (X : K.In h) (G : h.Ns mainGlobals mg) (c : PL.SaysX fa fn tst K) (tb : PL.TabBs K mg base) : GoodF P w K mg base 3 "_law_track" f__law_track := by
  obtain ⟨fd, F⟩ := (c.d).def_ 12 (d := d__law_track) rfl
  exact goodF_of F s__law_track (He.glo_ok X G ((c.d).fact 12 (f := .glo "_law_track") rfl)) (F.bindsN (fun _ _ _ _ _ _ us hl => match us, hl with | [_, _, _], _ => rfl)) (bf X G c) tb (fun _ => rfl) (And.intro (And.intro addG (And.intro trivial (And.intro (And.intro ((g__law_pick X G c tb).mono (by first | decide | omega)) (And.intro trivial (And.intro trivial (And.intro trivial trivial)))) trivial))) (And.intro (And.intro ixG (And.intro (And.intro lstG (And.intro trivial (And.intro trivial (And.intro trivial trivial)))) (And.intro (And.intro ((g__law_pick X G c tb).mono (by first | decide | omega)) (And.intro trivial (And.intro (And.intro addG (And.intro trivial (And.intro trivial trivial))) (And.intro trivial trivial)))) trivial))) (And.intro (And.intro ((g__law_pick X G c tb).mono (by first | decide | omega)) (And.intro trivial (And.intro (And.intro addG (And.intro trivial (And.intro trivial trivial))) (And.intro trivial trivial)))) (And.intro (And.intro (And.intro subG (And.intro (And.intro ((g__law_pick X G c tb).mono (by first | decide | omega)) (And.intro trivial (And.intro (And.intro addG (And.intro trivial (And.intro trivial trivial))) (And.intro trivial trivial)))) (And.intro trivial trivial))) (And.intro (And.intro subG (And.intro (And.intro ((g__law_pick X G c tb).mono (by first | decide | omega)) (And.intro trivial (And.intro (And.intro addG (And.intro trivial (And.intro trivial trivial))) (And.intro trivial trivial)))) (And.intro trivial trivial))) trivial)) (And.intro (And.intro lstG (And.intro (And.intro tupG (And.intro trivial (And.intro trivial (And.intro trivial trivial)))) trivial)) (And.intro (And.intro (And.intro trivial (And.intro trivial trivial)) (And.intro (And.intro addG (And.intro (And.intro addG (And.intro trivial (And.intro trivial trivial))) (And.intro (And.intro ((g__law_pick X G c tb).mono (by first | decide | omega)) (And.intro trivial (And.intro (And.intro addG (And.intro trivial (And.intro (And.intro mulG (And.intro trivial (And.intro trivial trivial))) trivial))) (And.intro (And.intro ixG (And.intro (And.intro lstG (And.intro trivial (And.intro trivial (And.intro trivial trivial)))) (And.intro (And.intro ((g__law_pick X G c tb).mono (by first | decide | omega)) (And.intro trivial (And.intro (And.intro addG (And.intro (And.intro addG (And.intro trivial (And.intro trivial trivial))) (And.intro trivial trivial))) (And.intro trivial trivial)))) trivial))) trivial)))) trivial))) (And.intro (And.intro max2G (And.intro (And.intro negG (And.intro trivial trivial)) (And.intro (And.intro min2G (And.intro trivial (And.intro (And.intro subG (And.intro (And.intro addG (And.intro trivial (And.intro (And.intro ((g__law_pick X G c tb).mono (by first | decide | omega)) (And.intro trivial (And.intro (And.intro addG (And.intro (And.intro addG (And.intro trivial (And.intro (And.intro mulG (And.intro trivial (And.intro trivial trivial))) trivial))) (And.intro trivial trivial))) (And.intro (And.intro addG (And.intro (And.intro mulG (And.intro trivial (And.intro trivial trivial))) (And.intro trivial trivial))) trivial)))) trivial))) (And.intro trivial trivial))) trivial))) trivial))) (And.intro (And.intro max2G (And.intro (And.intro negG (And.intro trivial trivial)) (And.intro (And.intro min2G (And.intro trivial (And.intro (And.intro subG (And.intro (And.intro addG (And.intro trivial (And.intro (And.intro ((g__law_pick X G c tb).mono (by first | decide | omega)) (And.intro trivial (And.intro (And.intro addG (And.intro (And.intro addG (And.intro trivial (And.intro (And.intro mulG (And.intro trivial (And.intro trivial trivial))) trivial))) (And.intro trivial trivial))) (And.intro (And.intro addG (And.intro (And.intro mulG (And.intro trivial (And.intro trivial trivial))) (And.intro trivial trivial))) trivial)))) trivial))) (And.intro trivial trivial))) trivial))) trivial))) (And.intro (And.intro (And.intro eqG (And.intro (And.intro ((g__law_pick X G c tb).mono (by first | decide | omega)) (And.intro trivial (And.intro (And.intro addG (And.intro (And.intro addG (And.intro trivial (And.intro (And.intro mulG (And.intro trivial (And.intro trivial trivial))) trivial))) (And.intro trivial trivial))) (And.intro trivial trivial)))) (And.intro trivial trivial))) (And.intro (And.intro (And.intro slLG (And.intro (And.intro ixG (And.intro trivial (And.intro (And.intro negG (And.intro trivial trivial)) trivial))) (And.intro trivial trivial))) trivial) trivial)) (And.intro (And.intro tupG (And.intro trivial (And.intro trivial (And.intro trivial trivial)))) trivial)))))) (And.intro (And.intro tupleOfG (And.intro trivial trivial)) trivial))))))) k__law_track

theorem td__law_told {P : Program} {w : World} {K : PySem.W.Frag} {mg : Str → Option Value} {h base : Heap} {k : Nat} {Q : Str} (X : K.In h) (G : h.Ns mainGlobals mg) (c : PL.SaysX fa fn tst K) : ToldC ⟨P, w, K, mg, base, k, Q⟩ "_law_told" [("NoTrack", true), ("NoTime", true), ("NoNumber", true), ("NoText", true), ("NoBack", true), ("NoName", true), ("NoZone", true)] f__law_class := by
  obtain ⟨fd, F⟩ := (c.d).def_ 14 (d := d__law_told) rfl
  obtain ⟨fdc, Fc⟩ := (c.d).def_ 13 (d := d__law_class) rfl
  have cool : coolS K mg b__law_class := (And.intro (And.intro lstH (And.intro (isXH (gx_NoBack X G c) (by decide)) (And.intro (isXH (gx_NoName X G c) (by decide)) (And.intro (isXH (gx_NoNumber X G c) (by decide)) (And.intro (isXH (gx_NoText X G c) (by decide)) trivial))))) (And.intro (And.intro addH (And.intro trivial (And.intro (And.intro lstH (And.intro (isXH (gx_NoTime X G c) (by decide)) (And.intro (isXH (gx_NoTrack X G c) (by decide)) (And.intro (isXH (gx_NoZone X G c) (by decide)) trivial)))) trivial))) (And.intro (And.intro (And.intro (And.intro neH (And.intro (countH trivial) (And.intro trivial trivial))) (isXH (gx_ValueError X G c) (by decide))) (And.intro (And.intro trivial trivial) trivial)) (And.intro (And.intro lstH (And.intro trivial (And.intro trivial (And.intro trivial (And.intro trivial (And.intro trivial (And.intro trivial (And.intro trivial trivial)))))))) (And.intro (And.intro ixH (And.intro trivial (And.intro (indexH trivial) trivial))) trivial)))))
  have W : FnW P w K mg base (L2.CX P w) 1 _ fdc _ (spD K mg 1 f__law_class) := fnW_of (k := 0) Fc s__law_class (bf X G c) cool k__law_class
  exact ⟨⟨fd, fdc, _, _, _, _, _, _, _, N__law_told, _, "deed", "TrackError", "e", "_law_class", 1, F, He.glo_ok X G ((c.d).fact 14 (f := .glo "_law_told") rfl), F.bindsN (fun _ _ _ _ _ _ us hl => match us, hl with | [_], _ => rfl), s__law_told, by decide +kernel, rfl, rfl, by decide +kernel, by decide, by decide +kernel, by decide, by decide +kernel, by decide, by decide +kernel, by decide, He.glo_ok X G ((c.d).fact 48 (f := .glo "TrackError") rfl), gx_TrackError X G c, W, rfl, He.glo_ok X G ((c.d).fact 13 (f := .glo "_law_class") rfl), Fc.kp, Fc.bindsN (fun _ _ _ _ _ _ us hl => match us, hl with | [_], _ => rfl)⟩⟩
theorem fin {w : World} {K : PySem.W.Frag} {mg : Str → Option Value} {h : Heap} {at_ : Addr} (X : K.In h) (G : h.Ns mainGlobals mg) (hm : mg "law" = some (.ref at_)) (cx : He.SaysX fa fn [] (PL.lamNames.map fun n => (n, none)) tst w h K) :
    LamX.LawAtS PySem.Challenge.rw_tracklines_k21_whole_cells w K CX0 9 63 "script" mg at_ h := by
  have c : PL.SaysX fa fn tst K := Prod.ext cx.more cx.t.d
  obtain ⟨fd, F⟩ := (c.d).def_ 15 (d := d_law) rfl
  have e := He.glo_ok X G ((c.d).fact 15 (f := .glo "law") rfl)
  rw [hm] at e
  obtain rfl := Value.ref.inj (Option.some.inj e)
  have gd : ∀ base : Heap, PL.TabBs K mg base → goodS (GoodF (PySem.Challenge.rw_tracklines_k21_whole_cells).prog w K mg base 8) (GC ⟨(PySem.Challenge.rw_tracklines_k21_whole_cells).prog, w, K, mg, base, 8, "law" ++ ".<locals>."⟩) (RaiseC K mg) b_law := fun base tb => (And.intro (And.intro (And.intro ((g__law_track X G c tb).mono (by first | decide | omega)) (And.intro trivial (And.intro trivial (And.intro trivial trivial)))) (And.intro (And.intro addG (And.intro trivial (And.intro (And.intro ((g__law_pick X G c tb).mono (by first | decide | omega)) (And.intro trivial (And.intro trivial (And.intro (And.intro ixG (And.intro (And.intro lstG (And.intro trivial (And.intro trivial (And.intro trivial trivial)))) (And.intro (And.intro ((g__law_pick X G c tb).mono (by first | decide | omega)) (And.intro trivial (And.intro trivial (And.intro trivial trivial)))) trivial))) trivial)))) trivial))) trivial)) (And.intro (And.intro trivial (And.intro trivial (And.intro tupG (And.intro (And.intro fdvG (And.intro (And.intro subG (And.intro trivial (And.intro (And.intro modG (And.intro trivial (And.intro trivial trivial))) trivial))) (And.intro trivial trivial))) (And.intro (And.intro fdvG (And.intro (And.intro subG (And.intro trivial (And.intro (And.intro modG (And.intro trivial (And.intro trivial trivial))) trivial))) (And.intro trivial trivial))) trivial))))) (And.intro (And.intro lstG trivial) (And.intro (And.intro trivial (And.intro (And.intro (And.intro (And.intro eqG (And.intro trivial (And.intro (And.intro lstG trivial) trivial))) (And.intro neG (And.intro (And.intro ixG (And.intro trivial (And.intro (And.intro negG (And.intro trivial trivial)) trivial))) (And.intro trivial trivial)))) (And.intro (And.intro trivial trivial) trivial)) trivial)) (And.intro (And.intro (And.intro neG (And.intro (And.intro ((g_cells X G c tb).mono (by first | decide | omega)) (And.intro trivial (And.intro trivial trivial))) (And.intro trivial trivial))) (And.intro (And.intro trivial trivial) trivial)) (And.intro newDG (And.intro (And.intro trivial (And.intro (putDG trivial (And.intro addG (And.intro (getDA trivial trivial trivial) (And.intro trivial trivial)))) trivial)) (And.intro (And.intro (And.intro neG (And.intro (And.intro ((g_how_often X G c tb).mono (by first | decide | omega)) (And.intro trivial (And.intro trivial trivial))) (And.intro (itemsG trivial) trivial))) (And.intro (And.intro trivial trivial) trivial)) (And.intro (And.intro tupleOfG (And.intro (And.intro trivial (And.intro trivial (And.intro tupG (And.intro trivial (And.intro (And.intro subG (And.intro trivial (And.intro (And.intro modG (And.intro trivial (And.intro trivial trivial))) trivial))) (And.intro (And.intro subG (And.intro trivial (And.intro (And.intro modG (And.intro trivial (And.intro trivial trivial))) trivial))) trivial)))))) trivial)) (And.intro (toldA (toldAt 6 rfl (td__law_told X G c) (lamOk_one rfl (by decide) rfl) (And.intro ((g_snapped X G c tb).mono (by first | decide | omega)) (And.intro trivial (And.intro trivial trivial))))) (And.intro (And.intro (And.intro neG (And.intro (And.intro trivial (And.intro (And.intro ltG (And.intro (And.intro minTG (And.intro (And.intro slLG (And.intro trivial (And.intro trivial trivial))) trivial)) (And.intro (And.intro negG (And.intro trivial trivial)) trivial))) trivial)) (And.intro (And.intro lstG trivial) trivial))) (And.intro (And.intro (And.intro eqG (And.intro trivial (And.intro trivial trivial))) trivial) trivial)) (And.intro (And.intro (And.intro (And.intro neG (And.intro trivial (And.intro trivial trivial))) (And.intro (And.intro neG (And.intro (And.intro ((g_snapped X G c tb).mono (by first | decide | omega)) (And.intro trivial (And.intro trivial trivial))) (And.intro trivial trivial))) (And.intro neG (And.intro (And.intro ((g_cells X G c tb).mono (by first | decide | omega)) (And.intro trivial (And.intro trivial trivial))) (And.intro trivial trivial))))) (And.intro (And.intro trivial trivial) trivial)) (And.intro (And.intro sumG (And.intro (And.intro (And.intro ((g_how_often X G c tb).mono (by first | decide | omega)) (And.intro trivial (And.intro trivial trivial))) (And.intro trivial trivial)) trivial)) (And.intro (And.intro (And.intro eqG (And.intro (And.intro ((g_snapped X G c tb).mono (by first | decide | omega)) (And.intro trivial (And.intro trivial trivial))) (And.intro trivial trivial))) (And.intro eqG (And.intro trivial (And.intro (And.intro lenG (And.intro trivial trivial)) trivial)))) trivial))))))))))))))
  exact law_endT X F (fun _ _ _ _ _ _ us hl => match us, hl with | [_], _ => rfl) (fun n hn => cx.hd _ (List.mem_map.mpr ⟨n, hn, rfl⟩)) (fun n hn => cx.out _ (List.mem_map.mpr ⟨n, hn, rfl⟩)) (fun n hn => cx.empty _ (List.mem_map.mpr ⟨n, hn, rfl⟩)) (fun base tb => fnOk_of F s_law (bf X G c) tb (fun _ => rfl) (gd base tb) k_law) law_true
def loose : List PySem.Str := (["TrackError", "NoTrack", "NoTime", "NoNumber", "NoText", "NoZone", "NoName", "NoBack", "LAST", "FARTHEST", "MOST", "is_whole", "is_point", "is_track", "look_track", "looked", "MOST_SIZE", "cell_of", "look_size", "cells", "how_often", "snapped", "_law_cell", "_law_pick", "_law_track", "_law_class", "_law_told"] : List PySem.Str)
abbrev R : PySem.W.OpenRow := PySem.W.OpenLaw.row PySem.Challenge.rw_tracklines_k21_whole_cells
abbrev hk : PySem.W.Hook := He.hookX 4 fa fn [] (PL.lamNames.map fun n => (n, none)) tst
def ob (s : PySem.W.SharedT) : He.AlX := He.obsX 4 fa fn [] (PL.lamNames.map fun n => (n, none)) tst (HandSHeadRun.getT s)
theorem ob_eq (s : PySem.W.SharedT) : ob s = hk.obs s.abs := He.obsX_eq (HandSHeadRun.getT_eq s)
theorem run_top (w : World) : HandSHeadRun.RunEq R (PySem.W.view R.prog [31]) hk ob 2320 loose w := by
  intro os
  kernel_rfl
end Pk21
open PySem PySem.W PySem.Calls PyProof.Rows
theorem PySem.Challenge.cw_tracklines_k21_whole_cells_holds : PySem.Challenge.rw_tracklines_k21_whole_cells.Holds := by
  w_on; o_law
  refine HandSHeadRun.head_any (r := OpenLaw.row PySem.Challenge.rw_tracklines_k21_whole_cells) (q := view (OpenLaw.row PySem.Challenge.rw_tracklines_k21_whole_cells).prog [31]) (H := Pk21.hk) (ob := Pk21.ob) (M := 2320) (loose := Pk21.loose) (d := HandSHeadRun.topDef (OpenLaw.row PySem.Challenge.rw_tracklines_k21_whole_cells).prog 31) (kwd := []) Pk21.ob_eq (by kernel_rfl) (fun s => by kernel_rfl) Pk21.run_top (by kernel_rfl) (by kernel_rfl) (by kernel_rfl) (by rfl) (by first | assumption | decide +kernel) (by decide +kernel) ⟨rfl, rfl, rfl, rfl, rfl, by decide +kernel⟩ ?hw ?hc
  case hw => w_witness2
  case hc =>
    refine LamX.walk_ofTsE (l := PySem.Challenge.rw_tracklines_k21_whole_cells) (n := 63) (k := 9) (x := "script") (CX := fun _ => L2.CX0) rfl (by decide) (by kernel_rfl) ⟨rfl, by decide, by decide⟩ ?F (fun _ _ _ _ _ z => z)
    intro w mg lawAt h Y G named
    obtain ⟨K, KX, c⟩ := Y
    have lawIs : mg ("law" : PySem.Str) = some (.ref lawAt) := by
      have nm : (HandSHeadRun.topDef (OpenLaw.row PySem.Challenge.rw_tracklines_k21_whole_cells).prog 31).name = ("law" : PySem.Str) := by kernel_rfl
      rw [← nm]; exact named
    exact ⟨K, KX, Pk21.fin KX G lawIs c⟩
