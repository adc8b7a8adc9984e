import PyProof.Rows.All
import Wide.All
import OpenK.AllK
import Wide.FinOn
import HandS.ForExc
import HandS.TryOnly
import HandS.ExcIs
import HandS.IsInst
import HandS.ForMost
import HandS.WideBits
import HandS.Defaults
import HandS.Zip
import HandS.Flow
import HandS.Style
import HandS.HeadHook1
import HandS.HeadHook2
import HandS.TupAny
import HandS.Rev
import HandS.Conv
import HandS.Deep
import HandS.Small
import HandS.Iter
import HandS.RaiseMore
import HandS.CallSlots
import HandS.Dict
import HandS.HeadEnd
import HandS.EndBits
import PyProof.ReprRoads
import HandS.SortInts
import PyProof.ListRange
import PyProof.EqKinds
import PyProof.ReprBulk
import PyProof.FitsInt
import HandS.Head0
import HandS.Head1
import HandS.Head2
import PySem.Challenge.RW_swingposts_k03_places_by_side
set_option Elab.async false
set_option linter.all false
set_option maxRecDepth 100000
set_option maxHeartbeats 0
namespace Mi
open PySem PySem.Spec PyProof.Rows L2

/-- a caught exception of the class cls, kept as a value -/
def exoV (cls : Value) (a : Addr) : HO := .ext fun h => ∃ oe, h.get? a = some oe ∧ Zc cls none oe ∧ ∃ vs, oe.data = .fields vs
theorem exoV_ok {P : Program} {w : World} {H : Hp} {h : Heap} {a : Addr} {cls : Value} {oe : Obj} (e : h.get? a = some oe) (z : Zc cls none oe) (d : ∃ vs, oe.data = .fields vs) : ObjOk P w H h a (exoV cls a) :=
  ⟨⟨oe, e, z, d⟩, ⟨oe, e⟩, fun _ _ ⟨o, q, r⟩ k => ⟨o, k o q, r⟩⟩
theorem Inv.adopt {X : Cx} {pins : List (Addr × Obj)} {σ : L2.St} {H : Hp} {s : Shared} {a : Addr} {φ : Heap → Prop} (I : Inv X pins σ H s) (na : H a = none) (h0 : X.s_0.heap.get? a = none) (ob : ObjOk X.prog X.w (upd H a (.ext φ)) s.heap a (.ext φ)) (nL : a ≠ X.env.locals)
    (nC : ∀ x c, X.env.cells.lookup x = some c → c ≠ a) (nP : ∀ p ∈ X.pn ++ pins, p.1 ≠ a) : Inv X pins σ (upd H a (.ext φ)) s := by
  have ne0 : ∀ b o, X.s_0.heap.get? b = some o → b ≠ a := fun b o e z => by
    rw [z, h0] at e
    cases e
  refine ⟨I.ok, I.os, I.bare, ⟨I.base.keep, I.base.slot, fun b o e n hx => ?_, I.base.there, fun b xs e => ?_, fun b o u e => ?_, fun b ps e => ?_⟩, I.loc, I.cell, ?_, fun x c e => ?_, fun p hp => ?_, fun b u e => ?_, I.len⟩
  · rw [upd_ne (ne0 b o e)]
    exact I.base.free b o e n hx
  · have q := I.base.tups b xs e
    rw [upd_ne (ne_of_none q na)]
    exact q
  · have q := I.base.frzs b o u e
    rw [upd_ne (ne_of_none q na)]
    exact q
  · obtain ⟨m, q⟩ := I.base.tbls b ps e
    exact ⟨m, by rw [upd_ne (ne_of_none q na)]; exact q⟩
  · rw [upd_ne (Ne.symm nL)]
    exact I.free
  · rw [upd_ne (nC x c e)]
    exact I.freeC x c e
  · obtain ⟨h1, h2, h3⟩ := I.pin p hp
    exact ⟨h1, by rw [upd_ne (nP p hp)]; exact h2, h3⟩
  · by_cases hb : b = a
    · subst hb
      rw [upd_same] at e
      cases e
      exact ob
    · rw [upd_ne hb] at e
      exact (I.hok b u e).stay (fun c v _ q => q) (fun c q => by rw [upd_ne (ne_of_none q na)]; exact q) fun c xs q => by rw [upd_ne (ne_of_none q na)]; exact q
/-- the suite's context -/
abbrev suiteQ (X : Cx) (a : Addr) (pn : List (Addr × Obj)) : Cx := { X with A := X.A.mark (some (.ref a)), calm := false, pn := pn, xe := fun _ _ => False }
theorem Inv.suiteQ {X : Cx} {pins : List (Addr × Obj)} {σ : L2.St} {H : Hp} {s : Shared} (I : Inv X pins σ H s) (a : Addr) : Inv (suiteQ X a (X.pn ++ pins)) [] σ H s :=
  ⟨I.ok.suite _ _, I.os, I.bare, I.base, I.loc, I.cell, I.free, I.freeC, fun p hp => by rw [List.append_nil] at hp; exact I.pin p hp, I.hok, I.len⟩
theorem Inv.unsuiteQ {X : Cx} {pins : List (Addr × Obj)} {σ : L2.St} {H : Hp} {s : Shared} {a : Addr} (I : Inv (Mi.suiteQ X a (X.pn ++ pins)) [] σ H s) (ok : X.Ok) : Inv X pins σ H s :=
  ⟨ok, I.os, I.bare, I.base, I.loc, I.cell, I.free, I.freeC, fun p hp => I.pin p (List.mem_append_left _ hp), I.hok, I.len⟩
/-- what the clause 'except x as n' wishes -/
def wAsQ (K : PySem.W.Frag) (c : Value) (i : Nat) (ts : TS) (Wout : WX) (D : Ends) : WX := fun cls d σ H =>
  ∃ b, PySem.W.exmOne K cls c = some b ∧ (b = true → d = none ∧ ∀ a, H a = none → ts { nx := fun σ' H' => D.nx (σ'.set i none) H', rt := D.rt, bk := fun σ' H' => D.bk (σ'.set i none) H', ct := fun σ' H' => D.ct (σ'.set i none) H' } (σ.set i (some (.ref a))) (upd H a (exoV cls a))) ∧
    (b = false → Wout cls d σ H)
section
variable {X : Cx} {x n : Str} {c : Value} {i : Nat} {body suite : List Stmt} {b₀ : Stmt} {np pos pos' : Pos} {tb : WX → TS} {ts : TS} {Wout : WX}
theorem ps_try_asQ (hs : X.stack = X.env :: X.outer) (hf : X.env.frame = some X.env.locals) (hex : X.ex = []) (hN : X.N.Nodup) (hi : X.N[i]? = some n) (hln : X.env.kindOf n = some .local) (hc : Names X x c) (tk : Takes X Wout)
    (hb : ∀ (W : WX) (pn : List (Addr × Obj)) (xe : Value → Shared → Prop), Takes (X.tr pn xe) W → PassesOwn (model X.prog X.w) X.A X.env xe → PSs (X.tr pn xe) body (tb W))
    (hsu : ∀ (a : Addr) (pn : List (Addr × Obj)), PSs (suiteQ X a pn) (b₀ :: suite) ts) :
    PS X (.Try body [.ExceptHandler (some (.Name x np)) (some n) (b₀ :: suite) pos'] [] [] pos) (fun D σ H => tb (wAsQ X.K c i ts Wout D) D σ H) := by
  refine ⟨fun pins s σ H D I h => ?_⟩
  have ok := I.ok
  have hfr : X.A.frames = some (X.env :: X.outer) := by rw [ok.frames, hs]
  have hloc : Loc X.env.scope n := .inl hln
  refine wpAny_Try_except ?_
  refine wpAny_mono ((hb (wAsQ X.K c i ts Wout D) (X.pn ++ pins) (fun e s₁ => wpAny (model X.prog X.w) X.A (noteFrame e X.env) (fun _ s₂ => wpAny (model X.prog X.w) X.A (setFlight e none) (fun _ s₃ =>
    wpAny (model X.prog X.w) X.A (handleBy e X.env [.ExceptHandler (some (.Name x np)) (some n) (b₀ :: suite) pos']) (SP X pins D) X.xe s₃) X.xe s₂) X.xe s₁) (fun u s' xx => ?_) PassesOwn.looking).run [] s σ H D (I.toTry _) h) (fun f s1 hsp => ?_) (fun e s1 he => he)
  · -- the catch
    obtain ⟨a, B, sI, pins', σ', H', cls, d, rfl, J', nb, up, sky, na, os, ag, b, hb1, hyes, hno⟩ := xx
    have J : Inv X pins σ' H' sI := J'.ofTry ok
    have sky' : Sky B (X.env :: X.outer) a (Zc cls d) X.env.locals s'.heap := by rw [← hs]; exact sky
    show wpAny (model X.prog X.w) X.A (noteFrame (.ref a) X.env) _ _ _
    refine Sky.land Zc.steady hfr hf sky' fun h3 fl3 up3 => ?_
    have J3 : Inv X pins σ' H' { s' with heap := h3 } := J.landed nb fl3.1 (up.trans up3) os ag
    obtain ⟨oe3, vs3, he3, hz3, hd3⟩ := fl3.there
    have notFr : ∀ {h : Heap} {o : Obj} {vs : Array Value}, h.FunFrames B (X.env :: X.outer) → h.get? a = some o → o.data = .fields vs → a ∉ frs (X.env :: X.outer) := fun {h o vs} ff e dd hm => by
      obtain ⟨_, o', e', hnf⟩ := ff.mem hm
      rw [e] at e'; cases e'
      exact hnf _ dd
    have nfr := notFr fl3.2.2.1 he3 hd3
    have nL : a ≠ X.env.locals := fun z => nfr (List.mem_filterMap.mpr ⟨X.env, List.mem_cons_self, by rw [hf, z]⟩)
    have nF : a ∉ X.fs := fun hm => by
      obtain ⟨e, he, q⟩ := List.mem_filterMap.mp hm
      exact nfr (List.mem_filterMap.mpr ⟨e, List.mem_cons_of_mem _ he, q⟩)
    have nI : sI.heap.get? a = none := by
      cases q : sI.heap.get? a with
      | none => rfl
      | some o =>
        have z := nb a o q (by rw [hs]; exact nfr)
        rw [fl3.2.1] at z
        cases z
    have n0 : X.s_0.heap.get? a = none := by
      cases q : X.s_0.heap.get? a with
      | none => rfl
      | some o =>
        obtain ⟨o', z⟩ := J.base.there a o q (by rw [hex]; exact fun z => nomatch z)
        rw [nI] at z
        cases z
    have nP : ∀ p ∈ X.pn ++ pins, p.1 ≠ a := fun p hp z => by
      have q := (J.pin p hp).1
      rw [z, nI] at q
      cases q
    have S3 := J3.suite he3 hd3 na nL nF
    refine wpAny_handleBy_cons (codeAny_handlers_test ?_) (by intro q; cases q)
    have LT : PySem.W.Looks (model X.prog X.w) h3 (typeOf (.ref a)) cls := fun A Q E s k q => wpAny_typeOf_ref (k _ _ he3) (by rw [hz3.1]; exact q)
    have LM := PySem.W.exm_one (M := model X.prog X.w) (J3.kIn) LT hb1
    have test : ∀ {Q : Value → Shared → Prop} {E : Value → Shared → Prop}, Q c { s' with heap := h3 } → wpAny (model X.prog X.w) (X.A.mark (some (.ref a))) (eval (.Name x np) X.env) Q E { s' with heap := h3 } := fun {Q E} q => by
      obtain ⟨hg, hdbg, hm | ⟨hm, hv, hnn⟩⟩ := hc
      · exact ld_glob (X := X.suite a ((a, oe3) :: (X.pn ++ pins))) S3 hg hm q hdbg
      · exact ld_blt (X := X.suite a ((a, oe3) :: (X.pn ++ pins))) S3 hg hm hv q hnn hdbg
    refine test (LM.here ?_)
    cases b with
    | true =>
      refine codeAny_handlers_suite_as ?_
      refine HandSPX.lands_againZ fl3 fun h4 fl4 up4 => ?_
      have J4 : Inv X pins σ' H' { s' with heap := h4 } := J.landed nb fl4.1 ((up.trans up3).trans up4) os ag
      obtain ⟨oe4, vs4, he4, hz4, hd4⟩ := fl4.there
      obtain ⟨e0, hyes2⟩ := hyes rfl
      subst e0
      have nC : ∀ x c, X.env.cells.lookup x = some c → c ≠ a := fun x c e z => by
        obtain ⟨v, o, ho, hd⟩ := J4.cell x c e
        rw [z] at ho
        have ho : h4.get? a = some o := ho
        rw [he4] at ho
        cases ho
        rw [hd4] at hd
        cases hd
      have J5 : Inv X pins σ' (upd H' a (exoV cls a)) { s' with heap := h4 } := Mi.Inv.adopt J4 na n0 (exoV_ok he4 hz4 ⟨_, hd4⟩) nL nC nP
      have S4 := Mi.Inv.suiteQ J5 a
      refine store_ok (X := suiteQ X a (X.pn ++ pins)) (v := .ref a) S4 hN hi hloc rfl (fun s5 S5 => ?_) (.inr hln)
      refine wpAny_mono ((hsu a (X.pn ++ pins)).run [] s5 _ _ _ S5 (hyes2 a na)) (fun f s6 hsp => ?_) (fun _ _ z => False.elim z)
      have end_ : ∀ {σ6 : L2.St} {H6 : Hp} {Q : Shared → Prop}, Inv (suiteQ X a (X.pn ++ pins)) [] σ6 H6 s6 → (∀ s7, Inv X pins (σ6.set i none) H6 s7 → Q s7) →
          wpAny (model X.prog X.w) X.A (do bindName X.env n .none; unbindBehindTheSuite X.env n pos') (fun _ s7 => Q s7) X.xe s6 := fun {σ6 H6 Q} S6 hq => gone_ok (Mi.Inv.unsuiteQ S6 ok) hN hi hln hq
      cases f with
      | next =>
        obtain ⟨σ6, H6, S6, q6⟩ := hsp
        exact end_ S6 fun s7 J7 => ⟨_, _, J7, q6⟩
      | brk =>
        obtain ⟨σ6, H6, S6, q6⟩ := hsp
        exact end_ S6 fun s7 J7 => ⟨_, _, J7, q6⟩
      | cont =>
        obtain ⟨σ6, H6, S6, q6⟩ := hsp
        exact end_ S6 fun s7 J7 => ⟨_, _, J7, q6⟩
      | ret u =>
        obtain ⟨v6, σ6, H6, S6, r6, q6⟩ := hsp
        exact end_ S6 fun s7 J7 => ⟨_, _, _, J7, r6, q6⟩
    | false =>
      show wpAny _ X.A (handleBy (.ref a) X.env []) _ _ _
      refine wpAny_handleBy_nil ?_
      obtain ⟨k1, k2, k3, oe, vs, T, oT, ts', he, hz, hd, h1, hr⟩ := id fl3
      unfold PySem.passOn
      refine wpAny_bind (wpAny_field he hd h1 ?_)
      rw [if_neg (show ¬ ((Value.ref T == Value.none) = true) from by simp)]
      have fin : wpAny (model X.prog X.w) X.A (setFlight (.ref a) X.env.frame) (fun _ s4 => wpAny (model X.prog X.w) X.A (throw (.ref a) : Sem Flow) (SP X pins D) X.xe s4) X.xe { s' with heap := h3 } := by
        rw [hf]
        refine HandSPX.setFlight_upZ fl3 fun h4 hh4 up4 => wpAny_throw (tk _ _ ?_)
        exact ⟨a, B, sI, pins, σ', H', cls, d, rfl, J, nb, (up.trans up3).trans up4, .inr (.inr (by rw [hs]; exact hh4)), na, os, ag, hno rfl⟩
      first
        | exact wpAny_bind (wpAny_pure (wpAny_bind fin))
        | exact wpAny_bind fin
  · cases f with
    | next =>
      obtain ⟨σ', H', J', q⟩ := hsp
      exact wpAny_execs_nil ⟨σ', H', J'.ofTry ok, q⟩
    | brk =>
      obtain ⟨σ', H', J', q⟩ := hsp
      exact ⟨σ', H', J'.ofTry ok, q⟩
    | cont =>
      obtain ⟨σ', H', J', q⟩ := hsp
      exact ⟨σ', H', J'.ofTry ok, q⟩
    | ret u =>
      obtain ⟨v, σ', H', J', r, q⟩ := hsp
      exact ⟨v, σ', H', J'.ofTry ok, r, q⟩
end
/-- isinstance(e, c), e a caught exception -/
def rIsQ (K : PySem.W.Frag) : List V → Hp → VK → Prop := fun xs H Q => ∃ (a D : Addr) (c : V) (cv : Value) (b : Bool), xs = [.ref a, c] ∧ H a = some (exoV (.ref D) a) ∧ ExcC K D ∧ (∀ u, RelV c u → u = cv) ∧ PySem.W.kitOne K (.ref D) cv = some b ∧ Q (.bl b) H
theorem instQ {X : Cx} {pins : List (Addr × Obj)} {σ : L2.St} {H : Hp} {s : Shared} {a D : Addr} (I : Inv X pins σ H s) (h : H a = some (exoV (.ref D) a)) : ∃ oe, PySem.W.InstAt s.heap a oe D none := by
  obtain ⟨⟨oe, he, ⟨h1, h2⟩, vs, hv⟩, _⟩ := I.hok a _ h
  refine ⟨oe, ?_⟩
  obtain ⟨oc, od, oda, osl⟩ := oe
  dsimp only at h1 h2 hv
  subst h1 h2 hv
  exact ⟨he, rfl, rfl, trivial⟩
theorem call_isQ {X : Cx} : CallR X (.builtin "isinstance") (rIsQ X.K) := by
  intro pins s σ H xs us Q I r h
  obtain ⟨a, D, c, cv, b, rfl, hH, C, hcv, e, q⟩ := h
  cases r with
  | cons rx rr =>
    cases rr with
    | cons rt rr =>
      cases rr
      cases rx
      have ec := hcv _ rt
      subst ec
      obtain ⟨oe, J⟩ := instQ I hH
      exact PySem.W.kia_one (PySem.W.handS_kitx_exc C.hg C.hk C.hs C.hd C.ha C.hn C.ht C.hm) I.kIn J e (fun z => nomatch z) fun tk => ⟨.bl b, H, I.kept (t' := tk) fun _ _ z => z, rfl, q⟩

/-- isinstance(e, (c, ..)) -/
def rIsQT (K : PySem.W.Frag) : List V → Hp → VK → Prop := fun xs H Q => ∃ (a D tp : Addr) (cs : List V) (us : List Value) (b : Bool), xs = [.ref a, .ref tp] ∧ H a = some (exoV (.ref D) a) ∧ ExcC K D ∧ H tp = some (.tup cs) ∧ Paired ClsV cs us ∧ PySem.W.kitAny K (.ref D) us = some b ∧ Q (.bl b) H
theorem call_isQT {X : Cx} : CallR X (.builtin "isinstance") (rIsQT X.K) := by
  intro pins s σ H xs us Q I r h
  obtain ⟨a, D, tp, cs, ws, b, rfl, hH, C, hT, k, e, q⟩ := h
  cases r with
  | cons rx rr =>
    cases rr with
    | cons rt rr =>
      cases rr
      cases rx
      rename_i u2
      cases (show u2 = Value.ref tp from rt)
      obtain ⟨oe, J⟩ := instQ I hH
      obtain ⟨_, its, rv, o, h1, h2, n, h3⟩ := (show ObjOk X.prog X.w H s.heap tp (.tup cs) from I.hok tp _ hT)
      have e3 := ClsV.all k rv
      subst e3
      obtain ⟨oc, od, dt, sl⟩ := o
      simp only at h2 h3
      subst h2 h3
      exact PySem.W.kia_tup (PySem.W.handS_kitx_exc C.hg C.hk C.hs C.hd C.ha C.hn C.ht C.hm) I.kIn J h1 e (fun z => nomatch z) fun tk => ⟨.bl b, H, I.kept (t' := tk) fun _ _ z => z, rfl, q⟩
end Mi

namespace Mi
open PySem PySem.Spec PyProof.Rows L2

/-- pure data -/
inductive D where
  | non | bl (b : Bool) | int (i : Int) | str (s : Str) | tup (xs : List D) | lst (xs : List D)
  | dic (kvs : List (Key × D)) | cst (x : Str) | scr (xs : List D) | exo (c : Str)

/-- what a slot holds, what an expression gives: frozen data; a list of one's own; a caller's list handed in to be changed -/
inductive Sl where
  | fz (d : D) | ow (xs : List D) | io (xs : List D)

abbrev Env := List (Option Sl)

mutual
def Fz (K : PySem.W.Frag) (F : Hp) : D → V → Prop
  | .non, v => v = .non
  | .bl b, v => v = .bl b
  | .int i, v => v = .int i
  | .str s, v => v = .str s
  | .tup ds, v => ∃ a vs, v = .ref a ∧ SqT K F a vs ∧ FzL K F ds vs
  | .lst ds, v => ∃ a vs, v = .ref a ∧ F a = some (.lst vs) ∧ FzL K F ds vs
  | .scr ds, v => ∃ a vs, v = .ref a ∧ SqL K F a vs ∧ FzL K F ds vs
  | .dic kvs, v => ∃ a ws, v = .ref a ∧ F a = some (.dK ws) ∧ FzK K F kvs ws
  | .cst x, v => v = .ref (He.ga K x)
  | .exo c, v => ∃ a, v = .ref a ∧ F a = some (exoV (.ref (He.ga K c)) a)
def FzL (K : PySem.W.Frag) (F : Hp) : List D → List V → Prop
  | [], vs => vs = []
  | d :: ds, vs => ∃ v ws, vs = v :: ws ∧ Fz K F d v ∧ FzL K F ds ws
def FzK (K : PySem.W.Frag) (F : Hp) : List (Key × D) → List (Key × V) → Prop
  | [], ws => ws = []
  | (k, d) :: r, ws => ∃ v w2, ws = (k, v) :: w2 ∧ Fz K F d v ∧ FzK K F r w2
end

theorem same_seqT {K : PySem.W.Frag} {H H' : Hp} {a : Addr} {xs : List V} (e : Same H H') (h : SqT K H a xs) : SqT K H' a xs := by
  rcases h with (h | ⟨o, h⟩) | h
  · exact .inl (.inl (e _ _ h))
  · exact .inl (.inr ⟨o, e _ _ h⟩)
  · exact .inr h

section
variable {K : PySem.W.Frag} {F F' : Hp}
mutual
theorem Fz.mono (h : Same F F') : ∀ {d : D} {v : V}, Fz K F d v → Fz K F' d v
  | .non, _, q => q
  | .bl _, _, q => q
  | .int _, _, q => q
  | .str _, _, q => q
  | .tup _, _, ⟨a, vs, e, s, q⟩ => ⟨a, vs, e, same_seqT h s, FzL.mono h q⟩
  | .lst _, _, ⟨a, vs, e, s, q⟩ => ⟨a, vs, e, h _ _ s, FzL.mono h q⟩
  | .scr _, _, ⟨a, vs, e, s, q⟩ => ⟨a, vs, e, h.seq s, FzL.mono h q⟩
  | .dic _, _, ⟨a, ws, e, s, q⟩ => ⟨a, ws, e, h _ _ s, FzK.mono h q⟩
  | .cst _, _, q => q
  | .exo _, _, ⟨a, e, s⟩ => ⟨a, e, h _ _ s⟩
theorem FzL.mono (h : Same F F') : ∀ {ds : List D} {vs : List V}, FzL K F ds vs → FzL K F' ds vs
  | [], _, q => q
  | _ :: _, _, ⟨v, ws, e, q, r⟩ => ⟨v, ws, e, Fz.mono h q, FzL.mono h r⟩
theorem FzK.mono (h : Same F F') : ∀ {ds : List (Key × D)} {vs : List (Key × V)}, FzK K F ds vs → FzK K F' ds vs
  | [], _, q => q
  | (_, _) :: _, _, ⟨v, ws, e, q, r⟩ => ⟨v, ws, e, Fz.mono h q, FzK.mono h r⟩
end

theorem FzL.length : ∀ {ds : List D} {vs : List V}, FzL K F ds vs → ds.length = vs.length
  | [], _, q => by
    have q : _ = [] := q
    rw [q]
    rfl
  | d :: ds, _, ⟨v, ws, e, _, r⟩ => by rw [e, List.length_cons, List.length_cons, FzL.length r]
theorem FzL.get : ∀ {ds : List D} {vs : List V} {i : Nat} {d : D}, FzL K F ds vs → ds[i]? = some d → ∃ v, vs[i]? = some v ∧ Fz K F d v
  | [], _, _, _, _, e => by simp at e
  | d :: ds, _, 0, _, ⟨v, ws, e, q, _⟩, h => by
    simp at h
    subst h
    exact ⟨v, by rw [e]; rfl, q⟩
  | d :: ds, _, i + 1, x, ⟨v, ws, e, _, r⟩, h => by
    obtain ⟨u, h1, h2⟩ := FzL.get (i := i) (d := x) r (by simpa using h)
    exact ⟨u, by rw [e]; simpa using h1, h2⟩
theorem FzL.back : ∀ {ds : List D} {vs : List V} {i : Nat} {v : V}, FzL K F ds vs → vs[i]? = some v → ∃ d, ds[i]? = some d ∧ Fz K F d v
  | [], _, _, _, q, e => by
    have q : _ = [] := q
    rw [q] at e
    simp at e
  | d :: ds, _, 0, _, ⟨v, ws, e, q, _⟩, h => by
    rw [e] at h
    simp at h
    subst h
    exact ⟨d, rfl, q⟩
  | d :: ds, _, i + 1, x, ⟨v, ws, e, _, r⟩, h => by
    rw [e] at h
    obtain ⟨u, h1, h2⟩ := FzL.back (i := i) (v := x) r (by simpa using h)
    exact ⟨u, by simpa using h1, h2⟩
theorem FzL.mk : ∀ {ds : List D} {vs : List V}, ds.length = vs.length → (∀ (i : Nat) (d : D) (v : V), ds[i]? = some d → vs[i]? = some v → Fz K F d v) → FzL K F ds vs
  | [], [], _, _ => rfl
  | [], _ :: _, e, _ => by simp at e
  | _ :: _, [], e, _ => by simp at e
  | d :: ds, v :: vs, e, h => ⟨v, vs, rfl, h 0 d v rfl rfl, FzL.mk (by simpa using e) fun i d' v' h1 h2 => h (i + 1) d' v' (by simpa using h1) (by simpa using h2)⟩
theorem FzL.at {ds : List D} {vs : List V} {i : Nat} {d : D} {v : V} (q : FzL K F ds vs) (h1 : ds[i]? = some d) (h2 : vs[i]? = some v) : Fz K F d v := by
  obtain ⟨u, e, z⟩ := q.get h1
  rw [h2] at e
  cases e
  exact z
theorem FzL.nil : FzL K F [] [] := rfl
theorem FzL.cons {d : D} {v : V} {ds : List D} {vs : List V} (q : Fz K F d v) (r : FzL K F ds vs) : FzL K F (d :: ds) (v :: vs) := ⟨v, vs, rfl, q, r⟩
theorem FzL.append : ∀ {ds es : List D} {vs us : List V}, FzL K F ds vs → FzL K F es us → FzL K F (ds ++ es) (vs ++ us)
  | [], _, _, _, q, s => by
    have q : _ = [] := q
    rw [q]
    exact s
  | _ :: _, _, _, _, ⟨v, ws, e, q, r⟩, s => by
    rw [e]
    exact ⟨v, _, rfl, q, FzL.append r s⟩
theorem FzL.take {ds : List D} {vs : List V} (n : Nat) (q : FzL K F ds vs) : FzL K F (ds.take n) (vs.take n) := by
  refine FzL.mk (by simp [q.length]) fun i d v h1 h2 => ?_
  rw [List.getElem?_take] at h1 h2
  split at h1
  · rename_i hi
    rw [if_pos hi] at h2
    exact q.at h1 h2
  · cases h1
theorem FzL.drop {ds : List D} {vs : List V} (n : Nat) (q : FzL K F ds vs) : FzL K F (ds.drop n) (vs.drop n) := by
  refine FzL.mk (by simp [q.length]) fun i d v h1 h2 => ?_
  rw [List.getElem?_drop] at h1 h2
  exact q.at h1 h2
theorem FzL.reverse {ds : List D} {vs : List V} (q : FzL K F ds vs) : FzL K F ds.reverse vs.reverse := by
  refine FzL.mk (by simp [q.length]) fun i d v h1 h2 => ?_
  have hl := q.length
  have hi : i < ds.length := by
    have := (List.getElem?_eq_some_iff.mp h1).1
    simpa using this
  rw [List.getElem?_reverse hi] at h1
  rw [List.getElem?_reverse (by omega)] at h2
  rw [← hl] at h2
  exact q.at h1 h2
theorem FzL.set {ds : List D} {vs : List V} {d : D} {v : V} (n : Nat) (q : FzL K F ds vs) (r : Fz K F d v) : FzL K F (ds.set n d) (vs.set n v) := by
  refine FzL.mk (by simp [q.length]) fun i d' v' h1 h2 => ?_
  rw [List.getElem?_set] at h1 h2
  split at h1
  · rename_i hn
    subst hn
    rw [if_pos rfl] at h2
    split at h1
    · cases h1
      split at h2
      · cases h2
        exact r
      · cases h2
    · cases h1
  · rename_i hn
    rw [if_neg hn] at h2
    exact q.at h1 h2
theorem FzL.eraseIdx : ∀ {ds : List D} {vs : List V} (n : Nat), FzL K F ds vs → FzL K F (ds.eraseIdx n) (vs.eraseIdx n)
  | [], _, n, q => by
    have q : _ = [] := q
    rw [q]
    exact rfl
  | _ :: _, _, 0, ⟨v, ws, e, _, r⟩ => by
    rw [e]
    exact r
  | _ :: _, _, n + 1, ⟨v, ws, e, q, r⟩ => by
    rw [e]
    exact ⟨v, _, rfl, q, FzL.eraseIdx n r⟩
theorem FzL.dropLast {ds : List D} {vs : List V} (q : FzL K F ds vs) : FzL K F ds.dropLast vs.dropLast := by
  rw [List.dropLast_eq_take, List.dropLast_eq_take, q.length]
  exact q.take _
theorem FzL.isEmpty {ds : List D} {vs : List V} (q : FzL K F ds vs) : ds.isEmpty = vs.isEmpty := by
  have h := q.length
  cases ds with
  | nil => cases vs with
    | nil => rfl
    | cons _ _ => simp at h
  | cons _ _ => cases vs with
    | nil => simp at h
    | cons _ _ => rfl
end

/-! ### the state of a def's activation -/
def Own (ρ : Env) (i : Nat) (xs : List D) : Prop := ρ[i]? = some (some (.ow xs)) ∨ ρ[i]? = some (some (.io xs))
/-- io: where the lists lie that were handed in to be changed; P: what must stay as it is (never frozen); F: what is frozen for ever -/
structure St (K : PySem.W.Frag) (io : Nat → Option Addr) (P F : Hp) (ρ : Env) (σ : L2.St) (H : Hp) : Prop where
  fh : Same F H
  ph : Same P H
  pf : ∀ a o, P a = some o → F a = none
  len : ρ.length = σ.length
  fz : ∀ (i : Nat) (d : D), ρ[i]? = some (some (.fz d)) → ∃ v, σ[i]? = some (some v) ∧ Fz K F d v
  ow : ∀ (i : Nat) (xs : List D), Own ρ i xs → ∃ a vs, σ[i]? = some (some (.ref a)) ∧ H a = some (.lst vs) ∧ FzL K F xs vs ∧ F a = none ∧ P a = none
  ia : ∀ (i : Nat) (xs : List D) (a : Addr), ρ[i]? = some (some (.io xs)) → σ[i]? = some (some (.ref a)) → io i = some a
  ds : ∀ (i j : Nat) (xs ys : List D) (a : Addr), Own ρ i xs → Own ρ j ys → σ[i]? = some (some (.ref a)) → σ[j]? = some (some (.ref a)) → i = j
/-- an expression's value -/
def Rel (K : PySem.W.Frag) (P F : Hp) (ρ : Env) (σ : L2.St) (H : Hp) (v : V) : Sl → Prop
  | .fz d => Fz K F d v
  | .ow xs => ∃ a vs, v = .ref a ∧ H a = some (.lst vs) ∧ FzL K F xs vs ∧ F a = none ∧ P a = none ∧ ∀ i ys, Own ρ i ys → σ[i]? ≠ some (some (.ref a))
  | .io _ => False
/-- the heap has grown: new things were laid, some of them frozen -/
structure Ext (F H F' H' : Hp) : Prop where
  h : Same H H'
  f : Same F F'
  fh : Same F' H'
  new : ∀ a o, F' a = some o → F a = some o ∨ H a = none
section
variable {K : PySem.W.Frag} {io : Nat → Option Addr} {P F F' : Hp} {ρ : Env} {σ : L2.St} {H H' : Hp}
theorem Ext.refl (h : Same F H) : Ext F H F H := ⟨Same.refl _, Same.refl _, h, fun _ _ e => .inl e⟩
theorem Ext.trans {F1 H1 F2 H2 : Hp} (a : Ext F H F1 H1) (b : Ext F1 H1 F2 H2) : Ext F H F2 H2 := ⟨a.h.trans b.h, a.f.trans b.f, b.fh, fun c o e => by
  rcases b.new c o e with q | q
  · exact a.new c o q
  · exact .inr (a.h.free q)⟩
theorem St.ext (S : St K io P F ρ σ H) (e : Ext F H F' H') : St K io P F' ρ σ H' where
  fh := e.fh
  ph := S.ph.trans e.h
  pf := fun a o q => by
    cases z : F' a with
    | none => rfl
    | some u =>
      rcases e.new a u z with y | y
      · rw [S.pf a o q] at y; cases y
      · rw [S.ph a o q] at y; cases y
  len := S.len
  fz := fun i d q => let ⟨v, h1, h2⟩ := S.fz i d q; ⟨v, h1, h2.mono e.f⟩
  ow := fun i xs q => by
    obtain ⟨a, vs, h1, h2, h3, h4, h5⟩ := S.ow i xs q
    refine ⟨a, vs, h1, e.h _ _ h2, h3.mono e.f, ?_, h5⟩
    cases z : F' a with
    | none => rfl
    | some u =>
      rcases e.new a u z with y | y
      · rw [h4] at y; cases y
      · rw [h2] at y; cases y
  ia := S.ia
  ds := S.ds
/-- a new object, not frozen -/
theorem Ext.laid {p : Addr} {o : HO} (h : Same F H) (n : H p = none) : Ext F H F (upd H p o) where
  h := fun b x e => by rw [upd_ne (ne_of_none e n)]; exact e
  f := Same.refl _
  fh := fun b x e => by rw [upd_ne (ne_of_none (h _ _ e) n)]; exact h _ _ e
  new := fun _ _ e => .inl e
/-- a new object, frozen -/
theorem Ext.froz {p : Addr} {o : HO} (h : Same F H) (n : H p = none) : Ext F H (upd F p o) (upd H p o) where
  h := fun b x e => by rw [upd_ne (ne_of_none e n)]; exact e
  f := fun b x e => by rw [upd_ne (ne_of_none (h _ _ e) n)]; exact e
  fh := fun b x e => by
    by_cases hb : b = p
    · subst hb; rw [upd_same] at e ⊢; exact e
    · rw [upd_ne hb] at e ⊢; exact h _ _ e
  new := fun b x e => by
    by_cases hb : b = p
    · subst hb; exact .inr n
    · rw [upd_ne hb] at e; exact .inl e
/-- a list of one's own is frozen -/
theorem St.freeze {a : Addr} {o : HO} (S : St K io P F ρ σ H) (ha : H a = some o) (fa : F a = none) (pa : P a = none) (no : ∀ i ys, Own ρ i ys → σ[i]? ≠ some (some (.ref a))) : St K io P (upd F a o) ρ σ H ∧ Same F (upd F a o) := by
  have sm : Same F (upd F a o) := fun b x e => by rw [upd_ne (ne_of_none e fa)]; exact e
  refine ⟨⟨fun b x e => ?_, S.ph, fun b x e => ?_, S.len, fun i d q => ?_, fun i xs q => ?_, S.ia, S.ds⟩, sm⟩
  · by_cases hb : b = a
    · subst hb; rw [upd_same] at e; cases e; exact ha
    · rw [upd_ne hb] at e; exact S.fh _ _ e
  · have hb : b ≠ a := ne_of_none e pa
    rw [upd_ne hb]
    exact S.pf b x e
  · obtain ⟨v, h1, h2⟩ := S.fz i d q
    exact ⟨v, h1, h2.mono sm⟩
  · obtain ⟨b, vs, h1, h2, h3, h4, h5⟩ := S.ow i xs q
    refine ⟨b, vs, h1, h2, h3.mono sm, ?_, h5⟩
    have hb : b ≠ a := fun e => by
      subst e
      exact no i xs q h1
    rw [upd_ne hb]
    exact h4
def Sl.d : Sl → D
  | .fz d => d
  | .ow xs => .lst xs
  | .io xs => .lst xs
/-- any value frozen -/
theorem St.cool {v : V} {r : Sl} (S : St K io P F ρ σ H) (h : Rel K P F ρ σ H v r) : ∃ F', Same F F' ∧ St K io P F' ρ σ H ∧ Fz K F' r.d v := by
  cases r with
  | fz d => exact ⟨F, Same.refl _, S, h⟩
  | io xs => exact h.elim
  | ow xs =>
    obtain ⟨a, vs, rfl, h1, h2, h3, h4, h5⟩ := h
    obtain ⟨S', sm⟩ := S.freeze h1 h3 h4 h5
    exact ⟨_, sm, S', a, vs, rfl, upd_same, h2.mono sm⟩
theorem set_self {α : Type} {l : List α} {i : Nat} {x : α} (h : i < l.length) : (l.set i x)[i]? = some x := by
  rw [List.getElem?_set_self h]
theorem set_other {α : Type} {l : List α} {i j : Nat} {x : α} (h : i ≠ j) : (l.set i x)[j]? = l[j]? := by
  rw [List.getElem?_set_ne h]
/-- a slot takes a value -/
theorem St.store {v : V} {r : Sl} {i : Nat} (S : St K io P F ρ σ H) (h : Rel K P F ρ σ H v r) : St K io P F (ρ.set i (some r)) (σ.set i (some v)) H := by
  by_cases hi : i < ρ.length
  · have hi' : i < σ.length := by rw [← S.len]; exact hi
    have other : ∀ {j : Nat} {xs : List D}, j ≠ i → Own (ρ.set i (some r)) j xs → Own ρ j xs := fun {j xs} hj q => by
      rcases q with q | q
      · rw [set_other (Ne.symm hj)] at q; exact .inl q
      · rw [set_other (Ne.symm hj)] at q; exact .inr q
    have self : ∀ {xs : List D}, Own (ρ.set i (some r)) i xs → r = .ow xs := fun {xs} q => by
      rcases q with q | q
      · rw [set_self hi] at q; cases q; rfl
      · rw [set_self hi] at q; cases q; exact h.elim
    refine ⟨S.fh, S.ph, S.pf, by simp [S.len], fun j d q => ?_, fun j xs q => ?_, fun j xs a q1 q2 => ?_, fun j k xs ys a q1 q2 e1 e2 => ?_⟩
    · by_cases hj : j = i
      · subst hj
        rw [set_self hi] at q
        cases q
        exact ⟨v, set_self hi', h⟩
      · rw [set_other (Ne.symm hj)] at q ⊢
        exact S.fz j d q
    · by_cases hj : j = i
      · subst hj
        have e := self q
        subst e
        obtain ⟨a, vs, rfl, h1, h2, h3, h4, _⟩ := h
        exact ⟨a, vs, set_self hi', h1, h2, h3, h4⟩
      · rw [set_other (Ne.symm hj)]
        exact S.ow j xs (other hj q)
    · by_cases hj : j = i
      · subst hj
        have e := self (.inr q1)
        rw [set_self hi] at q1
        cases q1
        cases e
      · rw [set_other (Ne.symm hj)] at q1 q2
        exact S.ia j xs a q1 q2
    · by_cases hj : j = i
      · by_cases hk : k = i
        · rw [hj, hk]
        · subst hj
          have e := self q1
          subst e
          obtain ⟨b, vs, rfl, _, _, _, _, h5⟩ := h
          rw [set_self hi'] at e1
          cases e1
          rw [set_other (Ne.symm hk)] at e2
          exact absurd e2 (h5 k ys (other hk q2))
      · by_cases hk : k = i
        · subst hk
          have e := self q2
          subst e
          obtain ⟨b, vs, rfl, _, _, _, _, h5⟩ := h
          rw [set_self hi'] at e2
          cases e2
          rw [set_other (Ne.symm hj)] at e1
          exact absurd e1 (h5 j xs (other hj q1))
        · rw [set_other (Ne.symm hj)] at e1
          rw [set_other (Ne.symm hk)] at e2
          exact S.ds j k xs ys a (other hj q1) (other hk q2) e1 e2
  · have hi' : ¬ i < σ.length := by rw [← S.len]; exact hi
    rw [List.set_eq_of_length_le (by omega), List.set_eq_of_length_le (by omega)]
    exact S
end
end Mi

namespace Mi
open PySem PySem.Spec PyProof.Rows L2

inductive R (α : Type) where
  | ok (a : α) (ρ : Env) | ex (c : Str) (ρ : Env) | no
abbrev Ex := Env → R Sl
abbrev Te := Env → R Bool
abbrev As := Env → R (List Sl)
def excV (K : PySem.W.Frag) (c : Str) : Value := .ref (He.ga K c)

/-! ### judgements -/
def tJ (K : PySem.W.Frag) (W : WX) (io : Nat → Option Addr) (m : Ex) : TE := fun σ H Q => ∃ P F ρ, St K io P F ρ σ H ∧ match m ρ with
  | .ok r ρ' => ∀ v H' F', Same F F' → St K io P F' ρ' σ H' → Rel K P F' ρ' σ H' v r → Q v H'
  | .ex c ρ' => ∀ H' F', Same F F' → St K io P F' ρ' σ H' → W (excV K c) none σ H'
  | .no => False
def tJT (K : PySem.W.Frag) (W : WX) (io : Nat → Option Addr) (m : Te) : TT := fun σ H Q => ∃ P F ρ, St K io P F ρ σ H ∧ match m ρ with
  | .ok b ρ' => ∀ H' F', Same F F' → St K io P F' ρ' σ H' → Q b H'
  | .ex c ρ' => ∀ H' F', Same F F' → St K io P F' ρ' σ H' → W (excV K c) none σ H'
  | .no => False
structure JE (X : Cx) (W : WX) (io : Nat → Option Addr) (e : Expr) (m : Ex) : Prop where
  pe : PE X e (tJ X.K W io m)
structure JT (X : Cx) (W : WX) (io : Nat → Option Addr) (e : Expr) (m : Te) : Prop where
  pt : PT X e (tJT X.K W io m)
theorem pei {X : Cx} {e : Expr} {t t' : TE} (h : PE X e t) (f : ∀ σ H Q, t' σ H Q → t σ H Q) : PE X e t' := ⟨fun pins s σ H Q I q => h.run pins s σ H Q I (f σ H Q q)⟩
theorem pti {X : Cx} {e : Expr} {t t' : TT} (h : PT X e t) (f : ∀ σ H Q, t' σ H Q → t σ H Q) : PT X e t' := ⟨fun pins s σ H Q I q => h.run pins s σ H Q I (f σ H Q q)⟩

/-- what a part leads to, in its own frozen part F -/
def ToE (K : PySem.W.Frag) (W : WX) (io : Nat → Option Addr) (P F : Hp) (σ : L2.St) (Q : VK) (r : R Sl) : Prop := match r with
  | .ok r ρ' => ∀ v H' F', Same F F' → St K io P F' ρ' σ H' → Rel K P F' ρ' σ H' v r → Q v H'
  | .ex c ρ' => ∀ H' F', Same F F' → St K io P F' ρ' σ H' → W (excV K c) none σ H'
  | .no => False
def ToT (K : PySem.W.Frag) (W : WX) (io : Nat → Option Addr) (P F : Hp) (σ : L2.St) (Q : Bool → Hp → Prop) (r : R Bool) : Prop := match r with
  | .ok b ρ' => ∀ H' F', Same F F' → St K io P F' ρ' σ H' → Q b H'
  | .ex c ρ' => ∀ H' F', Same F F' → St K io P F' ρ' σ H' → W (excV K c) none σ H'
  | .no => False
section
variable {K : PySem.W.Frag} {W : WX} {io : Nat → Option Addr} {P F F' : Hp} {σ : L2.St} {Q : VK} {H : Hp} {ρ : Env}
theorem tJ_of {m : Ex} (S : St K io P F ρ σ H) (h : ToE K W io P F σ Q (m ρ)) : tJ K W io m σ H Q := ⟨P, F, ρ, S, h⟩
theorem ToE.up {r : R Sl} (e : Same F F') (h : ToE K W io P F σ Q r) : ToE K W io P F' σ Q r := by
  cases r with
  | ok r ρ' => exact fun v H' F2 s => h v H' F2 (e.trans s)
  | ex c ρ' => exact fun H' F2 s => h H' F2 (e.trans s)
  | no => exact h
theorem ToT.up {Q : Bool → Hp → Prop} {r : R Bool} (e : Same F F') (h : ToT K W io P F σ Q r) : ToT K W io P F' σ Q r := by
  cases r with
  | ok r ρ' => exact fun H' F2 s => h H' F2 (e.trans s)
  | ex c ρ' => exact fun H' F2 s => h H' F2 (e.trans s)
  | no => exact h
/-- behind a part -/
def R.bind {α β : Type} (r : R α) (f : α → Env → R β) : R β := match r with
  | .ok a ρ => f a ρ
  | .ex c ρ => .ex c ρ
  | .no => .no
theorem tJ_bind {m : Ex} {f : Sl → Env → R Sl} {Q' : VK} (S : St K io P F ρ σ H) (h : ToE K W io P F σ Q ((m ρ).bind f))
    (k : ∀ r ρ1 v H1 F1, Same F F1 → St K io P F1 ρ1 σ H1 → Rel K P F1 ρ1 σ H1 v r → ToE K W io P F1 σ Q (f r ρ1) → Q' v H1) : tJ K W io m σ H Q' := by
  refine ⟨P, F, ρ, S, ?_⟩
  cases e : m ρ with
  | ok r ρ1 =>
    rw [e] at h
    exact fun v H1 F1 s S1 R1 => k r ρ1 v H1 F1 s S1 R1 (h.up s)
  | ex c ρ1 =>
    rw [e] at h
    exact h
  | no =>
    rw [e] at h
    exact h
theorem tJ_bindT {m : Ex} {f : Sl → Env → R Bool} {Q : Bool → Hp → Prop} {Q' : VK} (S : St K io P F ρ σ H) (h : ToT K W io P F σ Q ((m ρ).bind f))
    (k : ∀ r ρ1 v H1 F1, Same F F1 → St K io P F1 ρ1 σ H1 → Rel K P F1 ρ1 σ H1 v r → ToT K W io P F1 σ Q (f r ρ1) → Q' v H1) : tJ K W io m σ H Q' := by
  refine ⟨P, F, ρ, S, ?_⟩
  cases e : m ρ with
  | ok r ρ1 =>
    rw [e] at h
    exact fun v H1 F1 s S1 R1 => k r ρ1 v H1 F1 s S1 R1 (h.up s)
  | ex c ρ1 =>
    rw [e] at h
    exact h
  | no =>
    rw [e] at h
    exact h
theorem tJT_bind {m : Te} {f : Bool → Env → R Sl} {Q' : Bool → Hp → Prop} (S : St K io P F ρ σ H) (h : ToE K W io P F σ Q ((m ρ).bind f))
    (k : ∀ b ρ1 H1 F1, Same F F1 → St K io P F1 ρ1 σ H1 → ToE K W io P F1 σ Q (f b ρ1) → Q' b H1) : tJT K W io m σ H Q' := by
  refine ⟨P, F, ρ, S, ?_⟩
  cases e : m ρ with
  | ok r ρ1 =>
    rw [e] at h
    exact fun H1 F1 s S1 => k r ρ1 H1 F1 s S1 (h.up s)
  | ex c ρ1 =>
    rw [e] at h
    exact h
  | no =>
    rw [e] at h
    exact h
theorem tJT_bindT {m : Te} {f : Bool → Env → R Bool} {Q Q' : Bool → Hp → Prop} (S : St K io P F ρ σ H) (h : ToT K W io P F σ Q ((m ρ).bind f))
    (k : ∀ b ρ1 H1 F1, Same F F1 → St K io P F1 ρ1 σ H1 → ToT K W io P F1 σ Q (f b ρ1) → Q' b H1) : tJT K W io m σ H Q' := by
  refine ⟨P, F, ρ, S, ?_⟩
  cases e : m ρ with
  | ok r ρ1 =>
    rw [e] at h
    exact fun H1 F1 s S1 => k r ρ1 H1 F1 s S1 (h.up s)
  | ex c ρ1 =>
    rw [e] at h
    exact h
  | no =>
    rw [e] at h
    exact h
end

/-! ### operations by values -/
/-- a value just made -/
def RelT (K : PySem.W.Frag) (H F' H' : Hp) (v : V) : Sl → Prop
  | .fz d => Fz K F' d v
  | .ow xs => ∃ a vs, v = .ref a ∧ H' a = some (.lst vs) ∧ FzL K F' xs vs ∧ F' a = none ∧ H a = none
  | .io _ => False
/-- what is wanted of an operation's value -/
def Want (K : PySem.W.Frag) (F H : Hp) (z : Sl) (Q : VK) : Prop := ∀ v H' F', Ext F H F' H' → RelT K H F' H' v z → Q v H'
section
variable {K : PySem.W.Frag} {W : WX} {io : Nat → Option Addr} {P F : Hp} {σ : L2.St} {Q : VK} {H : Hp} {ρ : Env}
theorem RelT.rel {F' H' : Hp} {v : V} {z : Sl} (S : St K io P F ρ σ H) (e : Ext F H F' H') (h : RelT K H F' H' v z) : Rel K P F' ρ σ H' v z := by
  cases z with
  | fz d => exact h
  | io xs => exact h.elim
  | ow xs =>
    obtain ⟨a, vs, rfl, h1, h2, h3, h4⟩ := h
    refine ⟨a, vs, rfl, h1, h2, h3, ?_, fun i ys q z => ?_⟩
    · cases q : P a with
      | none => rfl
      | some o => rw [S.ph a o q] at h4; cases h4
    · obtain ⟨b, us, e1, e2, _⟩ := S.ow i ys q
      rw [e1] at z
      cases z
      rw [e2] at h4
      cases h4
theorem ToE.want {z : Sl} (S : St K io P F ρ σ H) (h : ToE K W io P F σ Q (.ok z ρ)) : Want K F H z Q := fun v H' F' e r => h v H' F' e.f (S.ext e) (r.rel S e)
theorem Want.fz {d : D} {v : V} (h : Want K F H (.fz d) Q) (e : Same F H) (q : Fz K F d v) : Q v H := h v H F (Ext.refl e) q
theorem Want.tup {ds : List D} {vs : List V} {p : Addr} (h : Want K F H (.fz (.tup ds)) Q) (e : Same F H) (n : H p = none) (q : FzL K F ds vs) : Q (.ref p) (upd H p (.tup vs)) :=
  h _ _ _ (Ext.froz e n) ⟨p, vs, rfl, .inl (.inl upd_same), q.mono (Ext.froz (o := .tup vs) e n).f⟩
theorem Want.lst {ds : List D} {vs : List V} {p : Addr} (h : Want K F H (.ow ds) Q) (e : Same F H) (n : H p = none) (q : FzL K F ds vs) : Q (.ref p) (upd H p (.lst vs)) :=
  h _ _ _ (Ext.laid e n) ⟨p, vs, rfl, upd_same, q, e.free n, n⟩
end
/-- data to be read now: frozen, or a list of one's own as it stands -/
def Pk (K : PySem.W.Frag) (F H : Hp) (d : D) (v : V) : Prop := Fz K F d v ∨ ∃ xs a vs, d = .lst xs ∧ v = .ref a ∧ H a = some (.lst vs) ∧ FzL K F xs vs
section
variable {K : PySem.W.Frag} {F H : Hp} {v : V}
theorem Pk.int {i : Int} (h : Pk K F H (.int i) v) : v = .int i := by
  rcases h with h | ⟨_, _, _, h, _⟩
  · exact h
  · cases h
theorem Pk.bl {i : Bool} (h : Pk K F H (.bl i) v) : v = .bl i := by
  rcases h with h | ⟨_, _, _, h, _⟩
  · exact h
  · cases h
theorem Pk.str {i : Str} (h : Pk K F H (.str i) v) : v = .str i := by
  rcases h with h | ⟨_, _, _, h, _⟩
  · exact h
  · cases h
theorem Pk.non (h : Pk K F H .non v) : v = .non := by
  rcases h with h | ⟨_, _, _, h, _⟩
  · exact h
  · cases h
theorem Pk.tup {xs : List D} (h : Pk K F H (.tup xs) v) : ∃ a vs, v = .ref a ∧ SqT K F a vs ∧ FzL K F xs vs := by
  rcases h with h | ⟨_, _, _, h, _⟩
  · exact h
  · cases h
theorem Pk.scr {xs : List D} (h : Pk K F H (.scr xs) v) : ∃ a vs, v = .ref a ∧ SqL K F a vs ∧ FzL K F xs vs := by
  rcases h with h | ⟨_, _, _, h, _⟩
  · exact h
  · cases h
theorem Pk.lst {xs : List D} (e : Same F H) (h : Pk K F H (.lst xs) v) : ∃ a vs, v = .ref a ∧ H a = some (.lst vs) ∧ FzL K F xs vs := by
  rcases h with h | ⟨_, a, vs, h, h1, h2, h3⟩
  · obtain ⟨a, vs, h1, h2, h3⟩ := h
    exact ⟨a, vs, h1, e _ _ h2, h3⟩
  · cases h
    exact ⟨a, vs, h1, h2, h3⟩
theorem Pk.dic {xs : List (Key × D)} (h : Pk K F H (.dic xs) v) : ∃ a ws, v = .ref a ∧ F a = some (.dK ws) ∧ FzK K F xs ws := by
  rcases h with h | ⟨_, _, _, h, _⟩
  · exact h
  · cases h
theorem Pk.cst {x : Str} (h : Pk K F H (.cst x) v) : v = .ref (He.ga K x) := by
  rcases h with h | ⟨_, _, _, h, _⟩
  · exact h
  · cases h
end
/-- an operand: an expression; a name whose list is read where it stands -/
inductive Opd where
  | e (m : Ex) | v (i : Nat)
inductive Pd where
  | d (d : D) | i (i : Nat)
def Opd.run : Opd → Env → R Pd
  | .e m, ρ => (m ρ).bind fun x ρ1 => .ok (.d x.d) ρ1
  | .v i, ρ => .ok (.i i) ρ
def Pd.get (ρ : Env) : Pd → Option D
  | .d x => some x
  | .i k => match ρ[k]? with
    | some (some s) => some s.d
    | _ => none
structure IsV (X : Cx) (i : Nat) (e : Expr) : Prop where
  pe : PE X e (tVar i)
def JO (X : Cx) (W : WX) (io : Nat → Option Addr) (e : Expr) : Opd → Prop
  | .e m => JE X W io e m
  | .v i => IsV X i e
theorem jo_e {X : Cx} {W : WX} {io : Nat → Option Addr} {e : Expr} {m : Ex} (h : JE X W io e m) : JO X W io e (.e m) := h
theorem jo_v {X : Cx} {W : WX} {io : Nat → Option Addr} {pos : Pos} (i : Nat) {x : Str} (hN : X.N[i]? = some x := by rfl) (hv : Vis X.env.scope x := by first | exact Or.inl rfl | exact Or.inr (Or.inl rfl) | exact Or.inr (Or.inr rfl)) (hd : (x == ("__debug__" : Str)) = false := by decide)
    (hcd : (x == ("__classdict__" : Str)) = false := by decide) : JO X W io (.Name x pos) (.v i) := ⟨pe_var hN hv hd hcd⟩
/-- what a pending operand stands for -/
def PdR (K : PySem.W.Frag) (F : Hp) (σ : L2.St) (v : V) : Pd → Prop
  | .d d => Fz K F d v
  | .i i => σ[i]? = some (some v)
def tO (K : PySem.W.Frag) (W : WX) (io : Nat → Option Addr) : Opd → TE
  | .e m => tJ K W io m
  | .v i => tVar i
theorem JO.pe {X : Cx} {W : WX} {io : Nat → Option Addr} {e : Expr} {o : Opd} (h : JO X W io e o) : PE X e (tO X.K W io o) := by
  cases o with
  | e m => exact JE.pe h
  | v i => exact IsV.pe h
section
variable {K : PySem.W.Frag} {W : WX} {io : Nat → Option Addr} {P F F' : Hp} {σ : L2.St} {Q : VK} {H : Hp} {ρ : Env}
theorem PdR.mono {v : V} {p : Pd} (s : Same F F') (h : PdR K F σ v p) : PdR K F' σ v p := by
  cases p with
  | d d => exact Fz.mono s h
  | i i => exact h
theorem PdR.pk {v : V} {p : Pd} {d : D} (S : St K io P F ρ σ H) (h : PdR K F σ v p) (e : p.get ρ = some d) : Pk K F H d v := by
  cases p with
  | d d' =>
    cases e
    exact .inl h
  | i i =>
    have h : σ[i]? = some (some v) := h
    cases q : ρ[i]? with
    | none => simp [Pd.get, q] at e
    | some o =>
      cases o with
      | none => simp [Pd.get, q] at e
      | some s =>
        simp only [Pd.get, q, Option.some.injEq] at e
        subst e
        cases s with
        | fz d =>
          obtain ⟨u, h1, h2⟩ := S.fz i d q
          rw [h] at h1
          cases h1
          exact .inl h2
        | ow xs =>
          obtain ⟨a, vs, h1, h2, h3, _⟩ := S.ow i xs (.inl q)
          rw [h] at h1
          cases h1
          exact .inr ⟨xs, a, vs, rfl, rfl, h2, h3⟩
        | io xs =>
          obtain ⟨a, vs, h1, h2, h3, _⟩ := S.ow i xs (.inr q)
          rw [h] at h1
          cases h1
          exact .inr ⟨xs, a, vs, rfl, rfl, h2, h3⟩
/-- an operand, then the rest -/
theorem tO_bind {o : Opd} {f : Pd → Env → R Sl} {Q' : VK} (S : St K io P F ρ σ H) (h : ToE K W io P F σ Q ((o.run ρ).bind f)) (hv : ∀ i s, o = .v i → ρ[i]? = some (some s) → True)
    (k : ∀ p ρ1 v H1 F1, Same F F1 → St K io P F1 ρ1 σ H1 → PdR K F1 σ v p → ToE K W io P F1 σ Q (f p ρ1) → Q' v H1) (hs : ∀ i, o = .v i → ∃ v, σ[i]? = some (some v)) : tO K W io o σ H Q' := by
  cases o with
  | v i =>
    obtain ⟨v, e⟩ := hs i rfl
    exact ⟨v, e, k (.i i) ρ v H F (Same.refl _) S e h⟩
  | e m =>
    have e : ((Opd.e m).run ρ).bind f = (m ρ).bind fun x ρ1 => f (.d x.d) ρ1 := by
      show R.bind ((m ρ).bind fun x ρ1 => .ok (.d x.d) ρ1) f = _
      cases m ρ <;> rfl
    rw [e] at h
    refine tJ_bind S h fun r ρ1 v H1 F1 s S1 R1 h1 => ?_
    obtain ⟨F1', s', S1', q⟩ := S1.cool R1
    exact k (.d r.d) ρ1 v H1 F1' (s.trans s') S1' q (h1.up s')
end
abbrev Op2 := D → D → Option Sl
abbrev Op1 := D → Option Sl
def OpOk (K : PySem.W.Frag) (r : R2) (f : Op2) : Prop := ∀ (F H : Hp) (x y : V) (dx dy : D) (z : Sl) (Q : VK), Same F H → Pk K F H dx x → Pk K F H dy y → f dx dy = some z → Want K F H z Q → r x y H Q
def Op1Ok (K : PySem.W.Frag) (r : V → Hp → VK → Prop) (f : Op1) : Prop := ∀ (F H : Hp) (x : V) (dx : D) (z : Sl) (Q : VK), Same F H → Pk K F H dx x → f dx = some z → Want K F H z Q → r x H Q
def mk (o : Option Sl) (ρ : Env) : R Sl := match o with
  | some z => .ok z ρ
  | none => .no
/-- the values of pending operands -/
def get2 (f : Op2) (ρ : Env) (p q : Pd) : Option Sl := match p.get ρ, q.get ρ with
  | some x, some y => f x y
  | _, _ => none
def get1 (f : Op1) (ρ : Env) (p : Pd) : Option Sl := match p.get ρ with
  | some x => f x
  | _ => none
def okV (ρ : Env) : Opd → Bool
  | .e _ => true
  | .v i => match ρ[i]? with
    | some (some _) => true
    | _ => false
def mOp2 (f : Op2) (a b : Opd) : Ex := fun ρ => if okV ρ a && okV ρ b then (a.run ρ).bind fun p ρ1 => (b.run ρ1).bind fun q ρ2 => mk (get2 f ρ2 p q) ρ2 else .no
def mOp1 (f : Op1) (a : Opd) : Ex := fun ρ => if okV ρ a then (a.run ρ).bind fun p ρ1 => mk (get1 f ρ1 p) ρ1 else .no
theorem mk_some {K : PySem.W.Frag} {W : WX} {io : Nat → Option Addr} {P F : Hp} {σ : L2.St} {Q : VK} {ρ : Env} {o : Option Sl} (h : ToE K W io P F σ Q (mk o ρ)) : ∃ z, o = some z ∧ ToE K W io P F σ Q (.ok z ρ) := by
  cases o with
  | none => exact h.elim
  | some z => exact ⟨z, rfl, h⟩
theorem okV_v {K : PySem.W.Frag} {io : Nat → Option Addr} {P F H : Hp} {σ : L2.St} {ρ : Env} {o : Opd} (S : St K io P F ρ σ H) (h : okV ρ o = true) : ∀ i, o = .v i → ∃ v, σ[i]? = some (some v) := by
  intro i e
  subst e
  unfold okV at h
  cases q : ρ[i]? with
  | none => simp [q] at h
  | some s =>
    cases s with
    | none => simp [q] at h
    | some s =>
      cases s with
      | fz d => obtain ⟨v, e, _⟩ := S.fz i d q; exact ⟨v, e⟩
      | ow xs => obtain ⟨a, vs, e, _⟩ := S.ow i xs (.inl q); exact ⟨_, e⟩
      | io xs => obtain ⟨a, vs, e, _⟩ := S.ow i xs (.inr q); exact ⟨_, e⟩
theorem toE_if {K : PySem.W.Frag} {W : WX} {io : Nat → Option Addr} {P F : Hp} {σ : L2.St} {Q : VK} {c : Bool} {r : R Sl} (h : ToE K W io P F σ Q (if c then r else .no)) : c = true ∧ ToE K W io P F σ Q r := by
  cases c with
  | true => exact ⟨rfl, h⟩
  | false => exact h.elim
section
variable {X : Cx} {W : WX} {io : Nat → Option Addr} {a b : Expr} {oa ob : Opd} {ma mb : Ex} {pos : Pos}
/-- two parts, then an operation -/
theorem op2_core {r : R2} {f : Op2} (hf : OpOk X.K r f) {σ : L2.St} {H : Hp} {Q : VK} (h : tJ X.K W io (mOp2 f oa ob) σ H Q) : tOp r (tO X.K W io oa) (tO X.K W io ob) σ H Q := by
  obtain ⟨P, F, ρ, S, h⟩ := h
  obtain ⟨hc, h⟩ := toE_if h
  rw [Bool.and_eq_true] at hc
  refine tO_bind S h (fun _ _ _ _ => trivial) (fun p ρ1 v H1 F1 s1 S1 R1 h1 => ?_) (okV_v S hc.1)
  refine tO_bind S1 h1 (fun _ _ _ _ => trivial) (fun q ρ2 u H2 F2 s2 S2 R2 h2 => ?_) (okV_v S hc.2)
  obtain ⟨z, e, h3⟩ := mk_some h2
  unfold get2 at e
  cases e1 : p.get ρ2 with
  | none => rw [e1] at e; cases e
  | some dx =>
    cases e2 : q.get ρ2 with
    | none => rw [e1, e2] at e; cases e
    | some dy =>
      rw [e1, e2] at e
      exact hf F2 H2 v u dx dy z Q S2.fh ((R1.mono s2).pk S2 e1) (R2.pk S2 e2) e (h3.want S2)
theorem op1_core {r : V → Hp → VK → Prop} {f : Op1} (hf : Op1Ok X.K r f) {σ : L2.St} {H : Hp} {Q : VK} (h : tJ X.K W io (mOp1 f oa) σ H Q) : tUn r (tO X.K W io oa) σ H Q := by
  obtain ⟨P, F, ρ, S, h⟩ := h
  obtain ⟨hc, h⟩ := toE_if h
  refine tO_bind S h (fun _ _ _ _ => trivial) (fun p ρ1 v H1 F1 s1 S1 R1 h1 => ?_) (okV_v S hc)
  obtain ⟨z, e, h3⟩ := mk_some h1
  unfold get1 at e
  cases e1 : p.get ρ1 with
  | none => rw [e1] at e; cases e
  | some dx =>
    rw [e1] at e
    exact hf F1 H1 v dx z Q S1.fh (R1.pk S1 e1) e (h3.want S1)
theorem je_op {op : Operator} {r : R2} {f : Op2} (ho : OpR X (binaryOp op) r) (hf : OpOk X.K r f) (ha : JO X W io a oa) (hb : JO X W io b ob) : JE X W io (.BinOp a op b pos) (mOp2 f oa ob) :=
  ⟨pei (pe_op ho ha.pe hb.pe) fun _ _ _ h => op2_core hf h⟩
theorem je_cmp {op : CmpOp} {r : R2} {f : Op2} (ho : OpR X (compareOp op) r) (hf : OpOk X.K r f) (hm : behindInMarks op b = false) (ha : JO X W io a oa) (hb : JO X W io b ob) : JE X W io (.Compare a [op] [b] pos) (mOp2 f oa ob) :=
  ⟨pei (pe_cmpR ho ha.pe hb.pe hm) fun _ _ _ h => op2_core hf h⟩
theorem je_un {op : UnaryOp} {r : V → Hp → VK → Prop} {f : Op1} (ho : UnR X (unaryOp op) r) (hf : Op1Ok X.K r f) (ha : JO X W io a oa) : JE X W io (.UnaryOp op a pos) (mOp1 f oa) :=
  ⟨pei (pe_un ho ha.pe) fun _ _ _ h => op1_core hf h⟩
theorem je_ix {r : R2} {f : Op2} (hr : IxR X r) (hf : OpOk X.K r f) (ha : JO X W io a oa) (hb : JO X W io b ob) (hs : PlainIx b := by exact fun _ _ => rfl) : JE X W io (.Subscript a b pos) (mOp2 f oa ob) :=
  ⟨pei (pe_ix hr ha.pe hb.pe hs) fun _ _ _ h => op2_core hf h⟩

/-! ### names, constants -/
/-- a name: what the slot holds; a list of one's own is frozen by it -/
def mVar (i : Nat) : Ex := fun ρ => match ρ[i]? with
  | some (some (.fz d)) => .ok (.fz d) ρ
  | some (some (.ow xs)) => .ok (.fz (.lst xs)) (ρ.set i (some (.fz (.lst xs))))
  | _ => .no
/-- a list of one's own that goes out and is not met again -/
def mMove (i : Nat) : Ex := fun ρ => match ρ[i]? with
  | some (some (.fz d)) => .ok (.fz d) ρ
  | some (some (.ow xs)) => .ok (.ow xs) (ρ.set i none)
  | _ => .no
def mC (d : D) : Ex := fun ρ => .ok (.fz d) ρ
theorem own_set_none {ρ : Env} {i j : Nat} {o : Option Sl} (ho : ∀ xs, o ≠ some (.ow xs) ∧ o ≠ some (.io xs)) {xs : List D} (q : Own (ρ.set i o) j xs) : j ≠ i ∧ Own ρ j xs := by
  by_cases hj : j = i
  · subst hj
    exfalso
    have hl : j < (ρ.set j o).length := by
      rcases q with q | q <;> exact (List.getElem?_eq_some_iff.mp q).1
    rw [List.length_set] at hl
    rcases q with q | q
    · rw [set_self hl] at q; cases q; exact (ho xs).1 rfl
    · rw [set_self hl] at q; cases q; exact (ho xs).2 rfl
  · refine ⟨hj, ?_⟩
    rcases q with q | q
    · rw [set_other (Ne.symm hj)] at q; exact .inl q
    · rw [set_other (Ne.symm hj)] at q; exact .inr q
/-- the slot is given up -/
theorem St.drop {K : PySem.W.Frag} {io : Nat → Option Addr} {P F : Hp} {σ : L2.St} {H : Hp} {ρ : Env} {i : Nat} (S : St K io P F ρ σ H) : St K io P F (ρ.set i none) σ H := by
  have hn : ∀ xs : List D, (none : Option Sl) ≠ some (.ow xs) ∧ (none : Option Sl) ≠ some (.io xs) := fun xs => ⟨(by intro z; cases z), (by intro z; cases z)⟩
  refine ⟨S.fh, S.ph, S.pf, by simp [S.len], fun j d q => ?_, fun j xs q => S.ow j xs (own_set_none hn q).2, fun j xs a q1 q2 => S.ia j xs a ?_ q2, fun j k xs ys a q1 q2 => S.ds j k xs ys a (own_set_none hn q1).2 (own_set_none hn q2).2⟩
  · by_cases hj : j = i
    · subst hj
      have hl : j < (ρ.set j none).length := (List.getElem?_eq_some_iff.mp q).1
      rw [List.length_set] at hl
      rw [set_self hl] at q
      cases q
    · rw [set_other (Ne.symm hj)] at q
      exact S.fz j d q
  · obtain ⟨hj, _⟩ := own_set_none hn (.inr q1)
    rw [set_other (Ne.symm hj)] at q1
    exact q1
theorem St.own_rel {K : PySem.W.Frag} {io : Nat → Option Addr} {P F : Hp} {σ : L2.St} {H : Hp} {ρ : Env} {i : Nat} {xs : List D} {v : V} (S : St K io P F ρ σ H) (e : ρ[i]? = some (some (.ow xs))) (hv : σ[i]? = some (some v)) : Rel K P F (ρ.set i none) σ H v (.ow xs) := by
  obtain ⟨a, vs, h1, h2, h3, h4, h5⟩ := S.ow i xs (.inl e)
  rw [h1] at hv
  cases hv
  refine ⟨a, vs, rfl, h2, h3, h4, h5, fun j ys q z => ?_⟩
  obtain ⟨hj, q'⟩ := own_set_none (fun xs => ⟨(by intro z; cases z), (by intro z; cases z)⟩) q
  exact hj (S.ds j i ys xs a q' (.inl e) z h1)
theorem je_move (i : Nat) {x : Str} (hN : X.N[i]? = some x := by rfl) (hv : Vis X.env.scope x := by first | exact Or.inl rfl | exact Or.inr (Or.inl rfl) | exact Or.inr (Or.inr rfl)) (hd : (x == ("__debug__" : Str)) = false := by decide)
    (hcd : (x == ("__classdict__" : Str)) = false := by decide) : JE X W io (.Name x pos) (mMove i) := by
  refine ⟨pei (pe_var hN hv hd hcd) fun σ H Q h => ?_⟩
  obtain ⟨P, F, ρ, S, h⟩ := h
  unfold mMove at h
  cases e : ρ[i]? with
  | none => rw [e] at h; exact h.elim
  | some o =>
    rw [e] at h
    cases o with
    | none => exact h.elim
    | some z =>
      cases z with
      | fz d =>
        obtain ⟨v, h1, h2⟩ := S.fz i d e
        exact ⟨v, h1, h v H F (Same.refl _) S h2⟩
      | ow xs =>
        obtain ⟨a, vs, h1, _⟩ := S.ow i xs (.inl e)
        exact ⟨_, h1, h _ H F (Same.refl _) S.drop (S.own_rel e h1)⟩
      | io xs => exact h.elim
/-- a slot's own list is frozen in it -/
theorem St.cool_at {K : PySem.W.Frag} {io : Nat → Option Addr} {P F : Hp} {σ : L2.St} {H : Hp} {ρ : Env} {i : Nat} {xs : List D} {v : V} (S : St K io P F ρ σ H) (e : ρ[i]? = some (some (.ow xs))) (hv : σ[i]? = some (some v)) :
    ∃ F', Same F F' ∧ St K io P F' (ρ.set i (some (.fz (.lst xs)))) σ H ∧ Fz K F' (.lst xs) v := by
  obtain ⟨F', s, S', q⟩ := S.drop.cool (S.own_rel e hv)
  refine ⟨F', s, ?_, q⟩
  have S2 := S'.store (i := i) (v := v) (r := .fz (.lst xs)) q
  have hi : i < σ.length := (List.getElem?_eq_some_iff.mp hv).1
  have e2 : σ.set i (some v) = σ := by
    refine List.ext_getElem? fun j => ?_
    by_cases hj : i = j
    · subst hj; rw [set_self hi, hv]
    · rw [set_other hj]
  rw [e2, List.set_set] at S2
  exact S2
theorem je_var (i : Nat) {x : Str} (hN : X.N[i]? = some x := by rfl) (hv : Vis X.env.scope x := by first | exact Or.inl rfl | exact Or.inr (Or.inl rfl) | exact Or.inr (Or.inr rfl)) (hd : (x == ("__debug__" : Str)) = false := by decide)
    (hcd : (x == ("__classdict__" : Str)) = false := by decide) : JE X W io (.Name x pos) (mVar i) := by
  refine ⟨pei (pe_var hN hv hd hcd) fun σ H Q h => ?_⟩
  obtain ⟨P, F, ρ, S, h⟩ := h
  unfold mVar at h
  cases e : ρ[i]? with
  | none => rw [e] at h; exact h.elim
  | some o =>
    rw [e] at h
    cases o with
    | none => exact h.elim
    | some z =>
      cases z with
      | fz d =>
        obtain ⟨v, h1, h2⟩ := S.fz i d e
        exact ⟨v, h1, h v H F (Same.refl _) S h2⟩
      | ow xs =>
        obtain ⟨a, vs, h1, _⟩ := S.ow i xs (.inl e)
        obtain ⟨F', s, S', q⟩ := S.cool_at e h1
        exact ⟨_, h1, h _ H F' s S' q⟩
      | io xs => exact h.elim
theorem je_c {e : Expr} {v : V} {d : D} (h : PE X e (tC v)) (hd : ∀ F, Fz X.K F d v) : JE X W io e (mC d) := ⟨pei h fun σ H Q q => by
  obtain ⟨P, F, ρ, S, q⟩ := q
  exact q v H F (Same.refl _) S (hd F)⟩
theorem je_int {i : Int} {j : Nat} : JE X W io (.Constant (.int i) j pos) (mC (.int i)) := je_c pe_int fun _ => rfl
theorem je_bl {i : Bool} {j : Nat} : JE X W io (.Constant (.bool i) j pos) (mC (.bl i)) := je_c pe_bl fun _ => rfl
theorem je_str {i : Str} {j : Nat} : JE X W io (.Constant (.str i) j pos) (mC (.str i)) := je_c pe_str fun _ => rfl
theorem je_non {j : Nat} : JE X W io (.Constant .none j pos) (mC .non) := je_c pe_non fun _ => rfl
/-- a module's constant -/
theorem je_gstr {x z : Str} (hm : ∃ t, X.mg x = some (.str z t)) (hg : Gl X x := by rfl) (hd : (x == ("__debug__" : Str)) = false := by decide) : JE X W io (.Name x pos) (mC (.str z)) := by
  obtain ⟨t, e⟩ := hm
  exact je_c (pe_glob hg e (v := .str z) ⟨t, rfl⟩ hd) fun _ => rfl
theorem je_gint {x : Str} {z : Int} (hm : ∃ t, X.mg x = some (.int z t)) (hg : Gl X x := by rfl) (hd : (x == ("__debug__" : Str)) = false := by decide) : JE X W io (.Name x pos) (mC (.int z)) := by
  obtain ⟨t, e⟩ := hm
  exact je_c (pe_glob hg e (v := .int z) ⟨t, rfl⟩ hd) fun _ => rfl
theorem je_gref {x : Str} (hm : X.mg x = some (.ref (He.ga X.K x))) (hg : Gl X x := by rfl) (hd : (x == ("__debug__" : Str)) = false := by decide) : JE X W io (.Name x pos) (mC (.cst x)) :=
  je_c (pe_glob hg hm (v := .ref (He.ga X.K x)) rfl hd) fun _ => rfl
end
end Mi

namespace Mi
open PySem PySem.Spec PyProof.Rows L2

/-! ### bounds of ints -/
@[irreducible] def BIG : Nat := 2 ^ 16777216
@[irreducible] def DVB : Nat := 2 ^ 8192
theorem bits_of {x : Int} {n : Nat} (h : x.natAbs < 2 ^ n) : Builtin.Int.intBits x ≤ n := by
  unfold Builtin.Int.intBits
  split
  · omega
  · rename_i h0
    have : x.natAbs ≠ 0 := by
      intro z
      have : x = 0 := by omega
      subst this
      simp at h0
    have := (Nat.log2_lt this).mpr h
    omega
theorem big_bits {x : Int} (h : x.natAbs < BIG) : Builtin.Int.intBits x ≤ 16777216 := by
  unfold BIG at h
  exact bits_of h
theorem BIG_ge {n : Nat} (h : n ≤ 16777216) : 2 ^ n ≤ BIG := by
  unfold BIG
  exact Nat.pow_le_pow_right (by decide) h
theorem big_of_bits {x : Int} {n : Nat} (h : Builtin.Int.intBits x ≤ n) (hn : n ≤ 16777216) : x.natAbs < BIG := by
  have h1 : x.natAbs < 2 ^ n := by
    unfold Builtin.Int.intBits at h
    split at h
    · rename_i h0
      have : x = 0 := by simpa using h0
      subst this
      exact Nat.two_pow_pos n
    · have h2 : x.natAbs < 2 ^ (x.natAbs.log2 + 1) := Nat.lt_log2_self
      exact Nat.lt_of_lt_of_le h2 (Nat.pow_le_pow_right (by decide) (by omega))
  exact Nat.lt_of_lt_of_le h1 (BIG_ge hn)
theorem DVB_ge {n : Nat} (h : n ≤ 8192) : 2 ^ n ≤ DVB := by
  unfold DVB
  exact Nat.pow_le_pow_right (by decide) h

/-! ### the operations on data -/
def okI (i : Int) : Sl := .fz (.int i)
def okB (b : Bool) : Sl := .fz (.bl b)
def SZ : Nat := 100000
theorem SZ_le : SZ ≤ sizeLine := by rw [sizeLine_eq]; decide
def addD : Op2
  | .int i, .int j => some (okI (i + j))
  | .str a, .str b => if a.length + b.length ≤ SZ then some (.fz (.str (a ++ b))) else none
  | .lst a, .lst b => if a.length + b.length ≤ SZ then some (.ow (a ++ b)) else none
  | .tup a, .tup b => if a.length + b.length ≤ SZ then some (.fz (.tup (a ++ b))) else none
  | _, _ => none
def subD : Op2
  | .int i, .int j => some (okI (i - j))
  | _, _ => none
def mulD : Op2
  | .int i, .int j => if i.natAbs < BIG ∧ j.natAbs < BIG then some (okI (i * j)) else none
  | .lst a, .int k => if -1000000 ≤ k ∧ k ≤ 1000000 ∧ a.length * k.toNat ≤ SZ then some (.ow (List.replicate k.toNat a).flatten) else none
  | _, _ => none
def fdivD : Op2
  | .int i, .int j => if 0 < j ∧ j.natAbs < DVB then some (okI (i / j)) else none
  | _, _ => none
def modD : Op2
  | .int i, .int j => if 0 < j then some (okI (i % j)) else none
  | _, _ => none
def powD : Op2
  | .int i, .int j => if 0 ≤ j ∧ ((i.natAbs < BIG ∧ j ≤ 8) ∨ (i.natAbs < 65536 ∧ j ≤ 100000)) then some (okI (i ^ j.toNat)) else none
  | _, _ => none
def cmpD (p : Int → Int → Bool) : Op2
  | .int i, .int j => some (okB (p i j))
  | _, _ => none
abbrev ltD : Op2 := cmpD fun i j => decide (i < j)
abbrev leD : Op2 := cmpD fun i j => decide (i ≤ j)
abbrev gtD : Op2 := cmpD fun i j => decide (j < i)
abbrev geD : Op2 := cmpD fun i j => decide (j ≤ i)
mutual
def D.py : D → PyData
  | .non => .none
  | .bl b => .bool b
  | .int i => .int i
  | .str s => .str s
  | .tup ds => .tuple (pyL ds)
  | .lst ds => .list (pyL ds)
  | .scr ds => .list (pyL ds)
  | .dic _ => .dict []
  | .cst _ => .dict []
  | .exo _ => .dict []
def pyL : List D → List PyData
  | [] => []
  | d :: ds => d.py :: pyL ds
end
def D.sh (d : D) : Bool := SeqAt.shaped d.py
def D.eq (a b : D) : Bool := PyData.eqv a.py b.py
def eqD : Op2 := fun a b => if a.sh && b.sh then some (okB (a.eq b)) else none
def neD : Op2 := fun a b => if a.sh && b.sh then some (okB (!a.eq b)) else none
def D.isN : D → Bool
  | .non => true
  | _ => false
def isD : Op2 := fun a b => match b with
  | .non => some (okB a.isN)
  | _ => none
def isNotD : Op2 := fun a b => match b with
  | .non => some (okB (!a.isN))
  | _ => none
def D.flat : D → Bool
  | .non | .bl _ | .int _ | .str _ => true
  | _ => false
/-- x in s -/
def D.inB (a : D) : D → Option Bool
  | .str z => match a with
    | .str x => if x.length = 1 then some (z.cps.toList.any fun c => decide (x = ⟨#[c]⟩)) else none
    | _ => none
  | .lst ds => if a.sh && D.sh (.lst ds) then some (ds.any fun y => D.eq y a) else none
  | .tup ds => if a.flat && ds.all D.flat then some (ds.any fun y => D.eq y a) else none
  | _ => none
def inD : Op2 := fun a b => (a.inB b).map okB
def notInD : Op2 := fun a b => (a.inB b).map fun z => okB !z
/-- o[i] -/
def ixD : Op2
  | .lst ds, .int i => (atI ds i).map .fz
  | .tup ds, .int i => (atI ds i).map .fz
  | .scr ds, .int i => (atI ds i).map .fz
  | .str z, .int i => if z.length ≤ SZ then (atI z.cps.toList i).map fun c => .fz (.str ⟨#[c]⟩) else none
  | _, _ => none
def negD : Op1
  | .int i => some (okI (-i))
  | _ => none

/-! ### they are Python's -/
section
variable {K : PySem.W.Frag}
theorem ifs {p : Prop} [Decidable p] {a : Sl} {z : Sl} (h : (if p then some a else none) = some z) : p ∧ a = z := by
  by_cases q : p
  · rw [if_pos q] at h
    exact ⟨q, Option.some.inj h⟩
  · rw [if_neg q] at h
    cases h
theorem FzL.of_lst {F H : Hp} {a : Addr} {vs : List V} (e : Same F H) (h : F a = some (.lst vs)) : H a = some (.lst vs) := e _ _ h

abbrev rAddAll (K : PySem.W.Frag) : R2 := fun x y H Q => (rI0 fun i j => .int (i + j)) x y H Q ∨ (∃ i j, x = .str i ∧ y = .str j ∧ i.length + j.length ≤ sizeLine ∧ Q (.str (i ++ j)) H) ∨ rCat x y H Q ∨ rCatA K x y H Q
theorem opr_add {X : Cx} : OpR X (binaryOp .Add) (rAddAll X.K) := op_add.or (op_add_str.or (op_cat.or op_catA))

/-- two tuples one behind the other -/
theorem want_cat {F H : Hp} {a b : Addr} {vs us : List V} {xs ys : List D} {Q : VK} (e : Same F H) (ha : SqT K F a vs) (hb : SqT K F b us) (ra : FzL K F xs vs) (rb : FzL K F ys us) (w : Want K F H (.fz (.tup (xs ++ ys))) Q) :
    (vs = [] → Q (.ref b) H) ∧ (vs ≠ [] → us = [] → Q (.ref a) H) ∧ (vs ≠ [] → us ≠ [] → ∀ p, H p = none → Q (.ref p) (upd H p (.tup (vs ++ us)))) := by
  refine ⟨fun h0 => ?_, fun _ h0 => ?_, fun _ _ p hp => w.tup e hp (ra.append rb)⟩
  · refine w.fz e ⟨b, us, rfl, hb, ?_⟩
    subst h0
    have : xs = [] := List.length_eq_zero_iff.mp ra.length
    subst this
    exact rb
  · refine w.fz e ⟨a, vs, rfl, ha, ?_⟩
    subst h0
    have : ys = [] := List.length_eq_zero_iff.mp rb.length
    subst this
    rw [List.append_nil]
    exact ra
theorem ok_add : OpOk K (rAddAll K) addD := by
  intro F H x y dx dy z Q e qx qy h w
  cases dx <;> cases dy <;> first | (simp [addD] at h; done) | skip
  · rename_i i j
    cases qx.int; cases qy.int; cases h
    exact .inl ⟨i, j, rfl, rfl, w.fz e rfl⟩
  · rename_i i j
    cases qx.str; cases qy.str
    obtain ⟨h1, rfl⟩ := ifs h
    exact .inr (.inl ⟨i, j, rfl, rfl, Nat.le_trans h1 SZ_le, w.fz e rfl⟩)
  · rename_i xs ys
    obtain ⟨a, vs, rfl, ha, ra⟩ := qx.tup
    obtain ⟨b, us, rfl, hb, rb⟩ := qy.tup
    obtain ⟨h1, rfl⟩ := ifs h
    have h2 : vs.length + us.length ≤ sizeLine := by rw [← ra.length, ← rb.length]; exact Nat.le_trans h1 SZ_le
    exact .inr (.inr (.inr ⟨a, b, vs, us, rfl, rfl, same_seqT e ha, same_seqT e hb, h2, want_cat e ha hb ra rb w⟩))
  · rename_i xs ys
    obtain ⟨a, vs, rfl, ha, ra⟩ := qx.lst e
    obtain ⟨b, us, rfl, hb, rb⟩ := qy.lst e
    obtain ⟨h1, rfl⟩ := ifs h
    have h2 : vs.length + us.length ≤ sizeLine := by rw [← ra.length, ← rb.length]; exact Nat.le_trans h1 SZ_le
    exact .inr (.inr (.inl ⟨a, b, vs, us, rfl, rfl, ha, hb, h2, fun p hp => w.lst e hp (ra.append rb)⟩))
theorem ok_sub : OpOk K (rI0 fun i j => .int (i - j)) subD := by
  intro F H x y dx dy z Q e qx qy h w
  cases dx <;> cases dy <;> first | (simp [subD] at h; done) | skip
  rename_i i j
  cases qx.int; cases qy.int; cases h
  exact ⟨i, j, rfl, rfl, w.fz e rfl⟩
abbrev rMulAll : R2 := fun x y H Q => (rI CMulX fun i j => .int (i * j)) x y H Q ∨ rRep x y H Q
theorem opr_mul {X : Cx} : OpR X (binaryOp .Mult) rMulAll := op_mulX.or op_rep
theorem mulx_big {i j : Int} (hi : i.natAbs < BIG) (hj : j.natAbs < BIG) : CMulX i j := by
  have h1 := big_bits hi
  have h2 := big_bits hj
  unfold CMulX
  omega
theorem ok_mul : OpOk K rMulAll mulD := by
  intro F H x y dx dy z Q e qx qy h w
  cases dx <;> cases dy <;> first | (simp [mulD] at h; done) | skip
  · rename_i i j
    cases qx.int; cases qy.int
    obtain ⟨⟨h1, h2⟩, rfl⟩ := ifs h
    exact .inl ⟨i, j, rfl, rfl, mulx_big h1 h2, w.fz e rfl⟩
  · rename_i xs k
    obtain ⟨a, vs, rfl, ha, ra⟩ := qx.lst e
    cases qy.int
    obtain ⟨⟨h1, h2, h3⟩, rfl⟩ := ifs h
    have h4 : vs.length * k.toNat ≤ sizeLine := by rw [← ra.length]; exact Nat.le_trans h3 SZ_le
    refine .inr ⟨a, k, vs, rfl, rfl, ha, by omega, by omega, h4, fun p hp => w.lst e hp ?_⟩
    have go : ∀ n : Nat, FzL K F (List.replicate n xs).flatten (List.replicate n vs).flatten := fun n => by
      induction n with
      | zero => exact rfl
      | succ n ih =>
        rw [List.replicate_succ, List.replicate_succ, List.flatten_cons, List.flatten_cons]
        exact ra.append ih
    exact go _
theorem ok_fdiv : OpOk K (rI CDivW fun i j => .int (i / j)) fdivD := by
  intro F H x y dx dy z Q e qx qy h w
  cases dx <;> cases dy <;> first | (simp [fdivD] at h; done) | skip
  rename_i i j
  cases qx.int; cases qy.int
  obtain ⟨⟨h1, h2⟩, rfl⟩ := ifs h
  unfold DVB at h2
  exact ⟨i, j, rfl, rfl, wide_div h1 h2 (by decide) (by decide), w.fz e rfl⟩
theorem ok_mod : OpOk K (rI (fun _ j => 0 < j) fun i j => .int (i % j)) modD := by
  intro F H x y dx dy z Q e qx qy h w
  cases dx <;> cases dy <;> first | (simp [modD] at h; done) | skip
  rename_i i j
  cases qx.int; cases qy.int
  obtain ⟨h1, rfl⟩ := ifs h
  exact ⟨i, j, rfl, rfl, h1, w.fz e rfl⟩
def CPowX (i j : Int) : Prop := 0 ≤ j ∧ (Builtin.Int.intBits i : Int) * j ≤ 2 ^ 27
theorem op_powX {X : Cx} : OpR X (binaryOp .Pow) (rI CPowX fun i j => .int (i ^ j.toNat)) := opI fun _ _ _ _ _ _ _ hc q => pow_int hc.1 hc.2 q
theorem ok_pow : OpOk K (rI CPowX fun i j => .int (i ^ j.toNat)) powD := by
  intro F H x y dx dy z Q e qx qy h w
  cases dx <;> cases dy <;> first | (simp [powD] at h; done) | skip
  rename_i i j
  cases qx.int; cases qy.int
  obtain ⟨⟨h1, h2⟩, rfl⟩ := ifs h
  refine ⟨i, j, rfl, rfl, ⟨h1, ?_⟩, w.fz e rfl⟩
  have e27 : (2 : Int) ^ 27 = 134217728 := by decide
  rw [e27]
  rcases h2 with ⟨h2, h3⟩ | ⟨h2, h3⟩
  · have b := big_bits h2
    have : ((Builtin.Int.intBits i : Nat) : Int) * j ≤ 16777216 * 8 := Int.mul_le_mul (by omega) h3 h1 (by omega)
    omega
  · have b := bits_of (n := 16) (x := i) (by omega)
    have : ((Builtin.Int.intBits i : Nat) : Int) * j ≤ 16 * 100000 := Int.mul_le_mul (by omega) h3 h1 (by omega)
    omega
theorem ok_cmp {p : Int → Int → Bool} : OpOk K (rI0 fun i j => .bl (p i j)) (cmpD p) := by
  intro F H x y dx dy z Q e qx qy h w
  cases dx <;> cases dy <;> first | (simp [cmpD] at h; done) | skip
  rename_i i j
  cases qx.int; cases qy.int; cases h
  exact ⟨i, j, rfl, rfl, w.fz e rfl⟩
mutual
theorem Fz.dp {F H : Hp} (e : Same F H) : ∀ {d : D} {v : V}, Fz K F d v → d.py.canLay0 = true → Dp K H v d.py
  | .non, _, q, _ => by cases q; exact .non
  | .bl _, _, q, _ => by cases q; exact .bl _
  | .int _, _, q, _ => by cases q; exact .int _
  | .str _, _, q, _ => by cases q; exact .str _
  | .tup _, _, ⟨a, vs, h1, h2, h3⟩, c => by
    subst h1
    exact .tup (same_seqT e h2) (FzL.dp e h3 (by simpa [D.py, PyData.canLay0] using c))
  | .lst _, _, ⟨a, vs, h1, h2, h3⟩, c => by
    subst h1
    exact .lst (.inl (.inl (e _ _ h2))) (FzL.dp e h3 (by simpa [D.py, PyData.canLay0] using c))
  | .scr _, _, ⟨a, vs, h1, h2, h3⟩, c => by
    subst h1
    exact .lst (e.seq h2) (FzL.dp e h3 (by simpa [D.py, PyData.canLay0] using c))
  | .dic _, _, _, c => by simp [D.py, PyData.canLay0] at c
  | .cst _, _, _, c => by simp [D.py, PyData.canLay0] at c
  | .exo _, _, _, c => by simp [D.py, PyData.canLay0] at c
theorem FzL.dp {F H : Hp} (e : Same F H) : ∀ {ds : List D} {vs : List V}, FzL K F ds vs → PyData.canLayAll0 (pyL ds) = true → DpAll K H vs (pyL ds)
  | [], _, q, _ => by
    have q : _ = [] := q
    rw [q]
    exact .nil
  | d :: ds, _, ⟨v, ws, h1, h2, h3⟩, c => by
    subst h1
    have c2 : d.py.canLay0 = true ∧ PyData.canLayAll0 (pyL ds) = true := by simpa [pyL, PyData.canLayAll0] using c
    exact .cons (Fz.dp e h2 c2.1) (FzL.dp e h3 c2.2)
end
theorem Pk.dp {F H : Hp} {d : D} {v : V} (e : Same F H) (q : Pk K F H d v) (c : d.py.canLay0 = true) : Dp K H v d.py := by
  rcases q with q | ⟨xs, a, vs, rfl, rfl, h, r⟩
  · exact q.dp e c
  · exact .lst (.inl (.inl h)) (FzL.dp e r (by simpa [D.py, PyData.canLay0] using c))
theorem sh_lay {d : D} (h : d.sh = true) : d.py.canLay0 = true := SeqAt.canLay_of_shaped h
theorem ok_eq : OpOk K (rEqD K) eqD := by
  intro F H x y dx dy z Q e qx qy h w
  unfold eqD at h
  obtain ⟨h1, rfl⟩ := ifs h
  rw [Bool.and_eq_true] at h1
  exact ⟨_, _, qx.dp e (sh_lay h1.1), qy.dp e (sh_lay h1.2), h1.1, h1.2, w.fz e rfl⟩
theorem ok_ne : OpOk K (rNeD K) neD := by
  intro F H x y dx dy z Q e qx qy h w
  unfold neD at h
  obtain ⟨h1, rfl⟩ := ifs h
  rw [Bool.and_eq_true] at h1
  exact ⟨_, _, qx.dp e (sh_lay h1.1), qy.dp e (sh_lay h1.2), h1.1, h1.2, w.fz e rfl⟩
theorem Fz.isN {F : Hp} {d : D} {v : V} (q : Fz K F d v) : decide (v = .non) = d.isN := by
  cases d with
  | non => cases q; rfl
  | bl _ => cases q; rfl
  | int _ => cases q; rfl
  | str _ => cases q; rfl
  | tup _ => obtain ⟨a, vs, rfl, _⟩ := q; rfl
  | lst _ => obtain ⟨a, vs, rfl, _⟩ := q; rfl
  | scr _ => obtain ⟨a, vs, rfl, _⟩ := q; rfl
  | dic _ => obtain ⟨a, vs, rfl, _⟩ := q; rfl
  | cst _ => cases q; rfl
  | exo _ => obtain ⟨a, rfl, _⟩ := q; rfl
theorem Pk.isN {F H : Hp} {d : D} {v : V} (q : Pk K F H d v) : decide (v = .non) = d.isN := by
  rcases q with q | ⟨xs, a, vs, rfl, rfl, h, r⟩
  · exact q.isN
  · rfl
theorem ok_is : OpOk K (fun x y H Q => y = .non ∧ Q (.bl (decide (x = .non))) H) isD := by
  intro F H x y dx dy z Q e qx qy h w
  cases dy <;> first | (simp [isD] at h; done) | skip
  cases qy.non; cases h
  exact ⟨rfl, by rw [qx.isN]; exact w.fz e rfl⟩
theorem ok_isNot : OpOk K (fun x y H Q => y = .non ∧ Q (.bl (!decide (x = .non))) H) isNotD := by
  intro F H x y dx dy z Q e qx qy h w
  cases dy <;> first | (simp [isNotD] at h; done) | skip
  cases qy.non; cases h
  exact ⟨rfl, by rw [qx.isN]; exact w.fz e rfl⟩
/-- flat data -/
theorem Pk.flat {F H : Hp} {d : D} {v : V} (q : Pk K F H d v) (f : d.flat = true) : flatV v = true ∧ ∀ (d' : D) (u : V), Pk K F H d' u → d'.flat = true → eqV v u = D.eq d d' := by
  cases d <;> first | (simp [D.flat] at f; done) | skip
  · cases q.non
    refine ⟨rfl, fun d' u q' f' => ?_⟩
    cases d' <;> first | (simp [D.flat] at f'; done) | skip
    · cases q'.non; rfl
    · cases q'.bl; rfl
    · cases q'.int; rfl
    · cases q'.str; rfl
  · cases q.bl
    refine ⟨rfl, fun d' u q' f' => ?_⟩
    cases d' <;> first | (simp [D.flat] at f'; done) | skip
    · cases q'.non; rfl
    · cases q'.bl; rfl
    · cases q'.int; rfl
    · cases q'.str; rfl
  · cases q.int
    refine ⟨rfl, fun d' u q' f' => ?_⟩
    cases d' <;> first | (simp [D.flat] at f'; done) | skip
    · cases q'.non; rfl
    · cases q'.bl; rfl
    · cases q'.int; rfl
    · cases q'.str; rfl
  · cases q.str
    refine ⟨rfl, fun d' u q' f' => ?_⟩
    cases d' <;> first | (simp [D.flat] at f'; done) | skip
    · cases q'.non; rfl
    · cases q'.bl; rfl
    · cases q'.int; rfl
    · cases q'.str; rfl
theorem flat_all {F H : Hp} : ∀ {ds : List D} {vs : List V}, FzL K F ds vs → ds.all D.flat = true → vs.all flatV = true ∧ ∀ (d' : D) (u : V), Pk K F H d' u → d'.flat = true → (vs.any fun y => eqV y u) = ds.any fun y => D.eq y d'
  | [], _, q, _ => by
    have q : _ = [] := q
    rw [q]
    exact ⟨rfl, fun _ _ _ _ => rfl⟩
  | d :: ds, _, ⟨v, ws, h1, h2, h3⟩, c => by
    subst h1
    rw [List.all_cons, Bool.and_eq_true] at c
    obtain ⟨a1, a2⟩ := flat_all (H := H) h3 c.2
    obtain ⟨b1, b2⟩ := Pk.flat (H := H) (.inl h2) c.1
    refine ⟨by rw [List.all_cons, b1, a1]; rfl, fun d' u q' f' => ?_⟩
    rw [List.any_cons, List.any_cons, b2 d' u q' f', a2 d' u q' f']
theorem pyL_any (d : PyData) : ∀ ds : List D, (pyL ds).any (fun z => PyData.eqv z d) = ds.any fun y => PyData.eqv y.py d
  | [] => rfl
  | e :: ds => by
    show (PyData.eqv e.py d || (pyL ds).any _) = _
    rw [pyL_any d ds, List.any_cons]
abbrev rInAll (K : PySem.W.Frag) : R2 := fun x y H Q => rIn K false x y H Q ∨ rInD K x y H Q ∨ (∃ (c : Nat) (z : Str), x = .str ⟨#[c]⟩ ∧ y = .str z ∧ Q (.bl (decide (c ∈ z.cps.toList))) H)
abbrev rNinAll (K : PySem.W.Frag) : R2 := fun x y H Q => rIn K true x y H Q ∨ rNotInD K x y H Q ∨ (∃ (c : Nat) (z : Str), x = .str ⟨#[c]⟩ ∧ y = .str z ∧ Q (.bl (!decide (c ∈ z.cps.toList))) H)
theorem opr_in {X : Cx} (hu : X.A.units + 65 < cLine) : OpR X (compareOp .In) (rInAll X.K) := op_in_seq.or ((op_inD hu).or op_in_sign)
theorem opr_nin {X : Cx} (hu : X.A.units + 65 < cLine) : OpR X (compareOp .NotIn) (rNinAll X.K) := op_notIn_seq.or ((op_notInD hu).or op_notIn_sign)
theorem sign_of {x : Str} (h : x.length = 1) : ∃ c, x = ⟨#[c]⟩ := by
  obtain ⟨cps⟩ := x
  have h : cps.size = 1 := h
  obtain ⟨l⟩ := cps
  match l, h with
  | [c], _ => exact ⟨c, rfl⟩
theorem sign_any (c : Nat) (l : List Nat) : (l.any fun e => decide ((⟨#[c]⟩ : Str) = ⟨#[e]⟩)) = decide (c ∈ l) := by
  induction l with
  | nil => rfl
  | cons e l ih =>
    rw [List.any_cons, ih]
    by_cases h : c = e
    · subst h; simp
    · have h1 : ¬ ((⟨#[c]⟩ : Str) = ⟨#[e]⟩) := fun z => by
        injection z with z
        injection z with z
        injection z with z _
        exact h z
      rw [decide_eq_false h1, Bool.false_or]
      simp [h]
theorem in_core {F H : Hp} {x y : V} {dx dy : D} {b : Bool} (e : Same F H) (qx : Pk K F H dx x) (qy : Pk K F H dy y) (h : dx.inB dy = some b) {Q : Bool → Prop} (q : Q b) :
    (∃ p xs, y = .ref p ∧ (SqL K H p xs ∨ SqT K H p xs) ∧ flatV x = true ∧ xs.all flatV = true ∧ Q (inV x xs)) ∨ (∃ d ds, Dp K H x d ∧ Dp K H y (.list ds) ∧ SeqAt.shaped d = true ∧ SeqAt.shaped (.list ds) = true ∧ Q (ds.any fun z => PyData.eqv z d)) ∨ (∃ (c : Nat) (z : Str), x = .str ⟨#[c]⟩ ∧ y = .str z ∧ Q (decide (c ∈ z.cps.toList))) := by
  cases dy <;> first | (simp [D.inB] at h; done) | skip
  · rename_i z
    cases dx <;> first | (simp [D.inB] at h; done) | skip
    rename_i w
    cases qx.str; cases qy.str
    simp only [D.inB] at h
    split at h
    · rename_i h1
      cases h
      obtain ⟨c, rfl⟩ := sign_of h1
      rw [sign_any] at q
      exact .inr (.inr ⟨c, z, rfl, rfl, q⟩)
    · cases h
  · rename_i ds
    obtain ⟨a, vs, rfl, ha, ra⟩ := qy.tup
    simp only [D.inB] at h
    split at h
    · rename_i h1
      cases h
      rw [Bool.and_eq_true] at h1
      obtain ⟨f1, f2⟩ := flat_all (H := H) ra h1.2
      refine .inl ⟨a, vs, rfl, .inr (same_seqT e ha), (qx.flat h1.1).1, f1, ?_⟩
      unfold inV
      rw [f2 dx x qx h1.1]
      exact q
    · cases h
  · rename_i ds
    simp only [D.inB] at h
    split at h
    · rename_i h1
      cases h
      rw [Bool.and_eq_true] at h1
      refine .inr (.inl ⟨dx.py, pyL ds, qx.dp e (sh_lay h1.1), qy.dp e (sh_lay h1.2), h1.1, h1.2, ?_⟩)
      rw [pyL_any]
      exact q
    · cases h
theorem ok_in : OpOk K (rInAll K) inD := by
  intro F H x y dx dy z Q e qx qy h w
  unfold inD at h
  obtain ⟨b, h1, rfl⟩ := Option.map_eq_some_iff.mp h
  rcases in_core e qx qy h1 (Q := fun b => Q (.bl b) H) (w.fz e rfl) with h2 | h2 | h2
  · exact .inl h2
  · exact .inr (.inl h2)
  · exact .inr (.inr h2)
theorem ok_nin : OpOk K (rNinAll K) notInD := by
  intro F H x y dx dy z Q e qx qy h w
  unfold notInD at h
  obtain ⟨b, h1, rfl⟩ := Option.map_eq_some_iff.mp h
  rcases in_core e qx qy h1 (Q := fun b => Q (.bl !b) H) (w.fz e rfl) with h2 | h2 | h2
  · exact .inl h2
  · exact .inr (.inl h2)
  · exact .inr (.inr h2)
/-! ### subscripts -/
theorem atI_rel {F : Hp} {ds : List D} {vs : List V} {i : Int} {d : D} (q : FzL K F ds vs) (h : atI ds i = some d) : ∃ v, atI vs i = some v ∧ Fz K F d v := by
  unfold atI at h ⊢
  rw [← q.length]
  obtain ⟨j, e1, e2⟩ := Option.bind_eq_some_iff.mp h
  obtain ⟨v, h1, h2⟩ := q.get e2
  exact ⟨v, by rw [e1]; exact h1, h2⟩
theorem ok_ix : OpOk K (rIx K) ixD := by
  intro F H x y dx dy z Q e qx qy h w
  cases dx <;> cases dy <;> first | (simp [ixD] at h; done) | skip
  · rename_i s i
    cases qx.str; cases qy.int
    obtain ⟨h1, h2⟩ : s.length ≤ SZ ∧ (atI s.cps.toList i).map (fun c => Sl.fz (.str ⟨#[c]⟩)) = some z := by
      simp only [ixD] at h
      split at h
      · rename_i h1; exact ⟨h1, h⟩
      · cases h
    obtain ⟨c, h3, rfl⟩ := Option.map_eq_some_iff.mp h2
    exact .inr (.inr ⟨s, i, c, rfl, rfl, Nat.le_trans h1 SZ_le, h3, w.fz e rfl⟩)
  · rename_i ds i
    obtain ⟨a, vs, rfl, ha, ra⟩ := qx.tup
    cases qy.int
    obtain ⟨d, h1, rfl⟩ := Option.map_eq_some_iff.mp h
    obtain ⟨v, h2, h3⟩ := atI_rel ra h1
    exact .inr (.inl ⟨a, vs, i, v, rfl, rfl, same_seqT e ha, h2, w.fz e h3⟩)
  · rename_i ds i
    obtain ⟨a, vs, rfl, ha, ra⟩ := qx.lst e
    cases qy.int
    obtain ⟨d, h1, rfl⟩ := Option.map_eq_some_iff.mp h
    obtain ⟨v, h2, h3⟩ := atI_rel ra h1
    exact .inl ⟨a, vs, i, v, rfl, rfl, .inl (.inl ha), h2, w.fz e h3⟩
  · rename_i ds i
    obtain ⟨a, vs, rfl, ha, ra⟩ := qx.scr
    cases qy.int
    obtain ⟨d, h1, rfl⟩ := Option.map_eq_some_iff.mp h
    obtain ⟨v, h2, h3⟩ := atI_rel ra h1
    exact .inl ⟨a, vs, i, v, rfl, rfl, e.seq ha, h2, w.fz e h3⟩
theorem ok_neg : Op1Ok K (rU fun i => .int (-i)) negD := by
  intro F H x dx z Q e qx h w
  cases dx <;> first | (simp [negD] at h; done) | skip
  rename_i i
  cases qx.int; cases h
  exact ⟨i, rfl, w.fz e rfl⟩
end
end Mi

namespace Mi
open PySem PySem.Spec PyProof.Rows L2

/-! ### operands in a row -/
def runO : List Opd → Env → R (List Pd)
  | [], ρ => .ok [] ρ
  | o :: os, ρ => (o.run ρ).bind fun p ρ1 => (runO os ρ1).bind fun ps ρ2 => .ok (p :: ps) ρ2
def getL (ρ : Env) : List Pd → Option (List D)
  | [] => some []
  | p :: ps => match p.get ρ, getL ρ ps with
    | some d, some ds => some (d :: ds)
    | _, _ => none
def PdRL (K : PySem.W.Frag) (F : Hp) (σ : L2.St) : List V → List Pd → Prop
  | [], [] => True
  | v :: vs, p :: ps => PdR K F σ v p ∧ PdRL K F σ vs ps
  | _, _ => False
def PkL (K : PySem.W.Frag) (F H : Hp) : List D → List V → Prop
  | [], vs => vs = []
  | d :: ds, vs => ∃ v ws, vs = v :: ws ∧ Pk K F H d v ∧ PkL K F H ds ws
def JOs (X : Cx) (W : WX) (io : Nat → Option Addr) : List Expr → List Opd → Prop
  | [], [] => True
  | e :: es, o :: os => JO X W io e o ∧ starEach (e :: es) X.env = (false, eval e X.env) :: starEach es X.env ∧ JOs X W io es os
  | _, _ => False
def tOs (K : PySem.W.Frag) (W : WX) (io : Nat → Option Addr) : List Opd → TA
  | [] => tNil
  | o :: os => tCons (tO K W io o) (tOs K W io os)
section
variable {K : PySem.W.Frag} {W : WX} {io : Nat → Option Addr} {P F F' : Hp} {σ : L2.St} {Q : VK} {H : Hp} {ρ : Env}
theorem PdRL.mono (s : Same F F') : ∀ {vs : List V} {ps : List Pd}, PdRL K F σ vs ps → PdRL K F' σ vs ps
  | [], [], _ => trivial
  | _ :: _, _ :: _, ⟨h1, h2⟩ => ⟨h1.mono s, PdRL.mono s h2⟩
  | [], _ :: _, h => h.elim
  | _ :: _, [], h => h.elim
theorem PdRL.pk (S : St K io P F ρ σ H) : ∀ {vs : List V} {ps : List Pd} {ds : List D}, PdRL K F σ vs ps → getL ρ ps = some ds → PkL K F H ds vs
  | [], [], _, _, e => by
    cases e
    exact rfl
  | v :: vs, p :: ps, ds, ⟨h1, h2⟩, e => by
    unfold getL at e
    cases e1 : p.get ρ with
    | none => rw [e1] at e; cases e
    | some d =>
      cases e2 : getL ρ ps with
      | none => rw [e1, e2] at e; cases e
      | some r =>
        rw [e1, e2] at e
        cases e
        exact ⟨v, vs, rfl, h1.pk S e1, PdRL.pk S h2 e2⟩
  | [], _ :: _, _, h, _ => h.elim
  | _ :: _, [], _, h, _ => h.elim
theorem R.bind_assoc {α β γ : Type} (r : R α) (f : α → Env → R β) (g : β → Env → R γ) : (r.bind f).bind g = r.bind fun a ρ => (f a ρ).bind g := by
  cases r <;> rfl
theorem R.ok_bind {α β : Type} (a : α) (ρ : Env) (f : α → Env → R β) : (R.ok a ρ).bind f = f a ρ := rfl
theorem tOs_bind : ∀ (os : List Opd) {f : List Pd → Env → R Sl} {Q' : List V → Hp → Prop} {F : Hp} {ρ : Env} {H : Hp}, St K io P F ρ σ H → ToE K W io P F σ Q ((runO os ρ).bind f) →
    (∀ ps ρ1 vs H1 F1, Same F F1 → St K io P F1 ρ1 σ H1 → PdRL K F1 σ vs ps → ToE K W io P F1 σ Q (f ps ρ1) → Q' vs H1) → (∀ i, .v i ∈ os → ∃ v, σ[i]? = some (some v)) → tOs K W io os σ H Q'
  | [], f, Q', F, ρ, H, S, h, k, _ => k [] ρ [] H F (Same.refl _) S trivial h
  | o :: os, f, Q', F, ρ, H, S, h, k, hv => by
    have e : (runO (o :: os) ρ).bind f = (o.run ρ).bind fun p ρ1 => (runO os ρ1).bind fun ps ρ2 => f (p :: ps) ρ2 := by
      show R.bind ((o.run ρ).bind fun p ρ1 => (runO os ρ1).bind fun ps ρ2 => .ok (p :: ps) ρ2) f = _
      rw [R.bind_assoc]
      congr 1
      funext p ρ1
      rw [R.bind_assoc]
      rfl
    rw [e] at h
    refine tO_bind S h (fun _ _ _ _ => trivial) (fun p ρ1 v H1 F1 s1 S1 R1 h1 => ?_) (fun i ei => hv i (by rw [ei]; exact List.mem_cons_self ..))
    exact tOs_bind os S1 h1 (fun ps ρ2 vs H2 F2 s2 S2 R2 h2 => k (p :: ps) ρ2 (v :: vs) H2 F2 (s1.trans s2) S2 ⟨R1.mono s2, R2⟩ h2) fun i hi => hv i (List.mem_cons_of_mem _ hi)
end
section
variable {X : Cx} {W : WX} {io : Nat → Option Addr} {e : Expr} {es : List Expr} {o : Opd} {os : List Opd} {pos : Pos}
theorem jos_nil : JOs X W io [] [] := trivial
theorem jos_cons (h : JO X W io e o) (r : JOs X W io es os) (hs : starEach (e :: es) X.env = (false, eval e X.env) :: starEach es X.env := by rfl) : JOs X W io (e :: es) (o :: os) := ⟨h, hs, r⟩
theorem JOs.pa : ∀ {es : List Expr} {os : List Opd}, JOs X W io es os → PA X es (tOs X.K W io os)
  | [], [], _ => pa_nil
  | _ :: _, _ :: _, ⟨h, hs, r⟩ => pa_cons h.pe r.pa hs
  | [], _ :: _, h => h.elim
  | _ :: _, [], h => h.elim
end
/-! ### calls of built-ins -/
abbrev OpN := List D → Option Sl
def CallOk (K : PySem.W.Frag) (r : List V → Hp → VK → Prop) (f : OpN) : Prop := ∀ (F H : Hp) (vs : List V) (ds : List D) (z : Sl) (Q : VK), Same F H → PkL K F H ds vs → f ds = some z → Want K F H z Q → r vs H Q
def getN (f : OpN) (ρ : Env) (ps : List Pd) : Option Sl := match getL ρ ps with
  | some ds => f ds
  | none => none
def mOpN (f : OpN) (os : List Opd) : Ex := fun ρ => if os.all (okV ρ) then (runO os ρ).bind fun ps ρ1 => mk (getN f ρ1 ps) ρ1 else .no
section
variable {X : Cx} {W : WX} {io : Nat → Option Addr} {e : Expr} {es : List Expr} {o : Opd} {os : List Opd} {pos p : Pos} {x : Str}
theorem opN_core {r : List V → Hp → VK → Prop} {f : OpN} (hf : CallOk X.K r f) {σ : L2.St} {H : Hp} {Q : VK} (h : tJ X.K W io (mOpN f os) σ H Q) : tOs X.K W io os σ H fun vs H1 => r vs H1 Q := by
  obtain ⟨P, F, ρ, S, h⟩ := h
  obtain ⟨hc, h⟩ := toE_if h
  refine tOs_bind os S h (fun ps ρ1 vs H1 F1 s1 S1 R1 h1 => ?_) fun i hi => okV_v S (List.all_eq_true.mp hc _ hi) i rfl
  obtain ⟨z, e, h2⟩ := mk_some h1
  unfold getN at e
  cases e1 : getL ρ1 ps with
  | none => rw [e1] at e; cases e
  | some ds =>
    rw [e1] at e
    exact hf F1 H1 vs ds z Q S1.fh (R1.pk S1 e1) e (h2.want S1)
theorem je_callB {id : String} {r : List V → Hp → VK → Prop} {f : OpN} (hc : CallR X (.builtin id) r) (hf : CallOk X.K r f) (hm : X.mg x = none) (hv : bootBuiltins x = some (.builtin id)) (ha : JOs X W io (e :: es) os) (hg : Gl X x := by rfl) (hn : x ≠ "__name__" := by decide) (hdb : (x == ("__debug__" : Str)) = false := by decide)
    (he : starEach (e :: es) X.env = (false, eval e X.env) :: starEach es X.env := by rfl) (hpl : (backTo pos (starEach es X.env)).any (·.1) = false := by rfl) : JE X W io (.Call (.Name x p) (e :: es) [] pos) (mOpN f os) :=
  ⟨pei (pe_callB hc hg hm hv ha.pa hn hdb he hpl) fun _ _ _ h => opN_core hf h⟩
theorem je_callTy {T : String} {r : List V → Hp → VK → Prop} {f : OpN} (hc : CallR X (.type T) r) (hf : CallOk X.K r f) (hm : X.mg x = none) (hv : bootBuiltins x = some (.type T)) (ha : JOs X W io (e :: es) os) (hg : Gl X x := by rfl) (hn : x ≠ "__name__" := by decide) (hdb : (x == ("__debug__" : Str)) = false := by decide)
    (he : starEach (e :: es) X.env = (false, eval e X.env) :: starEach es X.env := by rfl) (hpl : (backTo pos (starEach es X.env)).any (·.1) = false := by rfl) : JE X W io (.Call (.Name x p) (e :: es) [] pos) (mOpN f os) :=
  ⟨pei (pe_callTy hc hg hm hv ha.pa hn hdb he hpl) fun _ _ _ h => opN_core hf h⟩
end
/-! ### displays: frozen parts -/
def runE : List Ex → Env → R (List D)
  | [], ρ => .ok [] ρ
  | m :: ms, ρ => (m ρ).bind fun x ρ1 => (runE ms ρ1).bind fun ds ρ2 => .ok (x.d :: ds) ρ2
def JEs (X : Cx) (W : WX) (io : Nat → Option Addr) : List Expr → List Ex → Prop
  | [], [] => True
  | e :: es, m :: ms => JE X W io e m ∧ starEach (e :: es) X.env = (false, eval e X.env) :: starEach es X.env ∧ JEs X W io es ms
  | _, _ => False
def tEs (K : PySem.W.Frag) (W : WX) (io : Nat → Option Addr) : List Ex → TA
  | [] => tNil
  | m :: ms => tCons (tJ K W io m) (tEs K W io ms)
section
variable {K : PySem.W.Frag} {W : WX} {io : Nat → Option Addr} {P F F' : Hp} {σ : L2.St} {Q : VK} {H : Hp} {ρ : Env}
theorem tEs_bind : ∀ (ms : List Ex) {f : List D → Env → R Sl} {Q' : List V → Hp → Prop} {F : Hp} {ρ : Env} {H : Hp}, St K io P F ρ σ H → ToE K W io P F σ Q ((runE ms ρ).bind f) →
    (∀ ds ρ1 vs H1 F1, Same F F1 → St K io P F1 ρ1 σ H1 → FzL K F1 ds vs → ToE K W io P F1 σ Q (f ds ρ1) → Q' vs H1) → tEs K W io ms σ H Q'
  | [], f, Q', F, ρ, H, S, h, k => k [] ρ [] H F (Same.refl _) S rfl h
  | m :: ms, f, Q', F, ρ, H, S, h, k => by
    have e : (runE (m :: ms) ρ).bind f = (m ρ).bind fun x ρ1 => (runE ms ρ1).bind fun ds ρ2 => f (x.d :: ds) ρ2 := by
      show R.bind ((m ρ).bind fun x ρ1 => (runE ms ρ1).bind fun ds ρ2 => .ok (x.d :: ds) ρ2) f = _
      rw [R.bind_assoc]
      congr 1
      funext p ρ1
      rw [R.bind_assoc]
      rfl
    rw [e] at h
    refine tJ_bind S h fun x ρ1 v H1 F1 s1 S1 R1 h1 => ?_
    obtain ⟨F1', s1', S1', q1⟩ := S1.cool R1
    exact tEs_bind ms S1' (h1.up s1') fun ds ρ2 vs H2 F2 s2 S2 R2 h2 => k (x.d :: ds) ρ2 (v :: vs) H2 F2 ((s1.trans s1').trans s2) S2 ⟨v, vs, rfl, q1.mono s2, R2⟩ h2
end
def mTup (ms : List Ex) : Ex := fun ρ => (runE ms ρ).bind fun ds ρ1 => if ds.length ≤ SZ then .ok (.fz (.tup ds)) ρ1 else .no
def mLst (ms : List Ex) : Ex := fun ρ => (runE ms ρ).bind fun ds ρ1 => if ds.length ≤ SZ then .ok (.ow ds) ρ1 else .no
section
variable {X : Cx} {W : WX} {io : Nat → Option Addr} {e : Expr} {es : List Expr} {m : Ex} {ms : List Ex} {pos : Pos}
theorem jes_nil : JEs X W io [] [] := trivial
theorem jes_cons (h : JE X W io e m) (r : JEs X W io es ms) (hs : starEach (e :: es) X.env = (false, eval e X.env) :: starEach es X.env := by rfl) : JEs X W io (e :: es) (m :: ms) := ⟨h, hs, r⟩
theorem JEs.pa : ∀ {es : List Expr} {ms : List Ex}, JEs X W io es ms → PA X es (tEs X.K W io ms)
  | [], [], _ => pa_nil
  | _ :: _, _ :: _, ⟨h, hs, r⟩ => pa_cons h.pe r.pa hs
  | [], _ :: _, h => h.elim
  | _ :: _, [], h => h.elim
theorem toE_ifp {K : PySem.W.Frag} {W : WX} {io : Nat → Option Addr} {P F : Hp} {σ : L2.St} {Q : VK} {c : Prop} [Decidable c] {r : R Sl} (h : ToE K W io P F σ Q (if c then r else .no)) : c ∧ ToE K W io P F σ Q r := by
  by_cases hc : c
  · rw [if_pos hc] at h
    exact ⟨hc, h⟩
  · rw [if_neg hc] at h
    exact h.elim
theorem je_tup {k : Nat} (h : JEs X W io es ms) : JE X W io (.Tuple es k pos) (mTup ms) := ⟨pei (pe_tup h.pa) fun σ H Q q => by
  obtain ⟨P, F, ρ, S, q⟩ := q
  refine tEs_bind ms S q fun ds ρ1 vs H1 F1 s1 S1 R1 h1 => ?_
  obtain ⟨hl, h1⟩ := toE_ifp h1
  refine ⟨by rw [← R1.length]; exact Nat.le_trans hl SZ_le, fun p hp => ?_⟩
  exact (h1.want S1).tup S1.fh hp R1⟩
theorem je_lst (h : JEs X W io es ms) : JE X W io (.List es pos) (mLst ms) := ⟨pei (pe_lst h.pa) fun σ H Q q => by
  obtain ⟨P, F, ρ, S, q⟩ := q
  refine tEs_bind ms S q fun ds ρ1 vs H1 F1 s1 S1 R1 h1 => ?_
  obtain ⟨hl, h1⟩ := toE_ifp h1
  refine ⟨by rw [← R1.length]; exact Nat.le_trans hl SZ_le, fun p hp => ?_⟩
  exact (h1.want S1).lst S1.fh hp R1⟩
end

/-! ### the built-ins on data -/
def lenD : OpN
  | [.lst xs] => some (okI xs.length)
  | [.tup xs] => some (okI xs.length)
  | [.scr xs] => some (okI xs.length)
  | [.str z] => if z.length ≤ SZ then some (okI z.length) else none
  | _ => none
def absD : OpN
  | [.int i] => some (okI (if i < 0 then -i else i))
  | _ => none
def max2D : OpN
  | [.int i, .int j] => some (okI (if j > i then j else i))
  | _ => none
def min2D : OpN
  | [.int i, .int j] => some (okI (if j < i then j else i))
  | _ => none
def intD : OpN
  | [.int i] => some (okI i)
  | [.bl b] => some (okI (if b then 1 else 0))
  | _ => none
def intsOf : List D → Option (List Int)
  | [] => some []
  | .int i :: r => (intsOf r).map fun l => i :: l
  | _ => none
def boolsOf : List D → Option (List Bool)
  | [] => some []
  | .bl i :: r => (boolsOf r).map fun l => i :: l
  | _ => none
def sumD : OpN
  | [.lst xs] => (intsOf xs).map fun l => okI l.sum
  | _ => none
def allD : OpN
  | [.lst xs] => (boolsOf xs).map fun l => okB (l.all id)
  | _ => none
def anyD : OpN
  | [.lst xs] => (boolsOf xs).map fun l => okB (l.any id)
  | _ => none
def listD : OpN
  | [.lst xs] => some (.ow xs)
  | [.tup xs] => some (.ow xs)
  | _ => none
def tupleD : OpN
  | [.lst xs] => some (.fz (.tup xs))
  | [.tup xs] => some (.fz (.tup xs))
  | _ => none
def divmodD : OpN
  | [.int i, .int j] => if 0 < j ∧ j.natAbs < DVB then some (.fz (.tup [.int (i / j), .int (i % j)])) else none
  | _ => none
section
variable {K : PySem.W.Frag} {F H : Hp}
theorem PkL.one {d : D} {vs : List V} (h : PkL K F H [d] vs) : ∃ v, vs = [v] ∧ Pk K F H d v := by
  obtain ⟨v, ws, rfl, h1, h2⟩ := h
  have h2 : ws = [] := h2
  subst h2
  exact ⟨v, rfl, h1⟩
theorem PkL.two {d e : D} {vs : List V} (h : PkL K F H [d, e] vs) : ∃ v w, vs = [v, w] ∧ Pk K F H d v ∧ Pk K F H e w := by
  obtain ⟨v, ws, rfl, h1, h2⟩ := h
  obtain ⟨w, rfl, h3⟩ := PkL.one h2
  exact ⟨v, w, rfl, h1, h3⟩
theorem ok_len : CallOk K (fun xs H Q => ∃ x n, xs = [x] ∧ LenV K x H n ∧ Q (.int n) H) lenD := by
  intro F H vs ds z Q e q h w
  match ds, h with
  | [.lst xs], h =>
    cases h
    obtain ⟨v, rfl, q1⟩ := q.one
    obtain ⟨a, us, rfl, ha, ra⟩ := q1.lst e
    exact ⟨.ref a, us.length, rfl, .inl ⟨us, .inl (.inl ha), rfl⟩, by rw [← ra.length]; exact w.fz e rfl⟩
  | [.tup xs], h =>
    cases h
    obtain ⟨v, rfl, q1⟩ := q.one
    obtain ⟨a, us, rfl, ha, ra⟩ := q1.tup
    exact ⟨.ref a, us.length, rfl, .inr ⟨us, same_seqT e ha, rfl⟩, by rw [← ra.length]; exact w.fz e rfl⟩
  | [.scr xs], h =>
    cases h
    obtain ⟨v, rfl, q1⟩ := q.one
    obtain ⟨a, us, rfl, ha, ra⟩ := q1.scr
    exact ⟨.ref a, us.length, rfl, .inl ⟨us, e.seq ha, rfl⟩, by rw [← ra.length]; exact w.fz e rfl⟩
  | [.str s], h =>
    obtain ⟨h1, rfl⟩ := ifs h
    obtain ⟨v, rfl, q1⟩ := q.one
    cases q1.str
    exact ⟨.str s, s.length, rfl, ⟨Nat.le_trans h1 SZ_le, rfl⟩, w.fz e rfl⟩
theorem ok_abs : CallOk K (fun xs H Q => ∃ i, xs = [.int i] ∧ Q (.int (if i < 0 then -i else i)) H) absD := by
  intro F H vs ds z Q e q h w
  match ds, h with
  | [.int i], h =>
    cases h
    obtain ⟨v, rfl, q1⟩ := q.one
    cases q1.int
    exact ⟨i, rfl, w.fz e rfl⟩
theorem ok_max2 : CallOk K (fun xs H Q => ∃ i j, xs = [.int i, .int j] ∧ Q (.int (if j > i then j else i)) H) max2D := by
  intro F H vs ds z Q e q h w
  match ds, h with
  | [.int i, .int j], h =>
    cases h
    obtain ⟨v, u, rfl, q1, q2⟩ := q.two
    cases q1.int; cases q2.int
    exact ⟨i, j, rfl, w.fz e rfl⟩
theorem ok_min2 : CallOk K (fun xs H Q => ∃ i j, xs = [.int i, .int j] ∧ Q (.int (if j < i then j else i)) H) min2D := by
  intro F H vs ds z Q e q h w
  match ds, h with
  | [.int i, .int j], h =>
    cases h
    obtain ⟨v, u, rfl, q1, q2⟩ := q.two
    cases q1.int; cases q2.int
    exact ⟨i, j, rfl, w.fz e rfl⟩
theorem ok_int : CallOk K (fun xs H Q => (∃ i, xs = [.int i] ∧ Q (.int i) H) ∨ ∃ k, xs = [.bl k] ∧ Q (.int (if k then 1 else 0)) H) intD := by
  intro F H vs ds z Q e q h w
  match ds, h with
  | [.int i], h =>
    cases h
    obtain ⟨v, rfl, q1⟩ := q.one
    cases q1.int
    exact .inl ⟨i, rfl, w.fz e rfl⟩
  | [.bl i], h =>
    cases h
    obtain ⟨v, rfl, q1⟩ := q.one
    cases q1.bl
    exact .inr ⟨i, rfl, w.fz e rfl⟩
theorem ints_rel : ∀ {xs : List D} {vs : List V} {l : List Int}, FzL K F xs vs → intsOf xs = some l → vs = l.map V.int
  | [], _, _, q, h => by
    have q : _ = [] := q
    cases h
    exact q
  | x :: xs, _, l, ⟨v, ws, e, q, r⟩, h => by
    cases x <;> first | (simp [intsOf] at h; done) | skip
    rename_i i
    obtain ⟨l', h1, rfl⟩ := Option.map_eq_some_iff.mp h
    cases (show v = .int i from q)
    rw [e, ints_rel r h1]
    rfl
theorem bools_rel : ∀ {xs : List D} {vs : List V} {l : List Bool}, FzL K F xs vs → boolsOf xs = some l → vs = l.map V.bl
  | [], _, _, q, h => by
    have q : _ = [] := q
    cases h
    exact q
  | x :: xs, _, l, ⟨v, ws, e, q, r⟩, h => by
    cases x <;> first | (simp [boolsOf] at h; done) | skip
    rename_i i
    obtain ⟨l', h1, rfl⟩ := Option.map_eq_some_iff.mp h
    cases (show v = .bl i from q)
    rw [e, bools_rel r h1]
    rfl
theorem ok_sum : CallOk K (rSum K) sumD := by
  intro F H vs ds z Q e q h w
  match ds, h with
  | [.lst xs], h =>
    obtain ⟨l, h1, rfl⟩ := Option.map_eq_some_iff.mp h
    obtain ⟨v, rfl, q1⟩ := q.one
    obtain ⟨a, us, rfl, ha, ra⟩ := q1.lst e
    have e2 := ints_rel ra h1
    subst e2
    exact ⟨a, l, rfl, .inl (.inl ha), w.fz e rfl⟩
theorem ok_all : CallOk K (rAll K) allD := by
  intro F H vs ds z Q e q h w
  match ds, h with
  | [.lst xs], h =>
    obtain ⟨l, h1, rfl⟩ := Option.map_eq_some_iff.mp h
    obtain ⟨v, rfl, q1⟩ := q.one
    obtain ⟨a, us, rfl, ha, ra⟩ := q1.lst e
    have e2 := bools_rel ra h1
    subst e2
    exact ⟨a, l, rfl, .inl (.inl ha), w.fz e rfl⟩
theorem ok_any : CallOk K (rAny K) anyD := by
  intro F H vs ds z Q e q h w
  match ds, h with
  | [.lst xs], h =>
    obtain ⟨l, h1, rfl⟩ := Option.map_eq_some_iff.mp h
    obtain ⟨v, rfl, q1⟩ := q.one
    obtain ⟨a, us, rfl, ha, ra⟩ := q1.lst e
    have e2 := bools_rel ra h1
    subst e2
    exact ⟨a, l, rfl, .inl (.inl ha), w.fz e rfl⟩
theorem ok_list : CallOk K (fun xs H Q => ∃ p ys, xs = [.ref p] ∧ (SqL K H p ys ∨ SqT K H p ys) ∧ ∀ l, H l = none → Q (.ref l) (upd H l (.lst ys))) listD := by
  intro F H vs ds z Q e q h w
  match ds, h with
  | [.lst xs], h =>
    cases h
    obtain ⟨v, rfl, q1⟩ := q.one
    obtain ⟨a, us, rfl, ha, ra⟩ := q1.lst e
    exact ⟨a, us, rfl, .inl (.inl (.inl ha)), fun l hl => w.lst e hl ra⟩
  | [.tup xs], h =>
    cases h
    obtain ⟨v, rfl, q1⟩ := q.one
    obtain ⟨a, us, rfl, ha, ra⟩ := q1.tup
    exact ⟨a, us, rfl, .inr (same_seqT e ha), fun l hl => w.lst e hl ra⟩
theorem ok_tuple : CallOk K (fun xs H Q => ∃ p ys, xs = [.ref p] ∧ ((SqL K H p ys ∧ ∀ l, H l = none → Q (.ref l) (upd H l (.tup ys))) ∨ (SqT K H p ys ∧ Q (.ref p) H))) tupleD := by
  intro F H vs ds z Q e q h w
  match ds, h with
  | [.lst xs], h =>
    cases h
    obtain ⟨v, rfl, q1⟩ := q.one
    obtain ⟨a, us, rfl, ha, ra⟩ := q1.lst e
    exact ⟨a, us, rfl, .inl ⟨.inl (.inl ha), fun l hl => w.tup e hl ra⟩⟩
  | [.tup xs], h =>
    cases h
    obtain ⟨v, rfl, q1⟩ := q.one
    obtain ⟨a, us, rfl, ha, ra⟩ := q1.tup
    exact ⟨a, us, rfl, .inr ⟨same_seqT e ha, w.fz e ⟨a, us, rfl, ha, ra⟩⟩⟩
theorem ok_divmod : CallOk K (fun xs H Q => ∃ i j, xs = [.int i, .int j] ∧ CDivP i j ∧ ∀ p, H p = none → Q (.ref p) (upd H p (.tup [.int (i / j), .int (i % j)]))) divmodD := by
  intro F H vs ds z Q e q h w
  match ds, h with
  | [.int i, .int j], h =>
    obtain ⟨⟨h1, h2⟩, rfl⟩ := ifs h
    obtain ⟨v, u, rfl, q1, q2⟩ := q.two
    cases q1.int; cases q2.int
    unfold DVB at h2
    refine ⟨i, j, rfl, ⟨h1, PyProof.noPylong_of_log2 ?_⟩, fun p hp => w.tup e hp ⟨_, _, rfl, rfl, _, _, rfl, rfl, rfl⟩⟩
    have h3 := PySem.Flt.log2_lt_of (show 0 < 8192 by decide) h2
    omega
end
/-! ### isinstance -/
def D.ty : D → String
  | .non => "NoneType"
  | .bl _ => "bool"
  | .int _ => "int"
  | .str _ => "str"
  | .tup _ => "tuple"
  | .lst _ => "list"
  | .scr _ => "list"
  | .dic _ => "dict"
  | .cst _ => "?"
  | .exo _ => "?"
def D.isTy (d : D) (T : String) : Bool := d.ty == T || (d.ty == "bool" && T == "int")
def D.notC : D → Bool
  | .cst _ => false
  | .exo _ => false
  | _ => true
def okTy (T : String) : Bool := ["int", "bool", "str", "tuple", "list"].contains T
theorem kit_of_ty {d : D} {T : String} (hd : d.notC = true) (hT : okTy T = true) : kitB d.ty T = some (d.isTy T) := by
  have h : T = "int" ∨ T = "bool" ∨ T = "str" ∨ T = "tuple" ∨ T = "list" := by
    simpa [okTy] using hT
  rcases h with rfl | rfl | rfl | rfl | rfl <;> cases d <;> first | (simp [D.notC] at hd; done) | (simp only [D.isTy, D.ty]; decide +kernel)
theorem Pk.tyX {K : PySem.W.Frag} {F H : Hp} {d : D} {v : V} (e : Same F H) (q : Pk K F H d v) (h : d.notC = true) : TyX K H v (.type d.ty) := by
  cases d with
  | non => cases q.non; exact .base .non
  | bl b => cases q.bl; exact .base (.bl b)
  | int b => cases q.int; exact .base (.int b)
  | str b => cases q.str; exact .base (.str b)
  | tup xs =>
    obtain ⟨a, vs, rfl, h1, _⟩ := q.tup
    rcases same_seqT e h1 with (h2 | ⟨o, h2⟩) | ⟨o, its, n, h2, h3, _⟩
    · exact .base (.tup h2)
    · exact .fTuple h2
    · exact .kTuple h2 h3
  | lst xs =>
    obtain ⟨a, vs, rfl, h1, _⟩ := q.lst e
    exact .base (.lst h1)
  | scr xs =>
    obtain ⟨a, vs, rfl, h1, _⟩ := q.scr
    rcases e.seq h1 with (h2 | ⟨o, h2⟩) | ⟨o, its, n, h2, h3, _⟩
    · exact .base (.lst h2)
    · exact .base (.frz h2)
    · exact .kList h2 h3
  | dic kvs =>
    obtain ⟨a, ws, rfl, h1, _⟩ := q.dic
    exact .base (.dK (e _ _ h1))
  | cst x => cases h
  | exo x => cases h
def isiD (T : String) : Op1 := fun d => if d.notC && okTy T then some (okB (d.isTy T)) else none
def isiTD (Ts : List String) : Op1 := fun d => if d.notC && Ts.all okTy then some (okB (Ts.any d.isTy)) else none
section
variable {X : Cx} {W : WX} {io : Nat → Option Addr} {e : Expr} {o : Opd} {pos p p2 : Pos}
/-- the name of a built-in type -/
structure IsT (X : Cx) (e : Expr) (T : String) : Prop where
  pe : PE X e (tC (.ty T))
theorem isT {x : Str} {T : String} (hm : X.mg x = none) (hv : bootBuiltins x = some (.type T)) (hg : Gl X x := by rfl) (hn : x ≠ "__name__" := by decide) (hd : (x == ("__debug__" : Str)) = false := by decide) : IsT X (.Name x pos) T := ⟨pe_bltn hg hm hv (v := .ty T) rfl hn hd⟩
theorem je_isi {T : String} {c : Expr} (hm : X.mg "isinstance" = none) (ho : JO X W io e o) (hT : IsT X c T) (hg : Gl X "isinstance" := by rfl)
    (h1 : starEach [e, c] X.env = (false, eval e X.env) :: starEach [c] X.env := by rfl) (h2 : starEach [c] X.env = (false, eval c X.env) :: starEach [] X.env := by rfl) (hpl : (backTo pos (starEach [c] X.env)).any (·.1) = false := by rfl) :
    JE X W io (.Call (.Name "isinstance" p) [e, c] [] pos) (mOp1 (isiD T) o) := by
  refine ⟨pei (pe_callB call_isi hg hm (by decide +kernel) (pa_cons ho.pe (pa_cons hT.pe pa_nil h2) h1) (by decide) (by decide) h1 hpl) fun σ H Q h => ?_⟩
  obtain ⟨P, F, ρ, S, h⟩ := h
  obtain ⟨hc, h⟩ := toE_if h
  refine tO_bind S h (fun _ _ _ _ => trivial) (fun p ρ1 v H1 F1 s1 S1 R1 h1 => ?_) (okV_v S hc)
  obtain ⟨z, e, h3⟩ := mk_some h1
  unfold get1 at e
  cases e1 : p.get ρ1 with
  | none => rw [e1] at e; cases e
  | some dx =>
    rw [e1] at e
    obtain ⟨h4, rfl⟩ := ifs e
    rw [Bool.and_eq_true] at h4
    have q := R1.pk S1 e1
    exact ⟨v, .ty T, _, _, _, rfl, .ty T, q.tyX S1.fh h4.1, kit_ty (kit_of_ty h4.1 h4.2), (h3.want S1).fz S1.fh rfl⟩
def IsTs (X : Cx) : List Expr → List String → Prop
  | [], [] => True
  | e :: es, T :: Ts => IsT X e T ∧ starEach (e :: es) X.env = (false, eval e X.env) :: starEach es X.env ∧ IsTs X es Ts
  | _, _ => False
theorem ists_nil : IsTs X [] [] := trivial
theorem ists_cons {T : String} {es : List Expr} {Ts : List String} (h : IsT X e T) (r : IsTs X es Ts) (hs : starEach (e :: es) X.env = (false, eval e X.env) :: starEach es X.env := by rfl) : IsTs X (e :: es) (T :: Ts) := ⟨h, hs, r⟩
def tTs : List String → TA
  | [] => tNil
  | T :: Ts => tCons (tC (.ty T)) (tTs Ts)
theorem IsTs.pa : ∀ {es : List Expr} {Ts : List String}, IsTs X es Ts → PA X es (tTs Ts)
  | [], [], _ => pa_nil
  | _ :: _, _ :: _, ⟨h, hs, r⟩ => pa_cons h.pe r.pa hs
  | [], _ :: _, h => h.elim
  | _ :: _, [], h => h.elim
theorem tTs_run : ∀ (Ts : List String) {σ : L2.St} {H : Hp} {Q : List V → Hp → Prop}, Q (Ts.map V.ty) H → tTs Ts σ H Q
  | [], _, _, _, q => q
  | _ :: Ts, _, _, _, q => tTs_run Ts q
theorem kitAny_of {K : PySem.W.Frag} {d : D} (hd : d.notC = true) : ∀ (Ts : List String), Ts.all okTy = true → PySem.W.kitAny K (.type d.ty) (Ts.map Value.type) = some (Ts.any d.isTy)
  | [], _ => rfl
  | T :: Ts, h => by
    rw [List.all_cons, Bool.and_eq_true] at h
    refine kitAny_cons (kit_ty (kit_of_ty hd h.1)) (fun hb => ?_) fun hb => ?_
    · rw [kitAny_of hd Ts h.2, List.any_cons, hb, Bool.false_or]
    · rw [List.any_cons, hb, Bool.true_or]
theorem je_isiT {Ts : List String} {es : List Expr} {k : Nat} (hm : X.mg "isinstance" = none) (ho : JO X W io e o) (hT : IsTs X es Ts) (hl : Ts.length ≤ 100 := by decide) (hg : Gl X "isinstance" := by rfl)
    (h1 : starEach [e, .Tuple es k p2] X.env = (false, eval e X.env) :: starEach [.Tuple es k p2] X.env := by rfl) (h2 : starEach [.Tuple es k p2] X.env = (false, eval (.Tuple es k p2) X.env) :: starEach [] X.env := by rfl) (hpl : (backTo pos (starEach [.Tuple es k p2] X.env)).any (·.1) = false := by rfl) :
    JE X W io (.Call (.Name "isinstance" p) [e, .Tuple es k p2] [] pos) (mOp1 (isiTD Ts) o) := by
  refine ⟨pei (pe_callB call_isiT hg hm (by decide +kernel) (pa_cons ho.pe (pa_cons (pe_tup hT.pa) pa_nil h2) h1) (by decide) (by decide) h1 hpl) fun σ H Q h => ?_⟩
  obtain ⟨P, F, ρ, S, h⟩ := h
  obtain ⟨hc, h⟩ := toE_if h
  refine tO_bind S h (fun _ _ _ _ => trivial) (fun p ρ1 v H1 F1 s1 S1 R1 h1 => ?_) (okV_v S hc)
  obtain ⟨z, e, h3⟩ := mk_some h1
  unfold get1 at e
  cases e1 : p.get ρ1 with
  | none => rw [e1] at e; cases e
  | some dx =>
    rw [e1] at e
    obtain ⟨h4, rfl⟩ := ifs e
    rw [Bool.and_eq_true] at h4
    refine tTs_run Ts ⟨by rw [List.length_map, sizeLine_eq]; omega, fun n hq => ?_⟩
    have q := R1.pk S1 e1
    have ex := Ext.laid (o := .tup (Ts.map V.ty)) S1.fh hq
    have q' : Pk X.K F1 (upd H1 n (.tup (Ts.map V.ty))) dx v := by
      rcases q with q | ⟨xs, a, vs, r1, r2, r3, r4⟩
      · exact .inl q
      · exact .inr ⟨xs, a, vs, r1, r2, ex.h _ _ r3, r4⟩
    refine ⟨v, n, Ts.map V.ty, _, Ts.map Value.type, _, rfl, upd_same, ?_, q'.tyX ex.fh h4.1, kitAny_of h4.1 Ts h4.2, (h3.want S1) _ _ _ ex rfl⟩
    have : ∀ l : List String, Paired ClsV (l.map V.ty) (l.map Value.type) := fun l => by
      induction l with
      | nil => exact .nil
      | cons a l ih => exact .cons (.ty a) ih
    exact this Ts
end
end Mi

namespace Mi
open PySem PySem.Spec PyProof.Rows L2

/-! ### tests -/
def D.tru : D → Option Bool
  | .non => some false
  | .bl b => some b
  | .int i => some (i != 0)
  | .str z => if z.length ≤ SZ then some ((z.length : Int) != 0) else none
  | .tup xs => some (!xs.isEmpty)
  | .lst xs => some (!xs.isEmpty)
  | .scr xs => some (!xs.isEmpty)
  | .dic xs => some (!xs.isEmpty)
  | .cst _ => none
  | .exo _ => none
def mkT (o : Option Bool) (ρ : Env) : R Bool := match o with
  | some z => .ok z ρ
  | none => .no
def mTru (o : Opd) : Te := fun ρ => if okV ρ o then (o.run ρ).bind fun p ρ1 => mkT ((p.get ρ1).bind D.tru) ρ1 else .no
/-- an expression that gives a bool, as a test -/
def toT (m : Ex) : Te := fun ρ => (m ρ).bind fun r ρ1 => match r with
  | .fz (.bl b) => .ok b ρ1
  | _ => .no
section
variable {K : PySem.W.Frag} {W : WX} {io : Nat → Option Addr} {P F F' : Hp} {σ : L2.St} {H : Hp} {ρ : Env}
theorem toT_if {Q : Bool → Hp → Prop} {c : Bool} {r : R Bool} (h : ToT K W io P F σ Q (if c then r else .no)) : c = true ∧ ToT K W io P F σ Q r := by
  cases c with
  | true => exact ⟨rfl, h⟩
  | false => exact h.elim
theorem mkT_some {Q : Bool → Hp → Prop} {o : Option Bool} (h : ToT K W io P F σ Q (mkT o ρ)) : ∃ z, o = some z ∧ ToT K W io P F σ Q (.ok z ρ) := by
  cases o with
  | none => exact h.elim
  | some z => exact ⟨z, rfl, h⟩
theorem toT_core {m : Ex} {Q : Bool → Hp → Prop} (h : tJT K W io (toT m) σ H Q) : tJ K W io m σ H fun x H' => ∃ k, x = .bl k ∧ Q k H' := by
  obtain ⟨P, F, ρ, S, h⟩ := h
  refine ⟨P, F, ρ, S, ?_⟩
  unfold toT at h
  cases e : m ρ with
  | no => rw [e] at h; exact h
  | ex c ρ1 => rw [e] at h; exact h
  | ok r ρ1 =>
    rw [e] at h
    cases r with
    | io xs => exact (show False from h).elim
    | ow xs => exact (show False from h).elim
    | fz d =>
      cases d <;> first | (exact (show False from h).elim) | skip
      rename_i b
      intro v H' F' s S' r
      cases (show v = .bl b from r)
      exact ⟨b, rfl, (show ∀ H' F', Same F F' → St K io P F' ρ1 σ H' → Q b H' from h) H' F' s S'⟩
/-- an operand, then the rest (a test) -/
theorem tO_bindT {o : Opd} {f : Pd → Env → R Bool} {Q : Bool → Hp → Prop} {Q' : VK} (S : St K io P F ρ σ H) (h : ToT K W io P F σ Q ((o.run ρ).bind f))
    (k : ∀ p ρ1 v H1 F1, Same F F1 → St K io P F1 ρ1 σ H1 → PdR K F1 σ v p → ToT K W io P F1 σ Q (f p ρ1) → Q' v H1) (hs : ∀ i, o = .v i → ∃ v, σ[i]? = some (some v)) : tO K W io o σ H Q' := by
  cases o with
  | v i =>
    obtain ⟨v, e⟩ := hs i rfl
    exact ⟨v, e, k (.i i) ρ v H F (Same.refl _) S e h⟩
  | e m =>
    have e : ((Opd.e m).run ρ).bind f = (m ρ).bind fun x ρ1 => f (.d x.d) ρ1 := by
      show R.bind ((m ρ).bind fun x ρ1 => .ok (.d x.d) ρ1) f = _
      cases m ρ <;> rfl
    rw [e] at h
    refine tJ_bindT S h fun r ρ1 v H1 F1 s1 S1 R1 h1 => ?_
    obtain ⟨F1', s', S1', q⟩ := S1.cool R1
    exact k (.d r.d) ρ1 v H1 F1' (s1.trans s') S1' q (h1.up s')
end
theorem FzK.isEmpty {K : PySem.W.Frag} {F : Hp} : ∀ {ds : List (Key × D)} {ws : List (Key × V)}, FzK K F ds ws → ds.isEmpty = ws.isEmpty
  | [], _, q => by
    have q : _ = [] := q
    rw [q]
    rfl
  | (_, _) :: _, _, ⟨v, w2, e, _, _⟩ => by rw [e]; rfl
theorem Pk.tru {K : PySem.W.Frag} {F H : Hp} {d : D} {v : V} {k : Bool} (e : Same F H) (q : Pk K F H d v) (h : d.tru = some k) : TruV K v H k := by
  cases d with
  | non => cases q.non; cases h; exact rfl
  | bl b => cases q.bl; cases h; exact rfl
  | int i => cases q.int; cases h; exact rfl
  | str z =>
    cases q.str
    simp only [D.tru] at h
    split at h
    · rename_i h1
      cases h
      exact ⟨Nat.le_trans h1 SZ_le, rfl⟩
    · cases h
  | tup xs =>
    obtain ⟨a, vs, rfl, h1, h2⟩ := q.tup
    cases h
    exact .inr (.inl ⟨vs, same_seqT e h1, by rw [h2.isEmpty]⟩)
  | lst xs =>
    obtain ⟨a, vs, rfl, h1, h2⟩ := q.lst e
    cases h
    exact .inl ⟨vs, .inl (.inl h1), by rw [h2.isEmpty]⟩
  | scr xs =>
    obtain ⟨a, vs, rfl, h1, h2⟩ := q.scr
    cases h
    exact .inl ⟨vs, e.seq h1, by rw [h2.isEmpty]⟩
  | dic xs =>
    obtain ⟨a, vs, rfl, h1, h2⟩ := q.dic
    cases h
    exact .inr (.inr ⟨vs, e _ _ h1, by rw [h2.isEmpty]⟩)
  | cst x => cases h
  | exo x => cases h
section
variable {X : Cx} {W : WX} {io : Nat → Option Addr} {a b c : Expr} {o oa ob oc : Opd} {ma mb : Ex} {ta tb : Te} {rest : List Expr} {pos : Pos}
theorem jt_val (ho : JO X W io a o) (he : ∀ whole, isTrue a X.env whole = (do let v ← whole; standAt a.pos; holding [v] (truthy v)) := by intro _; rfl) : JT X W io a (mTru o) := by
  refine ⟨pti (pt_truth ho.pe he) fun σ H Q h => ?_⟩
  obtain ⟨P, F, ρ, S, h⟩ := h
  obtain ⟨hc, h⟩ := toT_if h
  refine tO_bindT S h (fun p ρ1 v H1 F1 s1 S1 R1 h1 => ?_) (okV_v S hc)
  obtain ⟨k, e, h2⟩ := mkT_some h1
  obtain ⟨d, e1, e2⟩ := Option.bind_eq_some_iff.mp e
  exact ⟨k, (R1.pk S1 e1).tru S1.fh e2, h2 H1 F1 (Same.refl _) S1⟩
theorem jt_cmp {op : CmpOp} {r : R2} {f : Op2} (ho : OpR X (compareOp op) r) (hf : OpOk X.K r f) (hm : behindInMarks op b = false) (ha : JO X W io a oa) (hb : JO X W io b ob) : JT X W io (.Compare a [op] [b] pos) (toT (mOp2 f oa ob)) :=
  ⟨pti (pt_cmpR ho ha.pe hb.pe hm) fun _ _ _ h => op2_core hf (toT_core h)⟩
/-! ### chains -/
def mChain (f f' : Op2) (a b c : Opd) : Ex := fun ρ => if okV ρ a && okV ρ b && okV ρ c then (a.run ρ).bind fun p ρ1 => (b.run ρ1).bind fun q ρ2 => match get2 f ρ2 p q with
  | some (.fz (.bl true)) => (c.run ρ2).bind fun r ρ3 => mk (get2 f' ρ3 q r) ρ3
  | some (.fz (.bl false)) => .ok (okB false) ρ2
  | _ => .no else .no
theorem get2_some {f : Op2} {ρ : Env} {p q : Pd} {z : Sl} (h : get2 f ρ p q = some z) : ∃ x y, p.get ρ = some x ∧ q.get ρ = some y ∧ f x y = some z := by
  unfold get2 at h
  cases e1 : p.get ρ with
  | none => rw [e1] at h; cases h
  | some x =>
    cases e2 : q.get ρ with
    | none => rw [e1, e2] at h; cases h
    | some y =>
      rw [e1, e2] at h
      exact ⟨x, y, rfl, rfl, h⟩
theorem okV_keep {K : PySem.W.Frag} {io : Nat → Option Addr} {P F H : Hp} {σ : L2.St} {ρ : Env} {o : Opd} (S : St K io P F ρ σ H) (h : okV ρ o = true) : ∀ i, o = .v i → ∃ v, σ[i]? = some (some v) := okV_v S h
theorem chain_core {r r' : R2} {f f' : Op2} (hf : OpOk X.K r f) (hf' : OpOk X.K r' f') {σ : L2.St} {H : Hp} {Q : VK} (h : tJ X.K W io (mChain f f' oa ob oc) σ H Q) : tChain r r' (tO X.K W io oa) (tO X.K W io ob) (tO X.K W io oc) σ H Q := by
  obtain ⟨P, F, ρ, S, h⟩ := h
  obtain ⟨hc, h⟩ := toE_if h
  rw [Bool.and_eq_true, Bool.and_eq_true] at hc
  refine tO_bind S h (fun _ _ _ _ => trivial) (fun p ρ1 v H1 F1 s1 S1 R1 h1 => ?_) (okV_v S hc.1.1)
  refine tO_bind S1 h1 (fun _ _ _ _ => trivial) (fun q ρ2 u H2 F2 s2 S2 R2 h2 => ?_) (okV_v S hc.1.2)
  cases e : get2 f ρ2 p q with
  | none => rw [e] at h2; exact (show False from h2).elim
  | some z =>
    obtain ⟨x, y, e1, e2, e3⟩ := get2_some e
    rw [e] at h2
    refine hf F2 H2 v u x y z _ S2.fh ((R1.mono s2).pk S2 e1) (R2.pk S2 e2) e3 fun w H3 F3 ex rt => ?_
    cases z with
    | io xs => exact rt.elim
    | ow xs => exact (show False from h2).elim
    | fz d =>
      cases d <;> first | (exact (show False from h2).elim) | skip
      rename_i k
      cases (show w = .bl k from rt)
      refine ⟨k, rfl, ?_⟩
      cases k with
      | false =>
        rw [if_neg Bool.false_ne_true]
        exact (show ∀ v H' F', Same F2 F' → _ from h2) _ H3 F3 ex.f (S2.ext ex) rfl
      | true =>
        rw [if_pos rfl]
        have S3 := S2.ext ex
        have h3 : ToE X.K W io P F3 σ Q ((oc.run ρ2).bind fun r ρ3 => mk (get2 f' ρ3 q r) ρ3) := ToE.up ex.f h2
        refine tO_bind S3 h3 (fun _ _ _ _ => trivial) (fun r ρ4 w H4 F4 s4 S4 R4 h4 => ?_) (fun i ei => okV_v S hc.2 i ei)
        obtain ⟨z', e', h5⟩ := mk_some h4
        obtain ⟨x', y', e1', e2', e3'⟩ := get2_some e'
        exact hf' F4 H4 u w x' y' z' Q S4.fh ((R2.mono (ex.f.trans s4)).pk S4 e1') (R4.pk S4 e2') e3' (h5.want S4)
theorem je_chain {op op' : CmpOp} {r r' : R2} {f f' : Op2} (ho : OpR X (compareOp op) r) (hf : OpOk X.K r f) (ho' : OpR X (compareOp op') r') (hf' : OpOk X.K r' f') (ha : JO X W io a oa) (hb : JO X W io b ob) (hc : JO X W io c oc)
    (hm : lastMarks [op, op'] [b, c] = false := by with_unfolding_all rfl) : JE X W io (.Compare a [op, op'] [b, c] pos) (mChain f f' oa ob oc) := ⟨pei (pe_chain ho ho' ha.pe hb.pe hc.pe hm) fun _ _ _ h => chain_core hf hf' h⟩
theorem jt_chain {op op' : CmpOp} {r r' : R2} {f f' : Op2} (ho : OpR X (compareOp op) r) (hf : OpOk X.K r f) (ho' : OpR X (compareOp op') r') (hf' : OpOk X.K r' f') (ha : JO X W io a oa) (hb : JO X W io b ob) (hc : JO X W io c oc)
    (hm : lastMarks [op, op'] [b, c] = false := by with_unfolding_all rfl) : JT X W io (.Compare a [op, op'] [b, c] pos) (toT (mChain f f' oa ob oc)) := ⟨pti (pt_chain ho ho' ha.pe hb.pe hc.pe hm) fun _ _ _ h => chain_core hf hf' (toT_core h)⟩
/-! ### and, or, not -/
structure JW (X : Cx) (W : WX) (io : Nat → Option Addr) (e : Expr) (m : Te) : Prop where
  pw : PW X e (tJT X.K W io m)
theorem JW.jt {e : Expr} {m : Te} (h : JW X W io e m) : JT X W io e m := ⟨h.pw.pt⟩
theorem pwi {e : Expr} {t t' : TT} (h : PW X e t) (f : ∀ σ H Q, t' σ H Q → t σ H Q) : PW X e t' := ⟨fun wh pins s σ H Q I q => h.run wh pins s σ H Q I (f σ H Q q)⟩
def mAndT (a b : Te) : Te := fun ρ => (a ρ).bind fun c ρ1 => if c then b ρ1 else .ok false ρ1
def mOrT (a b : Te) : Te := fun ρ => (a ρ).bind fun c ρ1 => if c then .ok true ρ1 else b ρ1
def mNotT (a : Te) : Te := fun ρ => (a ρ).bind fun c ρ1 => .ok (!c) ρ1
theorem jw_and1 (h : JT X W io a ta) : JW X W io (.BoolOp .And [a] pos) ta := ⟨pw_and1 h.pt⟩
theorem jw_or1 (h : JT X W io a ta) : JW X W io (.BoolOp .Or [a] pos) ta := ⟨pw_or1 h.pt⟩
theorem jw_and (ha : JT X W io a ta) (hb : JW X W io (.BoolOp .And (b :: rest) pos) tb) : JW X W io (.BoolOp .And (a :: b :: rest) pos) (mAndT ta tb) := by
  refine ⟨pwi (pw_and ha.pt hb.pw) fun σ H Q h => ?_⟩
  obtain ⟨P, F, ρ, S, h⟩ := h
  refine tJT_bindT S h fun c ρ1 H1 F1 s1 S1 h1 => ?_
  cases c with
  | true => exact ⟨P, F1, ρ1, S1, h1⟩
  | false =>
    rw [if_neg Bool.false_ne_true]
    exact h1 H1 F1 (Same.refl _) S1
theorem jw_or (ha : JT X W io a ta) (hb : JW X W io (.BoolOp .Or (b :: rest) pos) tb) : JW X W io (.BoolOp .Or (a :: b :: rest) pos) (mOrT ta tb) := by
  refine ⟨pwi (pw_or ha.pt hb.pw) fun σ H Q h => ?_⟩
  obtain ⟨P, F, ρ, S, h⟩ := h
  refine tJT_bindT S h fun c ρ1 H1 F1 s1 S1 h1 => ?_
  cases c with
  | true =>
    rw [if_pos rfl]
    exact h1 H1 F1 (Same.refl _) S1
  | false => exact ⟨P, F1, ρ1, S1, h1⟩
theorem jt_not (ha : JT X W io a ta) : JT X W io (.UnaryOp .Not a pos) (mNotT ta) := by
  refine ⟨pti (pt_not ha.pt) fun σ H Q h => ?_⟩
  obtain ⟨P, F, ρ, S, h⟩ := h
  exact tJT_bindT S h fun c ρ1 H1 F1 s1 S1 h1 => h1 H1 F1 (Same.refl _) S1
/-- .. as values -/
def mAnd (a b : Ex) : Ex := fun ρ => (a ρ).bind fun x ρ1 => match x with
  | .fz (.bl true) => b ρ1
  | .fz (.bl false) => .ok (okB false) ρ1
  | _ => .no
def mOr (a b : Ex) : Ex := fun ρ => (a ρ).bind fun x ρ1 => match x with
  | .fz (.bl false) => b ρ1
  | .fz (.bl true) => .ok (okB true) ρ1
  | _ => .no
def mNot (a : Ex) : Ex := fun ρ => (a ρ).bind fun x ρ1 => match x with
  | .fz (.bl c) => .ok (okB !c) ρ1
  | _ => .no
theorem je_one {op : BoolOp} (h : JE X W io a ma) : JE X W io (.BoolOp op [a] pos) ma := ⟨pe_one h.pe⟩
theorem je_and (ha : JE X W io a ma) (hb : JE X W io (.BoolOp .And (b :: rest) pos) mb) : JE X W io (.BoolOp .And (a :: b :: rest) pos) (mAnd ma mb) := by
  refine ⟨pei (pe_and ha.pe hb.pe) fun σ H Q h => ?_⟩
  obtain ⟨P, F, ρ, S, h⟩ := h
  refine tJ_bind S h fun x ρ1 v H1 F1 s1 S1 R1 h1 => ?_
  cases x with
  | io xs => exact R1.elim
  | ow xs => exact (show False from h1).elim
  | fz d =>
    cases d <;> first | (exact (show False from h1).elim) | skip
    rename_i k
    cases (show v = .bl k from R1)
    refine ⟨k, rfl, ?_⟩
    cases k with
    | true => exact ⟨P, F1, ρ1, S1, h1⟩
    | false =>
      rw [if_neg Bool.false_ne_true]
      exact (show ∀ v H' F', Same F1 F' → _ from h1) _ H1 F1 (Same.refl _) S1 rfl
theorem je_or (ha : JE X W io a ma) (hb : JE X W io (.BoolOp .Or (b :: rest) pos) mb) : JE X W io (.BoolOp .Or (a :: b :: rest) pos) (mOr ma mb) := by
  refine ⟨pei (pe_or ha.pe hb.pe) fun σ H Q h => ?_⟩
  obtain ⟨P, F, ρ, S, h⟩ := h
  refine tJ_bind S h fun x ρ1 v H1 F1 s1 S1 R1 h1 => ?_
  cases x with
  | io xs => exact R1.elim
  | ow xs => exact (show False from h1).elim
  | fz d =>
    cases d <;> first | (exact (show False from h1).elim) | skip
    rename_i k
    cases (show v = .bl k from R1)
    refine ⟨k, rfl, ?_⟩
    cases k with
    | false => exact ⟨P, F1, ρ1, S1, h1⟩
    | true =>
      rw [if_pos rfl]
      exact (show ∀ v H' F', Same F1 F' → _ from h1) _ H1 F1 (Same.refl _) S1 rfl
theorem je_not (ha : JE X W io a ma) : JE X W io (.UnaryOp .Not a pos) (mNot ma) := by
  refine ⟨pei (pe_not ha.pe) fun σ H Q h => ?_⟩
  obtain ⟨P, F, ρ, S, h⟩ := h
  refine tJ_bind S h fun x ρ1 v H1 F1 s1 S1 R1 h1 => ?_
  cases x with
  | io xs => exact R1.elim
  | ow xs => exact (show False from h1).elim
  | fz d =>
    cases d <;> first | (exact (show False from h1).elim) | skip
    rename_i k
    cases (show v = .bl k from R1)
    exact ⟨k, rfl, (show ∀ v H' F', Same F1 F' → _ from h1) _ H1 F1 (Same.refl _) S1 rfl⟩
def mIf (t : Te) (a b : Ex) : Ex := fun ρ => (t ρ).bind fun c ρ1 => if c then a ρ1 else b ρ1
theorem je_if (ht : JT X W io c ta) (ha : JE X W io a ma) (hb : JE X W io b mb) : JE X W io (.IfExp c a b pos) (mIf ta ma mb) := by
  refine ⟨pei (pe_ifExp ht.pt ha.pe hb.pe) fun σ H Q h => ?_⟩
  obtain ⟨P, F, ρ, S, h⟩ := h
  refine tJT_bind S h fun c ρ1 H1 F1 s1 S1 h1 => ?_
  cases c with
  | true => exact ⟨P, F1, ρ1, S1, h1⟩
  | false => exact ⟨P, F1, ρ1, S1, h1⟩
end
/-! ### slices -/
def cutG {α : Type} (xs : List α) (lo hi : Option Int) : List α := (xs.drop (HT.sIx xs.length 0 lo)).take (HT.sIx xs.length xs.length hi - HT.sIx xs.length 0 lo)
def sliceD (lo hi : Option Int) : Op1
  | .lst xs => some (.ow (cutG xs lo hi))
  | .tup xs => some (.fz (.tup (cutG xs lo hi)))
  | .str z => if z.length ≤ SZ then some (.fz (.str (cutS z lo hi))) else none
  | _ => none
theorem cut_rel {K : PySem.W.Frag} {F : Hp} {ds : List D} {vs : List V} (q : FzL K F ds vs) (lo hi : Option Int) : FzL K F (cutG ds lo hi) (cutV vs lo hi) := by
  unfold cutG cutV
  rw [q.length]
  exact (q.drop _).take _
theorem cut_whole {α : Type} {xs : List α} {lo hi : Option Int} (h : HT.sIx xs.length 0 lo = 0 ∧ HT.sIx xs.length xs.length hi = xs.length) : cutG xs lo hi = xs := by
  unfold cutG
  rw [h.1, h.2]
  simp
/-- a part of a slice: left out, or an int -/
inductive Part where
  | no | e (o : Opd)
def Part.run (ρ : Env) : Part → R (Option Int)
  | .no => .ok none ρ
  | .e o => if okV ρ o then (o.run ρ).bind fun p ρ1 => match p.get ρ1 with
    | some (.int i) => .ok (some i) ρ1
    | _ => .no else .no
def mSl (o : Opd) (lo hi : Part) : Ex := fun ρ => if okV ρ o then (o.run ρ).bind fun p ρ1 => (lo.run ρ1).bind fun l ρ2 => (hi.run ρ2).bind fun h ρ3 => mk (get1 (sliceD l h) ρ3 p) ρ3 else .no
abbrev rSlAll (K : PySem.W.Frag) : V → Option Int → Option Int → Hp → VK → Prop := fun x lo hi H Q => rSlL K x lo hi H Q ∨ rSlA K x lo hi H Q ∨ rSlS x lo hi H Q
theorem slr_all {X : Cx} : SlR X (rSlAll X.K) := sl_list.or (sl_tupA.or sl_str)
theorem ok_slice {K : PySem.W.Frag} {lo hi : Option Int} {F H : Hp} {x : V} {dx : D} {z : Sl} {Q : VK} (e : Same F H) (q : Pk K F H dx x) (h : sliceD lo hi dx = some z) (w : Want K F H z Q) : rSlAll K x lo hi H Q := by
  cases dx <;> first | (simp [sliceD] at h; done) | skip
  · rename_i s
    cases q.str
    simp only [sliceD] at h
    obtain ⟨h1, rfl⟩ := ifs h
    exact .inr (.inr ⟨s, rfl, Nat.le_trans h1 SZ_le, w.fz e rfl⟩)
  · rename_i ds
    obtain ⟨a, vs, rfl, ha, ra⟩ := q.tup
    cases h
    refine .inr (.inl ⟨a, vs, rfl, same_seqT e ha, fun hw => ?_, fun _ p hp => w.tup e hp (cut_rel ra _ _)⟩)
    refine w.fz e ⟨a, vs, rfl, ha, ?_⟩
    rw [← ra.length] at hw
    rw [cut_whole hw]
    exact ra
  · rename_i ds
    obtain ⟨a, vs, rfl, ha, ra⟩ := q.lst e
    cases h
    exact .inl ⟨a, vs, rfl, .inl (.inl ha), fun p hp => w.lst e hp (cut_rel ra _ _)⟩
def JPart (X : Cx) (W : WX) (io : Nat → Option Addr) : Option Expr → Part → Prop
  | none, .no => True
  | some e, .e o => JO X W io e o
  | _, _ => False
def tPartO (K : PySem.W.Frag) (W : WX) (io : Nat → Option Addr) : Part → TO
  | .no => tNoPart
  | .e o => tPart (tO K W io o)
theorem JPart.po {X : Cx} {W : WX} {io : Nat → Option Addr} : ∀ {e : Option Expr} {p : Part}, JPart X W io e p → PO X e (tPartO X.K W io p)
  | none, .no, _ => po_none
  | some _, .e _, h => po_some (JO.pe h)
  | none, .e _, h => h.elim
  | some _, .no, h => h.elim
theorem part_bind {K : PySem.W.Frag} {W : WX} {io : Nat → Option Addr} {P F : Hp} {σ : L2.St} {Q : VK} {H : Hp} {ρ : Env} {pt : Part} {f : Option Int → Env → R Sl} {Q' : Option Int → Hp → Prop} (S : St K io P F ρ σ H) (h : ToE K W io P F σ Q ((pt.run ρ).bind f))
    (k : ∀ i ρ1 H1 F1, Same F F1 → St K io P F1 ρ1 σ H1 → ToE K W io P F1 σ Q (f i ρ1) → Q' i H1) : tPartO K W io pt σ H Q' := by
  cases pt with
  | no => exact k none ρ H F (Same.refl _) S h
  | e o =>
    show tO K W io o σ H fun x H1 => ∃ i, x = .int i ∧ Q' (some i) H1
    have h' : ToE K W io P F σ Q ((if okV ρ o = true then (o.run ρ).bind fun p ρ1 => (match p.get ρ1 with
      | some (.int i) => .ok (some i) ρ1
      | _ => .no : R (Option Int)) else .no).bind f) := h
    by_cases hc : okV ρ o = true
    · rw [if_pos hc, R.bind_assoc] at h'
      refine tO_bind S h' (fun _ _ _ _ => trivial) (fun p ρ1 v H1 F1 s1 S1 R1 h1 => ?_) (okV_v S hc)
      cases e : p.get ρ1 with
      | none => rw [e] at h1; exact (show False from h1).elim
      | some d =>
        rw [e] at h1
        cases d <;> first | (exact (show False from h1).elim) | skip
        rename_i i
        cases (R1.pk S1 e).int
        exact ⟨i, rfl, k (some i) ρ1 H1 F1 s1 S1 h1⟩
    · rw [if_neg hc] at h'
      exact h'.elim
theorem je_slice {X : Cx} {W : WX} {io : Nat → Option Addr} {e : Expr} {lo hi : Option Expr} {o : Opd} {pl ph : Part} {p2 pos : Pos} (ho : JO X W io e o) (hl : JPart X W io lo pl) (hh : JPart X W io hi ph) : JE X W io (.Subscript e (.Slice lo hi none p2) pos) (mSl o pl ph) := by
  refine ⟨pei (pe_slice slr_all ho.pe hl.po hh.po) fun σ H Q h => ?_⟩
  obtain ⟨P, F, ρ, S, h⟩ := h
  obtain ⟨hc, h⟩ := toE_if h
  refine tO_bind S h (fun _ _ _ _ => trivial) (fun p ρ1 v H1 F1 s1 S1 R1 h1 => ?_) (okV_v S hc)
  refine part_bind S1 h1 fun l ρ2 H2 F2 s2 S2 h2 => ?_
  refine part_bind S2 h2 fun u ρ3 H3 F3 s3 S3 h3 => ?_
  obtain ⟨z, e, h4⟩ := mk_some h3
  unfold get1 at e
  cases e1 : p.get ρ3 with
  | none => rw [e1] at e; cases e
  | some dx =>
    rw [e1] at e
    exact ok_slice S3.fh ((R1.mono (s2.trans s3)).pk S3 e1) e (h4.want S3)
end Mi

namespace Mi
open PySem PySem.Spec PyProof.Rows L2

inductive SR where
  | nx (ρ : Env) | rt (r : Sl) (ρ : Env) | bk (ρ : Env) | ct (ρ : Env) | ex (c : Str) (ρ : Env) | no
abbrev Sm := Env → SR
def ToS (K : PySem.W.Frag) (W : WX) (io : Nat → Option Addr) (P F : Hp) (D : Ends) (r : SR) : Prop := match r with
  | .nx ρ' => ∀ σ' H' F', Same F F' → St K io P F' ρ' σ' H' → D.nx σ' H'
  | .rt r ρ' => ∀ v σ' H' F', Same F F' → St K io P F' ρ' σ' H' → Rel K P F' ρ' σ' H' v r → D.rt v H'
  | .bk ρ' => ∀ σ' H' F', Same F F' → St K io P F' ρ' σ' H' → D.bk σ' H'
  | .ct ρ' => ∀ σ' H' F', Same F F' → St K io P F' ρ' σ' H' → D.ct σ' H'
  | .ex c ρ' => ∀ σ' H' F', Same F F' → St K io P F' ρ' σ' H' → W (excV K c) none σ' H'
  | .no => False
def tS (K : PySem.W.Frag) (W : WX) (io : Nat → Option Addr) (m : Sm) : TS := fun D σ H => ∃ P F ρ, St K io P F ρ σ H ∧ ToS K W io P F D (m ρ)
structure JS (X : Cx) (W : WX) (io : Nat → Option Addr) (s : Stmt) (m : Sm) : Prop where
  ps : PS X s (tS X.K W io m)
structure JSs (X : Cx) (W : WX) (io : Nat → Option Addr) (s : List Stmt) (m : Sm) : Prop where
  ps : PSs X s (tS X.K W io m)
theorem psi {X : Cx} {s : Stmt} {t t' : TS} (h : PS X s t) (f : ∀ D σ H, t' D σ H → t D σ H) : PS X s t' := ⟨fun pins s σ H D I q => h.run pins s σ H D I (f D σ H q)⟩
theorem pssi {X : Cx} {s : List Stmt} {t t' : TS} (h : PSs X s t) (f : ∀ D σ H, t' D σ H → t D σ H) : PSs X s t' := ⟨fun pins s σ H D I q => h.run pins s σ H D I (f D σ H q)⟩
/-- behind an expression, in a statement -/
def R.toS {α : Type} (r : R α) (f : α → Env → SR) : SR := match r with
  | .ok a ρ => f a ρ
  | .ex c ρ => .ex c ρ
  | .no => .no
section
variable {K : PySem.W.Frag} {W : WX} {io : Nat → Option Addr} {P F F' : Hp} {σ : L2.St} {H : Hp} {ρ : Env} {D : Ends}
theorem ToS.up {r : SR} (e : Same F F') (h : ToS K W io P F D r) : ToS K W io P F' D r := by
  cases r with
  | nx ρ' => exact fun σ' H' F2 s => h σ' H' F2 (e.trans s)
  | rt r ρ' => exact fun v σ' H' F2 s => h v σ' H' F2 (e.trans s)
  | bk ρ' => exact fun σ' H' F2 s => h σ' H' F2 (e.trans s)
  | ct ρ' => exact fun σ' H' F2 s => h σ' H' F2 (e.trans s)
  | ex c ρ' => exact fun σ' H' F2 s => h σ' H' F2 (e.trans s)
  | no => exact h
theorem ToS.ends {D' : Ends} {r : SR} (h : ToS K W io P F D r) (h1 : ∀ σ H, D.nx σ H → D'.nx σ H) (h2 : ∀ v H, D.rt v H → D'.rt v H) (h3 : ∀ σ H, D.bk σ H → D'.bk σ H) (h4 : ∀ σ H, D.ct σ H → D'.ct σ H) : ToS K W io P F D' r := by
  cases r with
  | nx ρ' => exact fun σ' H' F2 s S => h1 _ _ (h σ' H' F2 s S)
  | rt r ρ' => exact fun v σ' H' F2 s S R => h2 _ _ (h v σ' H' F2 s S R)
  | bk ρ' => exact fun σ' H' F2 s S => h3 _ _ (h σ' H' F2 s S)
  | ct ρ' => exact fun σ' H' F2 s S => h4 _ _ (h σ' H' F2 s S)
  | ex c ρ' => exact h
  | no => exact h
theorem tJ_toS {m : Ex} {f : Sl → Env → SR} {Q' : VK} (S : St K io P F ρ σ H) (h : ToS K W io P F D ((m ρ).toS f))
    (k : ∀ r ρ1 v H1 F1, Same F F1 → St K io P F1 ρ1 σ H1 → Rel K P F1 ρ1 σ H1 v r → ToS K W io P F1 D (f r ρ1) → Q' v H1) : tJ K W io m σ H Q' := by
  refine ⟨P, F, ρ, S, ?_⟩
  cases e : m ρ with
  | ok r ρ1 =>
    rw [e] at h
    exact fun v H1 F1 s S1 R1 => k r ρ1 v H1 F1 s S1 R1 (h.up s)
  | ex c ρ1 =>
    rw [e] at h
    exact fun H' F' s S' => h σ H' F' s S'
  | no =>
    rw [e] at h
    exact h
theorem tJT_toS {m : Te} {f : Bool → Env → SR} {Q' : Bool → Hp → Prop} (S : St K io P F ρ σ H) (h : ToS K W io P F D ((m ρ).toS f))
    (k : ∀ b ρ1 H1 F1, Same F F1 → St K io P F1 ρ1 σ H1 → ToS K W io P F1 D (f b ρ1) → Q' b H1) : tJT K W io m σ H Q' := by
  refine ⟨P, F, ρ, S, ?_⟩
  cases e : m ρ with
  | ok r ρ1 =>
    rw [e] at h
    exact fun H1 F1 s S1 => k r ρ1 H1 F1 s S1 (h.up s)
  | ex c ρ1 =>
    rw [e] at h
    exact fun H' F' s S' => h σ H' F' s S'
  | no =>
    rw [e] at h
    exact h
end
/-! ### blocks -/
def sNil : Sm := .nx
def sSeq (a b : Sm) : Sm := fun ρ => match a ρ with
  | .nx ρ1 => b ρ1
  | r => r
section
variable {X : Cx} {W : WX} {io : Nat → Option Addr} {st : Stmt} {rest : List Stmt} {m n : Sm} {e : Expr} {ma : Ex} {pos : Pos}
theorem jss_nil : JSs X W io [] sNil := ⟨pssi pss_nil fun D σ H h => by
  obtain ⟨P, F, ρ, S, h⟩ := h
  exact h σ H F (Same.refl _) S⟩
theorem jss_one (h : JS X W io st m) : JSs X W io [st] m := ⟨pss_one h.ps⟩
theorem jss_cons (h1 : JS X W io st m) (h2 : JSs X W io rest n) : JSs X W io (st :: rest) (sSeq m n) := ⟨pssi (pss_cons h1.ps h2.ps) fun D σ H h => by
  obtain ⟨P, F, ρ, S, h⟩ := h
  refine ⟨P, F, ρ, S, ?_⟩
  unfold sSeq at h
  cases e : m ρ with
  | nx ρ1 =>
    rw [e] at h
    exact fun σ' H' F' s S' => ⟨P, F', ρ1, S', h.up s⟩
  | rt r ρ1 => rw [e] at h; exact h
  | bk ρ1 => rw [e] at h; exact h
  | ct ρ1 => rw [e] at h; exact h
  | ex c ρ1 => rw [e] at h; exact h
  | no => rw [e] at h; exact h⟩
/-! ### small statements -/
def sPass : Sm := .nx
def sBreak : Sm := .bk
def sCont : Sm := .ct
def sDrop (m : Ex) : Sm := fun ρ => (m ρ).toS fun _ ρ1 => .nx ρ1
def sRet (m : Ex) : Sm := fun ρ => (m ρ).toS fun r ρ1 => .rt r ρ1
def sRetN : Sm := fun ρ => .rt (.fz .non) ρ
def sSet (i : Nat) (m : Ex) : Sm := fun ρ => (m ρ).toS fun r ρ1 => .nx (ρ1.set i (some r))
theorem js_pass : JS X W io (.Pass pos) sPass := ⟨psi ps_pass fun D σ H h => by
  obtain ⟨P, F, ρ, S, h⟩ := h
  exact h σ H F (Same.refl _) S⟩
theorem js_break : JS X W io (.Break pos) sBreak := ⟨psi ps_break fun D σ H h => by
  obtain ⟨P, F, ρ, S, h⟩ := h
  exact h σ H F (Same.refl _) S⟩
theorem js_cont : JS X W io (.Continue pos) sCont := ⟨psi ps_continue fun D σ H h => by
  obtain ⟨P, F, ρ, S, h⟩ := h
  exact h σ H F (Same.refl _) S⟩
theorem js_doc {x : Str} {j : Nat} {pos' : Pos} : JS X W io (.Expr (.Constant (.str x) j pos) pos') sPass := ⟨psi ps_doc fun D σ H h => by
  obtain ⟨P, F, ρ, S, h⟩ := h
  exact h σ H F (Same.refl _) S⟩
theorem js_expr (he : JE X W io e ma) (hs : swapsWith e none pos.line X.env = pure false := by rfl) : JS X W io (.Expr e pos) (sDrop ma) := ⟨psi (ps_expr he.pe hs) fun D σ H h => by
  obtain ⟨P, F, ρ, S, h⟩ := h
  exact tJ_toS S h fun r ρ1 v H1 F1 s S1 R1 h1 => h1 σ H1 F1 (Same.refl _) S1⟩
theorem js_ret (he : JE X W io e ma) : JS X W io (.Return (some e) pos) (sRet ma) := ⟨psi (ps_ret he.pe) fun D σ H h => by
  obtain ⟨P, F, ρ, S, h⟩ := h
  exact tJ_toS S h fun r ρ1 v H1 F1 s S1 R1 h1 => h1 v σ H1 F1 (Same.refl _) S1 R1⟩
theorem js_retN : JS X W io (.Return none pos) sRetN := ⟨psi ps_retN fun D σ H h => by
  obtain ⟨P, F, ρ, S, h⟩ := h
  exact h .non σ H F (Same.refl _) S rfl⟩
theorem js_set (i : Nat) {x : Str} {pos' : Pos} (hN : X.N.Nodup) (he : JE X W io e ma) (hi : X.N[i]? = some x := by rfl) (hx : Loc X.env.scope x := by first | exact Or.inl rfl | exact Or.inr rfl) (hs : swapsWith e (some (.Name x pos')) pos.line X.env = pure false := by rfl) (hf : X.fn x = true ∨ X.env.scope.names.lookup x = some .local := by first | exact .inl rfl | exact .inr rfl) :
    JS X W io (.Assign [.Name x pos'] e pos) (sSet i ma) := ⟨psi (ps_set hN hi hx he.pe hs hf) fun D σ H h => by
  obtain ⟨P, F, ρ, S, h⟩ := h
  exact tJ_toS S h fun r ρ1 v H1 F1 s S1 R1 h1 => h1 _ H1 F1 (Same.refl _) (S1.store R1)⟩
/-! ### targets -/
abbrev Tg := D → Env → Option Env
abbrev Tgs := List D → Env → Option Env
def tG (K : PySem.W.Frag) (io : Nat → Option Addr) (g : Tg) : TG := fun v σ H Q => ∃ P F ρ d, St K io P F ρ σ H ∧ Fz K F d v ∧ ∃ ρ', g d ρ = some ρ' ∧ ∀ σ' H' F', Same F F' → St K io P F' ρ' σ' H' → Q σ' H'
def tGs (K : PySem.W.Frag) (io : Nat → Option Addr) (g : Tgs) : TGs := fun vs σ H Q => ∃ P F ρ ds, St K io P F ρ σ H ∧ FzL K F ds vs ∧ ∃ ρ', g ds ρ = some ρ' ∧ ∀ σ' H' F', Same F F' → St K io P F' ρ' σ' H' → Q σ' H'
structure JG (X : Cx) (io : Nat → Option Addr) (e : Expr) (g : Tg) : Prop where
  pg : PG X e (tG X.K io g)
structure JGs (X : Cx) (io : Nat → Option Addr) (e : List Expr) (g : Tgs) : Prop where
  pgs : PGs X e (tGs X.K io g)
theorem pgi {e : Expr} {t t' : TG} (h : PG X e t) (f : ∀ v σ H Q, t' v σ H Q → t v σ H Q) : PG X e t' := ⟨fun pins s σ H v u Q I r q => h.run pins s σ H v u Q I r (f v σ H Q q)⟩
theorem pgsi {e : List Expr} {t t' : TGs} (h : PGs X e t) (f : ∀ v σ H Q, t' v σ H Q → t v σ H Q) : PGs X e t' := ⟨fun pins s σ H v u Q I r q => h.run pins s σ H v u Q I r (f v σ H Q q)⟩
def gNm (i : Nat) : Tg := fun d ρ => some (ρ.set i (some (.fz d)))
def gsNil : Tgs := fun ds ρ => match ds with
  | [] => some ρ
  | _ => none
def gsCons (g : Tg) (r : Tgs) : Tgs := fun ds ρ => match ds with
  | d :: ds => (g d ρ).bind fun ρ1 => r ds ρ1
  | [] => none
/-- a tuple's or list's items -/
def D.items : D → Option (List D)
  | .tup ds => some ds
  | .lst ds => some ds
  | _ => none
def gSeq (n : Nat) (g : Tgs) : Tg := fun d ρ => d.items.bind fun ds => if ds.length = n then g ds ρ else none
theorem jg_name (i : Nat) {x : Str} (hN : X.N.Nodup) (hi : X.N[i]? = some x := by rfl) (hx : Loc X.env.scope x := by first | exact Or.inl rfl | exact Or.inr rfl) (hf : X.fn x = true ∨ X.env.scope.names.lookup x = some .local := by first | exact .inl rfl | exact .inr rfl) : JG X io (.Name x pos) (gNm i) :=
  ⟨pgi (pg_name hN hi hx hf) fun v σ H Q h => by
    obtain ⟨P, F, ρ, d, S, q, ρ', e, h⟩ := h
    cases e
    exact h _ H F (Same.refl _) (S.store (r := .fz d) q)⟩
theorem jgs_nil : JGs X io [] gsNil := ⟨pgsi pgs_nil fun vs σ H Q h => by
  obtain ⟨P, F, ρ, ds, S, q, ρ', e, h⟩ := h
  cases ds with
  | cons _ _ => cases e
  | nil =>
    cases e
    exact ⟨q, h σ H F (Same.refl _) S⟩⟩
theorem jgs_cons {g : Tg} {r : Tgs} {es : List Expr} (h1 : JG X io e g) (h2 : JGs X io es r) (hs : (assignEach (e :: es) X.env).map (·.2) = assign e X.env :: (assignEach es X.env).map (·.2) := by rfl) : JGs X io (e :: es) (gsCons g r) :=
  ⟨pgsi (pgs_cons h1.pg h2.pgs hs) fun vs σ H Q h => by
    obtain ⟨P, F, ρ, ds, S, q, ρ', e, h⟩ := h
    cases ds with
    | nil => cases e
    | cons d ds =>
      obtain ⟨v, ws, rfl, q1, q2⟩ := q
      obtain ⟨ρ1, e1, e2⟩ := Option.bind_eq_some_iff.mp e
      exact ⟨v, ws, rfl, P, F, ρ, d, S, q1, ρ1, e1, fun σ1 H1 F1 s1 S1 => ⟨P, F1, ρ1, ds, S1, q2.mono s1, ρ', e2, fun σ2 H2 F2 s2 S2 => h σ2 H2 F2 (s1.trans s2) S2⟩⟩⟩
/-- a, b, .. = a tuple or a list of that length -/
theorem pg_seq {es : List Expr} {k : Nat} {t : TGs} {n : Nat} (hc : X.calm = true) (h : PGs X es t)
    (hn : (assignEach es X.env).length = n := by rfl) (hst : (assignEach es X.env).findIdx? (·.1) = none := by rfl) : PG X (.Tuple es k pos) (fun v σ H Q => gTup X.K n t v σ H Q ∨ gLst X.K n t v σ H Q) := by
  refine ⟨fun pins s σ H v u Q I r q => ?_⟩
  rcases q with q | q
  · exact (pg_tup hc h hn hst).run pins s σ H v u Q I r q
  · exact (pg_lst hc h hn hst).run pins s σ H v u Q I r q
theorem jg_seq {es : List Expr} {k : Nat} {g : Tgs} {n : Nat} (hc : X.calm = true) (h : JGs X io es g)
    (hn : (assignEach es X.env).length = n := by rfl) (hst : (assignEach es X.env).findIdx? (·.1) = none := by rfl) : JG X io (.Tuple es k pos) (gSeq n g) := ⟨pgi (pg_seq hc h.pgs hn hst) fun v σ H Q h => by
  obtain ⟨P, F, ρ, d, S, q, ρ', e, h⟩ := h
  obtain ⟨ds, e1, e2⟩ := Option.bind_eq_some_iff.mp e
  have hl : ds.length = n ∧ g ds ρ = some ρ' := by
    split at e2
    · rename_i hl
      exact ⟨hl, e2⟩
    · cases e2
  cases d <;> first | (cases e1; done) | skip
  · cases e1
    obtain ⟨a, vs, rfl, h1, h2⟩ := q
    exact .inl ⟨a, vs, rfl, same_seqT S.fh h1, by rw [← h2.length]; exact hl.1, P, F, ρ, ds, S, h2, ρ', hl.2, h⟩
  · cases e1
    obtain ⟨a, vs, rfl, h1, h2⟩ := q
    exact .inr ⟨a, vs, rfl, .inl (.inl (S.fh _ _ h1)), by rw [← h2.length]; exact hl.1, P, F, ρ, ds, S, h2, ρ', hl.2, h⟩⟩
/-- target = value (a frozen one) -/
def sAsg (g : Tg) (m : Ex) : Sm := fun ρ => (m ρ).toS fun r ρ1 => match g r.d ρ1 with
  | some ρ2 => .nx ρ2
  | none => .no
theorem js_asg {tg : Expr} {g : Tg} (he : JE X W io e ma) (hg : JG X io tg g) (hs : swapsWithSole [tg] e pos.line X.env = pure false := by rfl) (hw : swappedStores [tg] e X.env = pure none := by rfl)
    (h1 : (assignEach [tg] X.env).map (·.2) = [assign tg X.env] := by rfl) : JS X W io (.Assign [tg] e pos) (sAsg g ma) := ⟨psi (ps_asg he.pe hg.pg hs hw h1) fun D σ H h => by
  obtain ⟨P, F, ρ, S, h⟩ := h
  refine tJ_toS S h fun r ρ1 v H1 F1 s S1 R1 h1 => ?_
  obtain ⟨F1', s', S1', q⟩ := S1.cool R1
  cases e2 : g r.d ρ1 with
  | none => rw [e2] at h1; exact (show False from h1).elim
  | some ρ2 =>
    rw [e2] at h1
    exact ⟨P, F1', ρ1, r.d, S1', q, ρ2, e2, fun σ' H' F' s2 S2 => h1 σ' H' F' (s'.trans s2) S2⟩⟩
end
/-! ### several values at once -/
/-- a pending list of one's own is to stay -/
def held (P H : Hp) (v : V) : Sl → Hp
  | .ow _ => match v with
    | .ref a => fun b => if b = a then H a else P b
    | _ => P
  | _ => P
section
variable {K : PySem.W.Frag} {W : WX} {io : Nat → Option Addr} {P P' F F' : Hp} {σ : L2.St} {H H' : Hp} {ρ ρ' : Env}
theorem St.lessP (S : St K io P' F ρ σ H) (h : Same P P') : St K io P F ρ σ H where
  fh := S.fh
  ph := h.trans S.ph
  pf := fun a o e => S.pf a o (h a o e)
  len := S.len
  fz := S.fz
  ow := fun i xs q => by
    obtain ⟨a, vs, h1, h2, h3, h4, h5⟩ := S.ow i xs q
    exact ⟨a, vs, h1, h2, h3, h4, h.free h5⟩
  ia := S.ia
  ds := S.ds
theorem Rel.lessP {v : V} {r : Sl} (R : Rel K P' F ρ σ H v r) (h : Same P P') : Rel K P F ρ σ H v r := by
  cases r with
  | fz d => exact R
  | io xs => exact R
  | ow xs =>
    obtain ⟨a, vs, h1, h2, h3, h4, h5, h6⟩ := R
    exact ⟨a, vs, h1, h2, h3, h4, h.free h5, h6⟩
theorem St.hold {v : V} {r : Sl} (S : St K io P F ρ σ H) (R : Rel K P F ρ σ H v r) : Same P (held P H v r) ∧ St K io (held P H v r) F ρ σ H := by
  cases r with
  | fz d => exact ⟨Same.refl _, S⟩
  | io xs => exact R.elim
  | ow xs =>
    obtain ⟨a, vs, rfl, h2, h3, h4, h5, h6⟩ := R
    have hs : Same P (held P H (.ref a) (.ow xs)) := fun b o e => by
      show (if b = a then H a else P b) = some o
      rw [if_neg (ne_of_none e h5)]
      exact e
    refine ⟨hs, S.fh, fun b o e => ?_, fun b o e => ?_, S.len, S.fz, fun i ys q => ?_, S.ia, S.ds⟩
    · by_cases hb : b = a
      · subst hb
        have e : (if b = b then H b else P b) = some o := e
        rw [if_pos rfl] at e
        exact e
      · have e : (if b = a then H a else P b) = some o := e
        rw [if_neg hb] at e
        exact S.ph b o e
    · by_cases hb : b = a
      · subst hb
        exact h4
      · have e : (if b = a then H a else P b) = some o := e
        rw [if_neg hb] at e
        exact S.pf b o e
    · obtain ⟨b, us, e1, e2, e3, e4, e5⟩ := S.ow i ys q
      refine ⟨b, us, e1, e2, e3, e4, ?_⟩
      show (if b = a then H a else P b) = none
      have hb : b ≠ a := fun z => by
        subst z
        exact h6 i ys q e1
      rw [if_neg hb]
      exact e5
/-- it stood -/
theorem Rel.kept {v : V} {r : Sl} (R : Rel K P F ρ σ H v r) (s : Same F F') (S' : St K io (held P H v r) F' ρ' σ H') : Rel K P F' ρ' σ H' v r := by
  cases r with
  | fz d => exact Fz.mono s R
  | io xs => exact R
  | ow xs =>
    obtain ⟨a, vs, rfl, h2, h3, h4, h5, h6⟩ := R
    have ha : held P H (.ref a) (.ow xs) a = some (.lst vs) := by
      show (if a = a then H a else P a) = _
      rw [if_pos rfl]
      exact h2
    refine ⟨a, vs, rfl, S'.ph a _ ha, h3.mono s, S'.pf a _ ha, h5, fun i ys q e => ?_⟩
    obtain ⟨b, us, e1, _, _, _, e5⟩ := S'.ow i ys q
    rw [e] at e1
    cases e1
    rw [ha] at e5
    cases e5
/-- two values at once stand apart: the first stands behind the second's making -/
theorem St.store2 {v u : V} {r t : Sl} {i j : Nat} (S : St K io P F ρ σ H) (Rv : Rel K P F ρ σ H v r) (Ru : Rel K (held P H v r) F ρ σ H u t) (hP : St K io (held P H v r) F ρ σ H) (hij : i ≠ j) :
    St K io P F ((ρ.set i (some r)).set j (some t)) ((σ.set i (some v)).set j (some u)) H := by
  have S1 := S.store (i := i) Rv
  refine S1.store (i := j) ?_
  cases t with
  | fz d => exact Ru
  | io xs => exact Ru
  | ow xs =>
    obtain ⟨a, vs, rfl, h2, h3, h4, h5, h6⟩ := Ru
    have hsame : Same P (held P H v r) := (S.hold Rv).1
    refine ⟨a, vs, rfl, h2, h3, h4, hsame.free h5, fun k ys q e => ?_⟩
    by_cases hk : k = i
    · subst hk
      by_cases hl : k < ρ.length
      · have er : r = .ow ys := by
          rcases q with q | q
          · rw [set_self hl] at q; cases q; rfl
          · rw [set_self hl] at q; cases q; exact Rv.elim
        subst er
        obtain ⟨b, us, rfl, e2, _⟩ := Rv
        rw [set_self (by rw [← S.len]; exact hl)] at e
        cases e
        have ha : held P H (.ref a) (.ow ys) a = H a := if_pos rfl
        rw [ha, e2] at h5
        cases h5
      · rcases q with q | q
        · have := (List.getElem?_eq_some_iff.mp q).1
          rw [List.length_set] at this
          exact hl this
        · have := (List.getElem?_eq_some_iff.mp q).1
          rw [List.length_set] at this
          exact hl this
    · rw [set_other (Ne.symm hk)] at e
      refine h6 k ys ?_ e
      rcases q with q | q
      · rw [set_other (Ne.symm hk)] at q; exact .inl q
      · rw [set_other (Ne.symm hk)] at q; exact .inr q
end
/-- x, y = a, b -/
def sPar (i j : Nat) (a b : Ex) : Sm := fun ρ => (a ρ).toS fun r ρ1 => (b ρ1).toS fun t ρ2 => .nx ((ρ2.set i (some r)).set j (some t))
section
variable {X : Cx} {W : WX} {io : Nat → Option Addr} {a b c : Expr} {ma mb mc : Ex} {pos : Pos}
theorem tJ_toSP {K : PySem.W.Frag} {P P' F : Hp} {σ : L2.St} {ρ : Env} {H : Hp} {D : Ends} {m : Ex} {f : Sl → Env → SR} {Q' : VK} (S : St K io P' F ρ σ H) (e : Same P P') (h : ToS K W io P F D ((m ρ).toS f))
    (k : ∀ r ρ1 v H1 F1, Same F F1 → St K io P' F1 ρ1 σ H1 → Rel K P' F1 ρ1 σ H1 v r → ToS K W io P F1 D (f r ρ1) → Q' v H1) : tJ K W io m σ H Q' := by
  refine ⟨P', F, ρ, S, ?_⟩
  cases em : m ρ with
  | ok r ρ1 =>
    rw [em] at h
    exact fun v H1 F1 s S1 R1 => k r ρ1 v H1 F1 s S1 R1 (h.up s)
  | ex c ρ1 =>
    rw [em] at h
    exact fun H' F' s S' => h σ H' F' s (S'.lessP e)
  | no =>
    rw [em] at h
    exact h
theorem held_eq {K : PySem.W.Frag} {P F F2 : Hp} {σ : L2.St} {ρ ρ2 : Env} {H1 H2 : Hp} {v : V} {r : Sl} (R1 : Rel K P F ρ σ H1 v r) (S2 : St K io (held P H1 v r) F2 ρ2 σ H2) : held P H2 v r = held P H1 v r := by
  cases r with
  | fz d => rfl
  | io xs => rfl
  | ow xs =>
    obtain ⟨a, vs, rfl, q2, _⟩ := R1
    have ha : held P H1 (.ref a) (.ow xs) a = some (.lst vs) := by
      show (if a = a then H1 a else P a) = _
      rw [if_pos rfl]
      exact q2
    have h3 := S2.ph a _ ha
    funext b
    show (if b = a then H2 a else P b) = (if b = a then H1 a else P b)
    rw [h3, q2]
theorem js_par {i j : Nat} {x y : Str} {px py pt : Pos} {kt k2 : Nat} {pt2 : Pos} (hc : X.calm = true) (hN : X.N.Nodup) (ha : JE X W io a ma) (hb : JE X W io b mb) (hi : X.N[i]? = some x := by rfl) (hj : X.N[j]? = some y := by rfl) (hij : i ≠ j := by decide)
    (hx : X.env.scope.names.lookup x = some .local := by rfl) (hy : X.env.scope.names.lookup y = some .local := by rfl)
    (h1 : starEach [a, b] X.env = (false, eval a X.env) :: starEach [b] X.env := by rfl) (h2 : starEach [b] X.env = (false, eval b X.env) :: starEach [] X.env := by rfl)
    (hw : swappedStores [.Tuple [.Name x px, .Name y py] kt pt] (.Tuple [a, b] k2 pt2) X.env = pure (some [x, y]) := by rfl)
    (hs : swapsWithSole [.Tuple [.Name x px, .Name y py] kt pt] (.Tuple [a, b] k2 pt2) pos.line X.env = pure false := by rfl) :
    JS X W io (.Assign [.Tuple [.Name x px, .Name y py] kt pt] (.Tuple [a, b] k2 pt2) pos) (sPar i j ma mb) := ⟨psi (ps_par hc hN hi hj hij hx hy (pa_cons ha.pe (pa_cons hb.pe pa_nil h2) h1) hw hs) fun D σ H h => by
  obtain ⟨P, F, ρ, S, h⟩ := h
  refine tJ_toS S h fun r ρ1 v H1 F1 s S1 R1 h1 => ?_
  obtain ⟨e1, S1'⟩ := S1.hold R1
  refine tJ_toSP S1' e1 h1 fun t ρ2 u H2 F2 s2 S2 R2 h2 => ?_
  have S2' := S2.lessP e1
  have Rv := R1.kept s2 S2
  have key := held_eq R1 S2
  exact ⟨v, u, rfl, h2 _ H2 F2 (Same.refl _) (S2'.store2 (i := i) (j := j) Rv (by rw [key]; exact R2) (by rw [key]; exact S2) hij)⟩⟩
end
end Mi

namespace Mi
open PySem PySem.Spec PyProof.Rows L2 RZ

/-! ### x op= e -/
def iaddD : Op2
  | .int i, .int j => some (okI (i + j))
  | .str a, .str b => if a.length + b.length ≤ SZ then some (.fz (.str (a ++ b))) else none
  | _, _ => none
abbrev rIadd : R2 := fun x y H Q => (rI0 fun i j => .int (i + j)) x y H Q ∨ (∃ i j, x = .str i ∧ y = .str j ∧ i.length + j.length ≤ sizeLine ∧ Q (.str (i ++ j)) H)
theorem opr_iadd {X : Cx} : OpR X (inplaceOp .Add) rIadd := iop_add.or iop_add_str
theorem ok_iadd {K : PySem.W.Frag} : OpOk K rIadd iaddD := by
  intro F H x y dx dy z Q e qx qy h w
  cases dx <;> cases dy <;> first | (simp [iaddD] at h; done) | skip
  · rename_i i j
    cases qx.int; cases qy.int; cases h
    exact .inl ⟨i, j, rfl, rfl, w.fz e rfl⟩
  · rename_i i j
    cases qx.str; cases qy.str
    obtain ⟨h1, rfl⟩ := ifs h
    exact .inr ⟨i, j, rfl, rfl, Nat.le_trans h1 SZ_le, w.fz e rfl⟩
def sAug (i : Nat) (f : Op2) (m : Ex) : Sm := fun ρ => match ρ[i]? with
  | some (some (.fz d)) => (m ρ).toS fun y ρ1 => match f d y.d with
    | some z => .nx (ρ1.set i (some z))
    | none => .no
  | _ => .no
section
variable {X : Cx} {W : WX} {io : Nat → Option Addr} {e c : Expr} {ma : Ex} {mc : Te} {pos : Pos} {body els : List Stmt} {mb me : Sm}
theorem js_aug (i : Nat) {x : Str} {op : Operator} {r : R2} {f : Op2} {pos' : Pos} (hN : X.N.Nodup) (he : JE X W io e ma) (ho : OpR X (inplaceOp op) r) (hf : OpOk X.K r f) (hi : X.N[i]? = some x := by rfl) (hx : Loc X.env.scope x := by first | exact Or.inl rfl | exact Or.inr rfl)
    (hl : X.fn x = true ∨ X.env.scope.names.lookup x = some .local := by first | exact .inl rfl | exact .inr rfl) : JS X W io (.AugAssign (.Name x pos') op e pos) (sAug i f ma) := ⟨psi (ps_aug hN hi hx he.pe ho hl) fun D σ H h => by
  obtain ⟨P, F, ρ, S, h⟩ := h
  unfold sAug at h
  cases eq : ρ[i]? with
  | none => rw [eq] at h; exact (show False from h).elim
  | some o =>
    rw [eq] at h
    cases o with
    | none => exact (show False from h).elim
    | some s =>
      cases s <;> first | (exact (show False from h).elim) | skip
      rename_i d
      obtain ⟨v, h1, h2⟩ := S.fz i d eq
      refine ⟨v, h1, tJ_toS S h fun y ρ1 u H1 F1 s S1 R1 h3 => ?_⟩
      obtain ⟨F1', s', S1', q⟩ := S1.cool R1
      cases ef : f d y.d with
      | none => rw [ef] at h3; exact (show False from h3).elim
      | some z =>
        rw [ef] at h3
        refine hf F1' H1 v u d y.d z _ S1'.fh (.inl (h2.mono (s.trans s'))) (.inl q) ef fun w H' F' ex rt => ?_
        have S2 := S1'.ext ex
        exact h3 _ H' F' (s'.trans ex.f) (S2.store (rt.rel S1' ex))⟩
/-! ### if -/
def sIf (t : Te) (a b : Sm) : Sm := fun ρ => (t ρ).toS fun c ρ1 => if c then a ρ1 else b ρ1
theorem js_if (hc : JT X W io c mc) (ha : JSs X W io body mb) (hb : JSs X W io els me) : JS X W io (.If c body els pos) (sIf mc mb me) := ⟨psi (ps_if hc.pt ha.ps hb.ps) fun D σ H h => by
  obtain ⟨P, F, ρ, S, h⟩ := h
  refine tJT_toS S h fun b ρ1 H1 F1 s S1 h1 => ?_
  cases b with
  | true => exact ⟨P, F1, ρ1, S1, h1⟩
  | false => exact ⟨P, F1, ρ1, S1, h1⟩⟩
/-! ### while -/
/-- behind a turn -/
def turned (r : SR) (k : Env → SR) : SR := match r with
  | .nx ρ => k ρ
  | .ct ρ => k ρ
  | .bk ρ => .nx ρ
  | r => r
def sWhile : Nat → Te → Sm → Sm
  | 0, _, _ => fun _ => .no
  | n + 1, t, b => fun ρ => (t ρ).toS fun c ρ1 => if c then turned (b ρ1) (sWhile n t b) else .nx ρ1
def FUEL : Nat := 100000
theorem ToS.turned {K : PySem.W.Frag} {P F : Hp} {D : Ends} {r : SR} {k : Env → SR} {N : L2.St → Hp → Prop} (h : ToS K W io P F D (Mi.turned r k)) (hN : ∀ ρ' σ' H' F', Same F F' → St K io P F' ρ' σ' H' → ToS K W io P F' D (k ρ') → N σ' H') :
    ToS K W io P F { D with nx := N, ct := N, bk := D.nx } r := by
  cases r with
  | nx ρ' => exact fun σ' H' F2 s S => hN ρ' σ' H' F2 s S (ToS.up s h)
  | ct ρ' => exact fun σ' H' F2 s S => hN ρ' σ' H' F2 s S (ToS.up s h)
  | bk ρ' => exact h
  | rt r ρ' => exact h
  | ex c ρ' => exact h
  | no => exact h
theorem js_while {n : Nat} (hp : PassesOwn (model X.prog X.w) X.A X.env X.xe) (hc : JT X W io c mc) (hb : JSs X W io body mb) : JS X W io (.While c body [] pos) (sWhile n mc mb) := ⟨psi (ps_while hp hc.pt hb.ps) fun D σ H h => by
  obtain ⟨P, F, ρ, S, h⟩ := h
  refine ⟨fun m σ H => ∃ F' ρ', St X.K io P F' ρ' σ H ∧ ToS X.K W io P F' D (sWhile m mc mb ρ'), ⟨n, F, ρ, S, h⟩, fun m σ H hw => ?_⟩
  obtain ⟨F1, ρ1, S1, h1⟩ := hw
  cases m with
  | zero => exact (show False from h1).elim
  | succ m =>
    have h1' : ToS X.K W io P F1 D ((mc ρ1).toS fun c ρ1 => if c then Mi.turned (mb ρ1) (sWhile m mc mb) else .nx ρ1) := h1
    refine tJT_toS S1 h1' fun b ρ2 H2 F2 s2 S2 h2 => ?_
    cases b with
    | false =>
      rw [if_neg Bool.false_ne_true]
      exact h2 σ H2 F2 (Same.refl _) S2
    | true =>
      rw [if_pos rfl]
      refine ⟨fun σ' H' => ∃ F' ρ', St X.K io P F' ρ' σ' H' ∧ ToS X.K W io P F' D (sWhile m mc mb ρ'), fun σ' H' q => ⟨m, Nat.lt_succ_self m, q⟩, P, F2, ρ2, S2, ?_⟩
      exact ToS.turned (show ToS X.K W io P F2 D (Mi.turned (mb ρ2) (sWhile m mc mb)) from h2) fun ρ' σ' H' F' s S' q => ⟨F', ρ', S', q⟩⟩
end
/-! ### what is walked -/
abbrev Mi' := Env → R (List D)
/-- the iterator yields ds, whatever has been laid and frozen meanwhile -/
structure ItOk (K : PySem.W.Frag) (F : Hp) (J : It) (ds : List D) : Prop where
  stop : ∀ H, Same F H → J.stop ds.length H
  go : ∀ (i : Nat) H, i < ds.length → Same F H → J.go i H
  yld : ∀ (i : Nat) d F2 H x H', ds[i]? = some d → Same F F2 → Same F2 H → J.yld i H x H' → ∃ F3, Ext F2 H F3 H' ∧ Fz K F3 d x
def ToI (K : PySem.W.Frag) (W : WX) (io : Nat → Option Addr) (P F : Hp) (σ : L2.St) (R : It → Hp → Prop) (r : Mi.R (List D)) : Prop := match r with
  | .ok ds ρ' => ∀ J H' F', Same F F' → St K io P F' ρ' σ H' → ItOk K F' J ds → R J H'
  | .ex c ρ' => ∀ H' F', Same F F' → St K io P F' ρ' σ H' → W (excV K c) none σ H'
  | .no => False
def tI (K : PySem.W.Frag) (W : WX) (io : Nat → Option Addr) (m : Mi') : TI := fun σ H R => ∃ P F ρ, St K io P F ρ σ H ∧ ToI K W io P F σ R (m ρ)
structure JI (X : Cx) (W : WX) (io : Nat → Option Addr) (tg iter : Expr) (m : Mi') : Prop where
  pi : PI X tg iter (tI X.K W io m)
theorem pii {X : Cx} {tg iter : Expr} {t t' : TI} (h : PI X tg iter t) (f : ∀ σ H R, t' σ H R → t σ H R) : PI X tg iter t' := ⟨fun pins s σ H R I q => h.run pins s σ H R I (f σ H R q)⟩
theorem ToI.up {K : PySem.W.Frag} {W : WX} {io : Nat → Option Addr} {P F F' : Hp} {σ : L2.St} {R : It → Hp → Prop} {r : Mi.R (List D)} (e : Same F F') (h : ToI K W io P F σ R r) : ToI K W io P F' σ R r := by
  cases r with
  | ok r ρ' => exact fun J H' F2 s => h J H' F2 (e.trans s)
  | ex c ρ' => exact fun H' F2 s => h H' F2 (e.trans s)
  | no => exact h
theorem tJ_bindI {K : PySem.W.Frag} {W : WX} {io : Nat → Option Addr} {P F : Hp} {σ : L2.St} {H : Hp} {ρ : Env} {m : Ex} {f : Sl → Env → R (List D)} {R : It → Hp → Prop} {Q' : VK} (S : St K io P F ρ σ H) (h : ToI K W io P F σ R ((m ρ).bind f))
    (k : ∀ r ρ1 v H1 F1, Same F F1 → St K io P F1 ρ1 σ H1 → Rel K P F1 ρ1 σ H1 v r → ToI K W io P F1 σ R (f r ρ1) → Q' v H1) : tJ K W io m σ H Q' := by
  refine ⟨P, F, ρ, S, ?_⟩
  cases e : m ρ with
  | ok r ρ1 =>
    rw [e] at h
    exact fun v H1 F1 s S1 R1 => k r ρ1 v H1 F1 s S1 R1 (h.up s)
  | ex c ρ1 =>
    rw [e] at h
    exact h
  | no =>
    rw [e] at h
    exact h
/-- a list, a tuple, a text by its signs -/
def D.iter : D → Option (List D)
  | .lst ds => some ds
  | .tup ds => some ds
  | .scr ds => some ds
  | .str z => some (z.cps.toList.map fun c => .str ⟨#[c]⟩)
  | _ => none
def mkI (o : Option (List D)) (ρ : Env) : R (List D) := match o with
  | some z => .ok z ρ
  | none => .no
def iSeq (m : Ex) : Mi' := fun ρ => (m ρ).bind fun r ρ1 => mkI r.d.iter ρ1
section
variable {X : Cx} {W : WX} {io : Nat → Option Addr} {tg e l : Expr} {te tl : TE} {ma mb mc : Ex}
theorem pi_any (hl : PE X l tl) : PI X tg l (fun σ H R => tl σ H fun x H1 => (∃ a, x = .ref a ∧ (∃ xs, SqL X.K H1 a xs) ∧ R (Itl X.K a) H1) ∨ (∃ a, x = .ref a ∧ (∃ xs, SqT X.K H1 a xs) ∧ R (Itt X.K a) H1) ∨ ∃ z, x = .str z ∧ R (Its z) H1) := by
  refine ⟨fun pins s σ H R I h => ?_⟩
  refine thn (hl.run pins s σ H _ I h) fun v s1 ⟨x, H1, I1, r1, q1⟩ => ?_
  rcases q1 with ⟨a, e, ⟨xs, hq⟩, q⟩ | ⟨a, e, ⟨xs, hq⟩, q⟩ | ⟨z, e, q⟩
  · subst e
    cases r1
    obtain ⟨its, rv, p, hz⟩ := I1.list hq
    refine wpAny_pyIter_list p.isList ?_
    refine ⟨s1.heap.objs.size, [s1.heap.objs.size], _, _, H1, rfl, I1.kept (t' := s1.toks) fun b o e => Heap.get?_push_of_some _ e, turn_list a _, ⟨_, Heap.get?_push_size _ rfl, rfl, rfl⟩, fun b hb => ?_, q⟩
    have e : b = s1.heap.objs.size := by simpa using hb
    subst e
    exact I1.fpOk (Nat.le_refl _) (I1.hok.fresh (Nat.le_refl _))
  · subst e
    cases r1
    obtain ⟨its, rv, p, hz⟩ := I1.tuple hq
    refine wpAny_pyIter_tuple (show s1.heap.IsTuple a its.toArray from p) ?_
    refine ⟨s1.heap.objs.size, [s1.heap.objs.size], _, _, H1, rfl, I1.kept (t' := s1.toks) fun b o e => Heap.get?_push_of_some _ e, turn_tuple a _, ⟨_, Heap.get?_push_size _ rfl, rfl, rfl⟩, fun b hb => ?_, q⟩
    have e : b = s1.heap.objs.size := by simpa using hb
    subst e
    exact I1.fpOk (Nat.le_refl _) (I1.hok.fresh (Nat.le_refl _))
  · subst e
    obtain ⟨t, rfl⟩ := r1
    cases ha : z.cps.all (· < 128)
    · exact wpAny_pyIter_wide ha (pi_one (tk := s1.toks) I1 _ (turn_str _ z t "str_iterator" (.inr rfl)) ⟨_, Heap.get?_push_size _ rfl, rfl, rfl⟩ q)
    · exact wpAny_pyIter_ascii ha (pi_one (tk := s1.toks) I1 _ (turn_str _ z t "str_ascii_iterator" (.inl rfl)) ⟨_, Heap.get?_push_size _ rfl, rfl, rfl⟩ q)
theorem itOk_l {K : PySem.W.Frag} {F : Hp} {a : Addr} {vs : List V} {ds : List D} (h : SqL K F a vs) (q : FzL K F ds vs) : ItOk K F (Itl K a) ds where
  stop := fun H e => ⟨vs, e.seq h, by rw [q.length]; exact Nat.le_refl _⟩
  go := fun i H hi e => by
    obtain ⟨v, h1, _⟩ := q.get (d := ds[i]) (List.getElem?_eq_getElem hi)
    exact ⟨vs, v, e.seq h, h1⟩
  yld := fun i d F2 H x H' hd e1 e2 y => by
    obtain ⟨rfl, y⟩ := y
    exact ⟨F2, Ext.refl e2, (q.at hd (y vs ((e1.trans e2).seq h))).mono e1⟩
theorem itOk_t {K : PySem.W.Frag} {F : Hp} {a : Addr} {vs : List V} {ds : List D} (h : SqT K F a vs) (q : FzL K F ds vs) : ItOk K F (Itt K a) ds where
  stop := fun H e => ⟨vs, same_seqT e h, by rw [q.length]; exact Nat.le_refl _⟩
  go := fun i H hi e => by
    obtain ⟨v, h1, _⟩ := q.get (d := ds[i]) (List.getElem?_eq_getElem hi)
    exact ⟨vs, v, same_seqT e h, h1⟩
  yld := fun i d F2 H x H' hd e1 e2 y => by
    obtain ⟨rfl, y⟩ := y
    exact ⟨F2, Ext.refl e2, (q.at hd (y vs (same_seqT (e1.trans e2) h))).mono e1⟩
theorem itOk_s {K : PySem.W.Frag} {F : Hp} {z : Str} : ItOk K F (Its z) (z.cps.toList.map fun c => .str ⟨#[c]⟩) where
  stop := fun H e => by
    show z.cps.size ≤ _
    rw [List.length_map]
    exact Nat.le_of_eq Array.length_toList.symm
  go := fun i H hi e => by
    show i < z.cps.size
    rw [List.length_map] at hi
    exact Nat.lt_of_lt_of_le hi (Nat.le_of_eq Array.length_toList)
  yld := fun i d F2 H x H' hd e1 e2 y => by
    obtain ⟨rfl, c, hc, rfl⟩ := y
    rw [List.getElem?_map, Array.getElem?_toList, hc] at hd
    cases hd
    exact ⟨F2, Ext.refl e2, rfl⟩
theorem itOk_r {K : PySem.W.Frag} {F : Hp} {lo : Int} {n : Nat} : ItOk K F (Itr lo n) ((List.range n).map fun i => .int (lo + (i : Nat))) where
  stop := fun H e => by
    show n ≤ _
    rw [List.length_map, List.length_range]
    exact Nat.le_refl _
  go := fun i H hi e => by
    rw [List.length_map, List.length_range] at hi
    exact hi
  yld := fun i d F2 H x H' hd e1 e2 y => by
    obtain ⟨rfl, rfl⟩ := y
    rw [List.getElem?_map] at hd
    obtain ⟨j, h1, rfl⟩ := Option.map_eq_some_iff.mp hd
    have h2 := (List.getElem?_eq_some_iff.mp h1)
    obtain ⟨h3, h4⟩ := h2
    rw [List.getElem_range] at h4
    subst h4
    exact ⟨F2, Ext.refl e2, rfl⟩
theorem itOk_c {K : PySem.W.Frag} {F : Hp} {lo c : Int} {n : Nat} : ItOk K F (Itc lo c n) ((List.range n).map fun i => .int (lo + (i : Nat) * c)) where
  stop := fun H e => by
    show n ≤ _
    rw [List.length_map, List.length_range]
    exact Nat.le_refl _
  go := fun i H hi e => by
    rw [List.length_map, List.length_range] at hi
    exact hi
  yld := fun i d F2 H x H' hd e1 e2 y => by
    obtain ⟨rfl, rfl⟩ := y
    rw [List.getElem?_map] at hd
    obtain ⟨j, h1, rfl⟩ := Option.map_eq_some_iff.mp hd
    have h2 := (List.getElem?_eq_some_iff.mp h1)
    obtain ⟨h3, h4⟩ := h2
    rw [List.getElem_range] at h4
    subst h4
    exact ⟨F2, Ext.refl e2, rfl⟩
/-- pairs laid at each turn -/
theorem itOk_pair {K : PySem.W.Frag} {F F2 H : Hp} {T : Addr} {x y : V} {d e : D} (s : Same F2 H) (n : H T = none) (q1 : Fz K F2 d x) (q2 : Fz K F2 e y) : ∃ F3, Ext F2 H F3 (upd H T (.tup [x, y])) ∧ Fz K F3 (.tup [d, e]) (.ref T) := by
  have ex := Ext.froz (o := .tup [x, y]) s n
  exact ⟨_, ex, T, [x, y], rfl, .inl (.inl upd_same), x, [y], rfl, q1.mono ex.f, y, [], rfl, q2.mono ex.f, rfl⟩
def zipD (a b : List D) : List D := (a.zip b).map fun p => .tup [p.1, p.2]
def enumD (a : List D) : List D := a.zipIdx.map fun p => .tup [.int (p.2 : Nat), p.1]
theorem itOk_e {K : PySem.W.Frag} {F : Hp} {a : Addr} {vs : List V} {ds : List D} (h : SqL K F a vs) (q : FzL K F ds vs) : ItOk K F (Ite K a) (enumD ds) where
  stop := fun H e => ⟨vs, e.seq h, by unfold enumD; rw [List.length_map, List.length_zipIdx, q.length]; exact Nat.le_refl _⟩
  go := fun i H hi e => by
    unfold enumD at hi
    rw [List.length_map, List.length_zipIdx] at hi
    obtain ⟨v, h1, _⟩ := q.get (d := ds[i]) (List.getElem?_eq_getElem hi)
    exact ⟨vs, v, e.seq h, h1⟩
  yld := fun i d F2 H x H' hd e1 e2 y => by
    obtain ⟨T, v, rfl, n, rfl, y⟩ := y
    unfold enumD at hd
    rw [List.getElem?_map] at hd
    obtain ⟨p, h1, rfl⟩ := Option.map_eq_some_iff.mp hd
    rw [List.getElem?_zipIdx] at h1
    obtain ⟨u, h2, rfl⟩ := Option.map_eq_some_iff.mp h1
    have h3 := (q.at h2 (y vs ((e1.trans e2).seq h))).mono e1
    have e3 : (0 + i : Nat) = i := Nat.zero_add i
    show ∃ F3, Ext F2 H F3 _ ∧ Fz K F3 (.tup [.int ((0 + i : Nat) : Int), u]) _
    rw [e3]
    exact itOk_pair (F := F) e2 n rfl h3
theorem zip_at {a b : List D} {i : Nat} {d : D} (h : (zipD a b)[i]? = some d) : ∃ x y, a[i]? = some x ∧ b[i]? = some y ∧ d = .tup [x, y] := by
  unfold zipD at h
  rw [List.getElem?_map] at h
  obtain ⟨p, h1, rfl⟩ := Option.map_eq_some_iff.mp h
  rw [List.getElem?_zip_eq_some] at h1
  exact ⟨_, _, h1.1, h1.2, rfl⟩
theorem zipD_length (a b : List D) : (zipD a b).length = min a.length b.length := by
  unfold zipD
  rw [List.length_map, List.length_zip]
theorem itOk_zl {K : PySem.W.Frag} {F : Hp} {a b : Addr} {vs us : List V} {ds es : List D} (h : SqL K F a vs) (q : FzL K F ds vs) (h' : SqL K F b us) (q' : FzL K F es us) : ItOk K F (Itz K a b) (zipD ds es) where
  stop := fun H e => ⟨vs, us, e.seq h, e.seq h', by rw [zipD_length, ← q.length, ← q'.length]; omega⟩
  go := fun i H hi e => by
    rw [zipD_length] at hi
    have i1 : i < ds.length := by omega
    have i2 : i < es.length := by omega
    obtain ⟨v, h1, _⟩ := q.get (d := ds[i]) (List.getElem?_eq_getElem i1)
    obtain ⟨u, h2, _⟩ := q'.get (d := es[i]) (List.getElem?_eq_getElem i2)
    exact ⟨vs, us, v, u, e.seq h, e.seq h', h1, h2⟩
  yld := fun i d F2 H x H' hd e1 e2 y => by
    obtain ⟨T, v, u, rfl, n, rfl, y1, y2⟩ := y
    obtain ⟨dx, dy, h1, h2, rfl⟩ := zip_at hd
    exact itOk_pair (F := F) e2 n ((q.at h1 (y1 vs ((e1.trans e2).seq h))).mono e1) ((q'.at h2 (y2 us ((e1.trans e2).seq h'))).mono e1)
theorem itOk_zt {K : PySem.W.Frag} {F : Hp} {a b : Addr} {vs us : List V} {ds es : List D} (h : SqT K F a vs) (q : FzL K F ds vs) (h' : SqT K F b us) (q' : FzL K F es us) : ItOk K F (ItzT K a b) (zipD ds es) where
  stop := fun H e => ⟨vs, us, same_seqT e h, same_seqT e h', by rw [zipD_length, ← q.length, ← q'.length]; omega⟩
  go := fun i H hi e => by
    rw [zipD_length] at hi
    have i1 : i < ds.length := by omega
    have i2 : i < es.length := by omega
    obtain ⟨v, h1, _⟩ := q.get (d := ds[i]) (List.getElem?_eq_getElem i1)
    obtain ⟨u, h2, _⟩ := q'.get (d := es[i]) (List.getElem?_eq_getElem i2)
    exact ⟨vs, us, v, u, same_seqT e h, same_seqT e h', h1, h2⟩
  yld := fun i d F2 H x H' hd e1 e2 y => by
    obtain ⟨T, v, u, rfl, n, rfl, y1, y2⟩ := y
    obtain ⟨dx, dy, h1, h2, rfl⟩ := zip_at hd
    exact itOk_pair (F := F) e2 n ((q.at h1 (y1 vs (same_seqT (e1.trans e2) h))).mono e1) ((q'.at h2 (y2 us (same_seqT (e1.trans e2) h'))).mono e1)
theorem mkI_some {K : PySem.W.Frag} {P F : Hp} {σ : L2.St} {ρ : Env} {R : It → Hp → Prop} {o : Option (List D)} (h : ToI K W io P F σ R (mkI o ρ)) : ∃ z, o = some z ∧ ToI K W io P F σ R (.ok z ρ) := by
  cases o with
  | none => exact h.elim
  | some z => exact ⟨z, rfl, h⟩
theorem ji_seq (h : JE X W io e ma) : JI X W io tg e (iSeq ma) := ⟨pii (pi_any h.pe) fun σ H R q => by
  obtain ⟨P, F, ρ, S, q⟩ := q
  refine tJ_bindI S q fun r ρ1 v H1 F1 s1 S1 R1 h1 => ?_
  obtain ⟨F1', s', S1', q1⟩ := S1.cool R1
  obtain ⟨ds, ed, h2⟩ := mkI_some h1
  have h3 : ∀ J, ItOk X.K F1' J ds → R J H1 := fun J ok => (show ∀ J H' F', Same F1 F' → St X.K io P F' ρ1 σ H' → ItOk X.K F' J ds → R J H' from h2) J H1 F1' s' S1' ok
  cases er : r.d <;> rw [er] at ed q1 <;> first | (simp [D.iter] at ed; done) | skip
  · rename_i z
    cases (show v = .str z from q1)
    cases ed
    exact .inr (.inr ⟨z, rfl, h3 _ itOk_s⟩)
  · cases ed
    obtain ⟨a, vs, rfl, ha, ra⟩ := q1
    exact .inr (.inl ⟨a, rfl, ⟨vs, same_seqT S1'.fh ha⟩, h3 _ (itOk_t ha ra)⟩)
  · cases ed
    obtain ⟨a, vs, rfl, ha, ra⟩ := q1
    exact .inl ⟨a, rfl, ⟨vs, .inl (.inl (S1'.fh _ _ ha))⟩, h3 _ (itOk_l (.inl (.inl ha)) ra)⟩
  · cases ed
    obtain ⟨a, vs, rfl, ha, ra⟩ := q1
    exact .inl ⟨a, rfl, ⟨vs, S1'.fh.seq ha⟩, h3 _ (itOk_l ha ra)⟩⟩
/-- frozen parts, then the walk -/
theorem tEs_bindI {K : PySem.W.Frag} {P : Hp} {σ : L2.St} {R : It → Hp → Prop} : ∀ (ms : List Ex) {f : List D → Env → Mi.R (List D)} {Q' : List V → Hp → Prop} {F : Hp} {ρ : Env} {H : Hp}, St K io P F ρ σ H → ToI K W io P F σ R ((runE ms ρ).bind f) →
    (∀ ds ρ1 vs H1 F1, Same F F1 → St K io P F1 ρ1 σ H1 → FzL K F1 ds vs → ToI K W io P F1 σ R (f ds ρ1) → Q' vs H1) → tEs K W io ms σ H Q'
  | [], f, Q', F, ρ, H, S, h, k => k [] ρ [] H F (Same.refl _) S rfl h
  | m :: ms, f, Q', F, ρ, H, S, h, k => by
    have e : (runE (m :: ms) ρ).bind f = (m ρ).bind fun x ρ1 => (runE ms ρ1).bind fun ds ρ2 => f (x.d :: ds) ρ2 := by
      show Mi.R.bind ((m ρ).bind fun x ρ1 => (runE ms ρ1).bind fun ds ρ2 => .ok (x.d :: ds) ρ2) f = _
      rw [Mi.R.bind_assoc]
      congr 1
      funext p ρ1
      rw [Mi.R.bind_assoc]
      rfl
    rw [e] at h
    refine tJ_bindI S h fun x ρ1 v H1 F1 s1 S1 R1 h1 => ?_
    obtain ⟨F1', s1', S1', q1⟩ := S1.cool R1
    exact tEs_bindI ms S1' (h1.up s1') fun ds ρ2 vs H2 F2 s2 S2 R2 h2 => k (x.d :: ds) ρ2 (v :: vs) H2 F2 ((s1.trans s1').trans s2) S2 ⟨v, vs, rfl, q1.mono s2, R2⟩ h2
def RB : Int := 1000000000
def rangeL (lo : Int) (n : Nat) : List D := (List.range n).map fun i => .int (lo + (i : Nat))
def range1D : List D → Option (List D)
  | [.int j] => if -RB ≤ j ∧ j ≤ RB then some (rangeL 0 j.toNat) else none
  | _ => none
def range2D : List D → Option (List D)
  | [.int i, .int j] => if -RB ≤ i ∧ i ≤ RB ∧ -RB ≤ j ∧ j ≤ RB then some (rangeL i (j - i).toNat) else none
  | _ => none
def range3D : List D → Option (List D)
  | [.int i, .int j, .int c] => if c = -1 ∧ -RB ≤ i ∧ i ≤ RB ∧ -RB ≤ j ∧ j ≤ RB then some ((List.range (i - j).toNat).map fun k => .int (i + (k : Nat) * (-1))) else none
  | _ => none
def iRange1 (a : Ex) : Mi' := fun ρ => (runE [a] ρ).bind fun ds ρ1 => mkI (range1D ds) ρ1
def iRange2 (a b : Ex) : Mi' := fun ρ => (runE [a, b] ρ).bind fun ds ρ1 => mkI (range2D ds) ρ1
def iRange3 (a b c : Ex) : Mi' := fun ρ => (runE [a, b, c] ρ).bind fun ds ρ1 => mkI (range3D ds) ρ1
theorem ji_range1 {p pos : Pos} {a : Expr} (hm : X.mg "range" = none) (ha : JEs X W io [a] [ma]) (hg : Gl X "range" := by rfl) (hs : starEach [a] X.env = [(false, eval a X.env)] := by rfl) : JI X W io tg (.Call (.Name "range" p) [a] [] pos) (iRange1 ma) := ⟨pii (pi_range1 hg hm ha.pa hs) fun σ H R q => by
  obtain ⟨P, F, ρ, S, q⟩ := q
  refine tEs_bindI [ma] S q fun ds ρ1 vs H1 F1 s1 S1 q1 h1 => ?_
  obtain ⟨z, ez, h2⟩ := mkI_some h1
  match ds, ez with
  | [.int j], ez =>
    obtain ⟨v, ws, rfl, e1, e2⟩ := q1
    have e2 : ws = [] := e2
    subst e2
    cases (show v = .int j from e1)
    have e3 : (if -RB ≤ j ∧ j ≤ RB then some (rangeL 0 j.toNat) else none) = some z := ez
    split at e3
    · rename_i hj
      unfold RB at hj
      cases e3
      exact ⟨j, rfl, by omega, by omega, (show ∀ J H' F', Same F1 F' → _ from h2) _ H1 F1 (Same.refl _) S1 (by unfold rangeL; exact itOk_r)⟩
    · cases e3⟩
theorem ji_range2 {p pos : Pos} {a b : Expr} (hm : X.mg "range" = none) (ha : JEs X W io [a, b] [ma, mb]) (hg : Gl X "range" := by rfl) (hs : starEach [a, b] X.env = [(false, eval a X.env), (false, eval b X.env)] := by rfl) (hs2 : starEach [b] X.env = [(false, eval b X.env)] := by rfl) : JI X W io tg (.Call (.Name "range" p) [a, b] [] pos) (iRange2 ma mb) := ⟨pii (pi_range2 hg hm ha.pa hs hs2) fun σ H R q => by
  obtain ⟨P, F, ρ, S, q⟩ := q
  refine tEs_bindI [ma, mb] S q fun ds ρ1 vs H1 F1 s1 S1 q1 h1 => ?_
  obtain ⟨z, ez, h2⟩ := mkI_some h1
  match ds, ez with
  | [.int i, .int j], ez =>
    obtain ⟨v, ws, rfl, e1, w, ws2, rfl, e2, e4⟩ := q1
    have e4 : ws2 = [] := e4
    subst e4
    cases (show v = .int i from e1)
    cases (show w = .int j from e2)
    have e3 : (if -RB ≤ i ∧ i ≤ RB ∧ -RB ≤ j ∧ j ≤ RB then some (rangeL i (j - i).toNat) else none) = some z := ez
    split at e3
    · rename_i hj
      unfold RB at hj
      cases e3
      exact ⟨i, j, rfl, ⟨by omega, by omega, by omega, by omega⟩, (show ∀ J H' F', Same F1 F' → _ from h2) _ H1 F1 (Same.refl _) S1 (by unfold rangeL; exact itOk_r)⟩
    · cases e3⟩
theorem ji_range3 {p pos : Pos} {a b c : Expr} (hm : X.mg "range" = none) (ha : JEs X W io [a, b, c] [ma, mb, mc]) (hg : Gl X "range" := by rfl) (hs : starEach [a, b, c] X.env = (false, eval a X.env) :: starEach [b, c] X.env := by rfl) (hpl : (backTo pos (starEach [b, c] X.env)).any (·.1) = false := by rfl) : JI X W io tg (.Call (.Name "range" p) [a, b, c] [] pos) (iRange3 ma mb mc) := ⟨pii (pi_range3 hg hm ha.pa hs hpl) fun σ H R q => by
  obtain ⟨P, F, ρ, S, q⟩ := q
  refine tEs_bindI [ma, mb, mc] S q fun ds ρ1 vs H1 F1 s1 S1 q1 h1 => ?_
  obtain ⟨z, ez, h2⟩ := mkI_some h1
  match ds, ez with
  | [.int i, .int j, .int c], ez =>
    obtain ⟨v, ws, rfl, e1, w, ws2, rfl, e2, u, ws3, rfl, e4, e5⟩ := q1
    have e5 : ws3 = [] := e5
    subst e5
    cases (show v = .int i from e1)
    cases (show w = .int j from e2)
    cases (show u = .int c from e4)
    have e3 : (if c = -1 ∧ -RB ≤ i ∧ i ≤ RB ∧ -RB ≤ j ∧ j ≤ RB then some ((List.range (i - j).toNat).map fun k => D.int (i + (k : Nat) * (-1))) else none) = some z := ez
    split at e3
    · rename_i hj
      unfold RB at hj
      obtain ⟨rfl, hj⟩ := hj
      cases e3
      exact ⟨i, j, -1, (i - j).toNat, rfl, RgC.neg (by omega) (by omega) (by omega) (by omega), (show ∀ J H' F', Same F1 F' → _ from h2) _ H1 F1 (Same.refl _) S1 itOk_c⟩
    · cases e3⟩
def enumI : List D → Option (List D)
  | [.lst xs] => some (enumD xs)
  | [.scr xs] => some (enumD xs)
  | _ => none
def zipI : List D → Option (List D)
  | [.lst xs, .lst ys] => some (zipD xs ys)
  | [.tup xs, .tup ys] => some (zipD xs ys)
  | _ => none
def iEnumE (ms : List Ex) : Mi' := fun ρ => (runE ms ρ).bind fun ds ρ1 => mkI (enumI ds) ρ1
def iZipE (ms : List Ex) : Mi' := fun ρ => (runE ms ρ).bind fun ds ρ1 => mkI (zipI ds) ρ1
theorem ji_enum {p pos tpos : Pos} {a : Expr} {elts : List Expr} {kk : Nat} (hm : X.mg "enumerate" = none) (ha : JEs X W io [a] [ma]) (hg : Gl X "enumerate" := by rfl) (hs : starEach [a] X.env = [(false, eval a X.env)] := by rfl) : JI X W io (.Tuple elts kk tpos) (.Call (.Name "enumerate" p) [a] [] pos) (iEnumE [ma]) := ⟨pii (pi_enum hg hm ha.pa hs) fun σ H R q => by
  obtain ⟨P, F, ρ, S, q⟩ := q
  refine tEs_bindI [ma] S q fun ds ρ1 vs H1 F1 s1 S1 q1 h1 => ?_
  obtain ⟨z, ez, h2⟩ := mkI_some h1
  match ds, ez with
  | [.lst xs], ez =>
    cases ez
    obtain ⟨v, ws, rfl, ⟨b, us, rfl, hb, rb⟩, e2⟩ := q1
    have e2 : ws = [] := e2
    subst e2
    exact ⟨b, us, rfl, .inl (.inl (S1.fh _ _ hb)), (show ∀ J H' F', Same F1 F' → _ from h2) _ H1 F1 (Same.refl _) S1 (itOk_e (.inl (.inl hb)) rb)⟩
  | [.scr xs], ez =>
    cases ez
    obtain ⟨v, ws, rfl, ⟨b, us, rfl, hb, rb⟩, e2⟩ := q1
    have e2 : ws = [] := e2
    subst e2
    exact ⟨b, us, rfl, S1.fh.seq hb, (show ∀ J H' F', Same F1 F' → _ from h2) _ H1 F1 (Same.refl _) S1 (itOk_e hb rb)⟩⟩
theorem ji_zip {p pos tpos : Pos} {a b : Expr} {elts : List Expr} {kk : Nat} (hm : X.mg "zip" = none) (ha : JEs X W io [a, b] [ma, mb]) (hg : Gl X "zip" := by rfl) (hs : starEach [a, b] X.env = (false, eval a X.env) :: starEach [b] X.env := by rfl) (hpl : (backTo pos (starEach [b] X.env)).any (·.1) = false := by rfl) : JI X W io (.Tuple elts kk tpos) (.Call (.Name "zip" p) [a, b] [] pos) (iZipE [ma, mb]) := ⟨pii (pi_zipA hg hm ha.pa hs hpl) fun σ H R q => by
  obtain ⟨P, F, ρ, S, q⟩ := q
  refine tEs_bindI [ma, mb] S q fun ds ρ1 vs H1 F1 s1 S1 q1 h1 => ?_
  obtain ⟨z, ez, h2⟩ := mkI_some h1
  match ds, ez with
  | [.lst xs, .lst ys], ez =>
    cases ez
    obtain ⟨v, ws, rfl, ⟨c, us, rfl, hb, rb⟩, w, ws2, rfl, ⟨c2, us2, rfl, hb2, rb2⟩, e2⟩ := q1
    have e2 : ws2 = [] := e2
    subst e2
    exact ⟨c, c2, us, us2, rfl, .inl ⟨.inl (.inl (S1.fh _ _ hb)), .inl (.inl (S1.fh _ _ hb2)), (show ∀ J H' F', Same F1 F' → _ from h2) _ H1 F1 (Same.refl _) S1 (itOk_zl (.inl (.inl hb)) rb (.inl (.inl hb2)) rb2)⟩⟩
  | [.tup xs, .tup ys], ez =>
    cases ez
    obtain ⟨v, ws, rfl, ⟨c, us, rfl, hb, rb⟩, w, ws2, rfl, ⟨c2, us2, rfl, hb2, rb2⟩, e2⟩ := q1
    have e2 : ws2 = [] := e2
    subst e2
    exact ⟨c, c2, us, us2, rfl, .inr ⟨same_seqT S1.fh hb, same_seqT S1.fh hb2, (show ∀ J H' F', Same F1 F' → _ from h2) _ H1 F1 (Same.refl _) S1 (itOk_zt hb rb hb2 rb2)⟩⟩⟩
/-! ### for -/
def loopF (g : Tg) (b : Sm) : List D → Env → SR
  | [], ρ => .nx ρ
  | d :: ds, ρ => match g d ρ with
    | some ρ1 => turned (b ρ1) (loopF g b ds)
    | none => .no
def R.toSI (r : R (List D)) (f : List D → Env → SR) : SR := r.toS f
def sFor (mi : Mi') (g : Tg) (b : Sm) : Sm := fun ρ => (mi ρ).toS fun ds ρ1 => loopF g b ds ρ1
theorem js_for {pos : Pos} {body : List Stmt} {g : Tg} {mi : Mi'} {sb : Sm} (hp : PassesOwn (model X.prog X.w) X.A X.env X.xe) (hc : X.calm = true) (hi : JI X W io tg e mi) (hg : JG X io tg g) (hb : JSs X W io body sb) (hs : ∀ x, foldedSetIterable e X.env x = pure x := by intro _; rfl) :
    JS X W io (.For tg e body [] pos) (sFor mi g sb) := ⟨psi (ps_for hp hc hi.pi hg.pg hb.ps hs) fun D σ H h => by
  obtain ⟨P, F, ρ, S, h⟩ := h
  refine ⟨P, F, ρ, S, ?_⟩
  unfold sFor at h
  cases em : mi ρ with
  | no => rw [em] at h; exact h
  | ex c ρ1 => rw [em] at h; exact fun H' F' s S' => h σ H' F' s S'
  | ok ds ρ1 =>
    rw [em] at h
    intro J H1 F1 s1 S1 ok
    have h1 : ToS X.K W io P F1 D (loopF g sb ds ρ1) := ToS.up s1 h
    refine ⟨fun i m σ H => m = ds.length - i ∧ i ≤ ds.length ∧ ∃ F' ρ', Same F1 F' ∧ St X.K io P F' ρ' σ H ∧ ToS X.K W io P F' D (loopF g sb (ds.drop i) ρ'), ⟨ds.length, rfl, Nat.zero_le _, F1, ρ1, Same.refl _, S1, h1⟩, ?_⟩
    rintro i m σ2 H2 ⟨rfl, hi, F2, ρ2, s2, S2, h2⟩
    by_cases hlt : i < ds.length
    · refine .inr ⟨ok.go i H2 hlt (s2.trans S2.fh), ?_⟩
      have ed : ds.drop i = ds[i] :: ds.drop (i + 1) := List.drop_eq_getElem_cons hlt
      rw [ed] at h2
      have h2' : ToS X.K W io P F2 D (match g ds[i] ρ2 with
        | some ρ1 => Mi.turned (sb ρ1) (loopF g sb (ds.drop (i + 1)))
        | none => .no) := h2
      refine ⟨fun σ' H' => ∃ F' ρ', Same F1 F' ∧ St X.K io P F' ρ' σ' H' ∧ ToS X.K W io P F' D (loopF g sb (ds.drop (i + 1)) ρ'), fun σ' H' q => ⟨ds.length - (i + 1), by omega, rfl, hlt, q⟩, fun x H' y => ?_⟩
      obtain ⟨F3, ex, qx⟩ := ok.yld i ds[i] F2 H2 x H' (List.getElem?_eq_getElem hlt) s2 S2.fh y
      have S3 := S2.ext ex
      cases eg : g ds[i] ρ2 with
      | none => rw [eg] at h2'; exact (show False from h2').elim
      | some ρ3 =>
        rw [eg] at h2'
        refine ⟨P, F3, ρ2, ds[i], S3, qx, ρ3, eg, fun σ' H4 F4 s4 S4 => ⟨P, F4, ρ3, S4, ?_⟩⟩
        exact ToS.turned (ToS.up (ex.f.trans s4) (show ToS X.K W io P F2 D (Mi.turned (sb ρ3) (loopF g sb (ds.drop (i + 1)))) from h2')) fun ρ' σ' H' F' s S' q => ⟨F', ρ', (s2.trans (ex.f.trans s4)).trans s, S', q⟩
    · have e : i = ds.length := by omega
      subst e
      rw [List.drop_length] at h2
      exact .inl ⟨ok.stop H2 (s2.trans S2.fh), h2 σ2 H2 F2 (Same.refl _) S2⟩⟩
end
end Mi

namespace Mi
open PySem PySem.Spec PyProof.Rows L2

/-! ### lists of one's own are changed -/
def Sl.own : Sl → Option (List D)
  | .ow xs => some xs
  | .io xs => some xs
  | _ => none
def Sl.as : Sl → List D → Sl
  | .io _, ys => .io ys
  | _, ys => .ow ys
def ownAt (ρ : Env) (i : Nat) : Option (Sl × List D) := match ρ[i]? with
  | some (some s) => s.own.map fun xs => (s, xs)
  | _ => none
section
variable {K : PySem.W.Frag} {W : WX} {io : Nat → Option Addr} {P F F' : Hp} {σ : L2.St} {H : Hp} {ρ : Env}
theorem ownAt_some {i : Nat} {s : Sl} {xs : List D} (h : ownAt ρ i = some (s, xs)) : ρ[i]? = some (some s) ∧ s.own = some xs ∧ Own ρ i xs := by
  unfold ownAt at h
  cases e : ρ[i]? with
  | none => rw [e] at h; cases h
  | some o =>
    rw [e] at h
    cases o with
    | none => cases h
    | some t =>
      obtain ⟨ys, h1, h2⟩ := Option.map_eq_some_iff.mp h
      cases h2
      refine ⟨rfl, h1, ?_⟩
      cases s with
      | fz d => cases h1
      | ow zs => cases h1; exact .inl e
      | io zs => cases h1; exact .inr e
/-- a list of one's own takes other items -/
theorem St.write {i : Nat} {s : Sl} {xs ys : List D} {a : Addr} {us : List V} (S : St K io P F ρ σ H) (h : ownAt ρ i = some (s, xs)) (ha : σ[i]? = some (some (.ref a))) (q : FzL K F ys us) :
    St K io P F (ρ.set i (some (s.as ys))) σ (upd H a (.lst us)) := by
  obtain ⟨e0, e1, e2⟩ := ownAt_some h
  obtain ⟨b, ws, h1, h2, h3, h4, h5⟩ := S.ow i xs e2
  rw [ha] at h1
  cases h1
  have hi : i < ρ.length := (List.getElem?_eq_some_iff.mp e0).1
  have back : ∀ {j zs}, Own (ρ.set i (some (s.as ys))) j zs → (j = i ∧ zs = ys) ∨ (j ≠ i ∧ Own ρ j zs) := fun {j zs} o => by
    by_cases hj : j = i
    · subst hj
      refine .inl ⟨rfl, ?_⟩
      rcases o with o | o
      · rw [set_self hi] at o
        cases s <;> first | (cases e1; done) | skip
        · cases o; rfl
        · cases o
      · rw [set_self hi] at o
        cases s <;> first | (cases e1; done) | skip
        · cases o
        · cases o; rfl
    · refine .inr ⟨hj, ?_⟩
      rcases o with o | o
      · rw [set_other (Ne.symm hj)] at o; exact .inl o
      · rw [set_other (Ne.symm hj)] at o; exact .inr o
  have own : ∀ {j zs}, Own (ρ.set i (some (s.as ys))) j zs → ∃ zs', Own ρ j zs' := fun {j zs} o => by
    rcases back o with ⟨rfl, _⟩ | ⟨_, o⟩
    · exact ⟨_, e2⟩
    · exact ⟨_, o⟩
  refine ⟨fun b o e => ?_, fun b o e => ?_, S.pf, by simp [S.len], fun j d e => ?_, fun j zs o => ?_, fun j zs b e e' => ?_, fun j k zs ws' b o1 o2 e e' => ?_⟩
  · rw [upd_ne (ne_of_none e h4)]
    exact S.fh b o e
  · rw [upd_ne (ne_of_none e h5)]
    exact S.ph b o e
  · by_cases hj : j = i
    · subst hj
      rw [set_self hi] at e
      cases s <;> first | (cases e1; done) | cases e
    · rw [set_other (Ne.symm hj)] at e
      exact S.fz j d e
  · rcases back o with ⟨rfl, rfl⟩ | ⟨hj, o⟩
    · exact ⟨a, us, ha, upd_same, q, h4, h5⟩
    · obtain ⟨b, us', g1, g2, g3, g4, g5⟩ := S.ow j zs o
      refine ⟨b, us', g1, ?_, g3, g4, g5⟩
      have hb : b ≠ a := fun z => by
        subst z
        exact hj (S.ds j i zs xs b o e2 g1 ha)
      rw [upd_ne hb]
      exact g2
  · by_cases hj : j = i
    · subst hj
      rw [set_self hi] at e
      cases s <;> first | (cases e1; done) | (cases e; done) | skip
      exact S.ia j _ b e0 e'
    · rw [set_other (Ne.symm hj)] at e
      exact S.ia j zs b e e'
  · obtain ⟨zs1, o1'⟩ := own o1
    obtain ⟨zs2, o2'⟩ := own o2
    exact S.ds j k zs1 zs2 b o1' o2' e e'
theorem St.at (S : St K io P F ρ σ H) {i : Nat} {s : Sl} {xs : List D} (h : ownAt ρ i = some (s, xs)) : ∃ a vs, σ[i]? = some (some (.ref a)) ∧ H a = some (.lst vs) ∧ FzL K F xs vs := by
  obtain ⟨_, _, e2⟩ := ownAt_some h
  obtain ⟨a, vs, h1, h2, h3, _⟩ := S.ow i xs e2
  exact ⟨a, vs, h1, h2, h3⟩
end
/-- x.m(e, ..): f gives the value and the new items -/
def mMut (i : Nat) (f : List D → List D → Option (D × List D)) (es : List Ex) : Ex := fun ρ => if (ownAt ρ i).isSome then (runE es ρ).bind fun ds ρ1 => match ownAt ρ1 i with
  | some (s, xs) => match f xs ds with
    | some (y, ys) => .ok (.fz y) (ρ1.set i (some (s.as ys)))
    | none => .no
  | none => .no else .no
/-- what such a method asks -/
def MutOk (K : PySem.W.Frag) (r : V → List V → Hp → VK → Prop) (f : List D → List D → Option (D × List D)) : Prop := ∀ (F H : Hp) (a : Addr) (vs us : List V) (xs ds : List D) (y : D) (ys : List D) (Q : VK), Same F H → H a = some (.lst vs) → FzL K F xs vs → FzL K F ds us → f xs ds = some (y, ys) →
  (∀ v ws, Fz K F y v → FzL K F ys ws → Q v (upd H a (.lst ws))) → r (.ref a) us H Q
section
variable {X : Cx} {W : WX} {io : Nat → Option Addr} {e : Expr} {es : List Expr} {ms : List Ex} {pos apos : Pos}
theorem mut_core {r : V → List V → Hp → VK → Prop} {f : List D → List D → Option (D × List D)} (hf : MutOk X.K r f) {i : Nat} {σ : L2.St} {H : Hp} {Q : VK} (h : tJ X.K W io (mMut i f ms) σ H Q) :
    tVar i σ H fun x H1 => tyV X.K "list" x H1 ∧ tEs X.K W io ms σ H1 fun xs H2 => r x xs H2 Q := by
  obtain ⟨P, F, ρ, S, h⟩ := h
  obtain ⟨hc, h⟩ := toE_if h
  obtain ⟨⟨s, xs⟩, ho⟩ := Option.isSome_iff_exists.mp hc
  obtain ⟨a, vs, h1, h2, h3⟩ := S.at ho
  refine ⟨.ref a, h1, .inl ⟨rfl, vs, .inl (.inl h2)⟩, tEs_bind ms S h fun ds ρ1 us H1 F1 s1 S1 R1 h4 => ?_⟩
  cases ho1 : ownAt ρ1 i with
  | none => rw [ho1] at h4; exact (show False from h4).elim
  | some p =>
    obtain ⟨s', xs'⟩ := p
    rw [ho1] at h4
    have h4 : ToE X.K W io P F1 σ Q (match f xs' ds with
      | some (y, ys) => R.ok (Sl.fz y) (ρ1.set i (some (s'.as ys)))
      | none => R.no) := h4
    cases hf1 : f xs' ds with
    | none => rw [hf1] at h4; exact (show False from h4).elim
    | some q =>
      obtain ⟨y, ys⟩ := q
      rw [hf1] at h4
      obtain ⟨a', vs', g1, g2, g3⟩ := S1.at ho1
      rw [h1] at g1
      cases g1
      exact hf F1 H1 a vs' us xs' ds y ys Q S1.fh g2 g3 R1 hf1 fun v ws qy qs => (show ∀ v H' F', Same F1 F' → _ from h4) v _ F1 (Same.refl _) (S1.write ho1 h1 qs) qy
theorem je_mut0 (i : Nat) {x : Str} {name : Str} {id : String} {p : Pos} {r : V → List V → Hp → VK → Prop} {f : List D → List D → Option (D × List D)} (hf : MutOk X.K r f) (slot : Slot "list" name id) (hty : typeOf (.builtin id) = pure (.type "method_descriptor")) (hm : MtR X id r)
    (ho : IsV X i (.Name x p)) (hbase : attributeBase (.Name x p) name X.env (eval (.Name x p) X.env) = eval (.Name x p) X.env := by rfl) (hline : (apos.endLine == pos.line) = true := by rfl) : JE X W io (.Call (.Attribute (.Name x p) name apos) [] [] pos) (mMut i f []) := by
  refine ⟨pei (pe_bm0 PySem.F.plainAttrs_list slot hty hm ho.pe hbase hline) fun σ H Q h => ?_⟩
  exact mut_core hf h
theorem je_mut (i : Nat) {x : Str} {name : Str} {id : String} {p : Pos} {r : V → List V → Hp → VK → Prop} {f : List D → List D → Option (D × List D)} (hf : MutOk X.K r f) (slot : Slot "list" name id) (hty : typeOf (.builtin id) = pure (.type "method_descriptor")) (hm : MtR X id r)
    (ho : IsV X i (.Name x p)) (ha : JEs X W io (e :: es) ms) (hbase : attributeBase (.Name x p) name X.env (eval (.Name x p) X.env) = eval (.Name x p) X.env := by rfl)
    (hfew : ((backTo pos (starEach (e :: es) X.env)).all (fun x => !x.1) && (backToKw pos (keywordEach [] X.env)).all (fun x => x.1.isSome)
      && decide ((e :: es).length + ([] : List Keyword).length + (if ([] : List Keyword).isEmpty then 0 else 1) < 30)) = true := by rfl)
    (hline : (apos.endLine == pos.line) = true := by rfl) (hs : starEach (e :: es) X.env = (false, eval e X.env) :: starEach es X.env := by rfl) (hplain : (backTo pos (starEach es X.env)).any (·.1) = false := by rfl) : JE X W io (.Call (.Attribute (.Name x p) name apos) (e :: es) [] pos) (mMut i f ms) := by
  refine ⟨pei (pe_bm PySem.F.plainAttrs_list slot hty hm ho.pe ha.pa hbase hfew hline hs hplain) fun σ H Q h => ?_⟩
  exact mut_core hf h
end
def fAppend : List D → List D → Option (D × List D) := fun xs ds => match ds with
  | [y] => if xs.length < SZ then some (.non, xs ++ [y]) else none
  | _ => none
def fExtend : List D → List D → Option (D × List D) := fun xs ds => match ds with
  | [.lst ys] => if xs.length + ys.length ≤ SZ then some (.non, xs ++ ys) else none
  | _ => none
def fPop : List D → List D → Option (D × List D) := fun xs ds => match ds with
  | [] => (xs[xs.length - 1]?).map fun y => (y, xs.dropLast)
  | _ => none
def fPopAt : List D → List D → Option (D × List D) := fun xs ds => match ds with
  | [.int i] => if 0 ≤ i ∧ i ≤ RB then (xs[i.toNat]?).map fun y => (y, xs.eraseIdx i.toNat) else none
  | _ => none
def fReverse : List D → List D → Option (D × List D) := fun xs ds => match ds with
  | [] => some (.non, xs.reverse)
  | _ => none
section
variable {K : PySem.W.Frag}
theorem ok_append : MutOk K rAppend fAppend := by
  intro F H a vs us xs ds y ys Q e ha ra rd hf q
  match ds, hf with
  | [d], hf =>
    obtain ⟨v, ws, rfl, h1, h2⟩ := rd
    have h2 : ws = [] := h2
    subst h2
    have hf : (if xs.length < SZ then some (D.non, xs ++ [d]) else none) = some (y, ys) := hf
    split at hf
    · rename_i hl
      cases hf
      exact ⟨a, vs, v, rfl, rfl, ha, by rw [← ra.length]; exact Nat.lt_of_lt_of_le hl SZ_le, q .non _ rfl (ra.append ⟨v, [], rfl, h1, rfl⟩)⟩
    · cases hf
theorem ok_extend : MutOk K rExtend fExtend := by
  intro F H a vs us xs ds y ys Q e ha ra rd hf q
  match ds, hf with
  | [.lst zs], hf =>
    obtain ⟨v, ws, rfl, ⟨b, us2, rfl, hb, rb⟩, h2⟩ := rd
    have h2 : ws = [] := h2
    subst h2
    have hf : (if xs.length + zs.length ≤ SZ then some (D.non, xs ++ zs) else none) = some (y, ys) := hf
    split at hf
    · rename_i hl
      cases hf
      exact ⟨a, b, vs, us2, rfl, rfl, ha, e _ _ hb, by rw [← ra.length, ← rb.length]; exact Nat.le_trans hl SZ_le, q .non _ rfl (ra.append rb)⟩
    · cases hf
theorem ok_pop : MutOk K rPop fPop := by
  intro F H a vs us xs ds y ys Q e ha ra rd hf q
  match ds, hf with
  | [], hf =>
    have rd : us = [] := rd
    subst rd
    obtain ⟨z, h1, h2⟩ := Option.map_eq_some_iff.mp (show (xs[xs.length - 1]?).map (fun y => (y, xs.dropLast)) = some (y, ys) from hf)
    cases h2
    obtain ⟨v, g1, g2⟩ := ra.get h1
    exact ⟨a, vs, v, rfl, rfl, ha, by rw [← ra.length]; exact g1, q v _ g2 ra.dropLast⟩
theorem ok_popAt : MutOk K rPopAt fPopAt := by
  intro F H a vs us xs ds y ys Q e ha ra rd hf q
  match ds, hf with
  | [.int i], hf =>
    obtain ⟨v, ws, rfl, h1, h2⟩ := rd
    have h2 : ws = [] := h2
    subst h2
    cases (show v = .int i from h1)
    have hf : (if 0 ≤ i ∧ i ≤ RB then (xs[i.toNat]?).map fun y => (y, xs.eraseIdx i.toNat) else none) = some (y, ys) := hf
    split at hf
    · rename_i hi
      unfold RB at hi
      obtain ⟨z, h1, h2⟩ := Option.map_eq_some_iff.mp hf
      cases h2
      obtain ⟨v, g1, g2⟩ := ra.get h1
      have hlt := (List.getElem?_eq_some_iff.mp g1).1
      refine ⟨a, vs, i, i.toNat, v, rfl, rfl, ha, by omega, by omega, ?_, g1, q v _ g2 (ra.eraseIdx _)⟩
      have hx : ixN vs.length i = some i.toNat := by
        unfold ixN
        rw [if_pos hi.1, if_pos (by omega)]
      exact (ixN_seq hx).1
    · cases hf
theorem ok_reverse : MutOk K rReverse fReverse := by
  intro F H a vs us xs ds y ys Q e ha ra rd hf q
  match ds, hf with
  | [], hf =>
    have rd : us = [] := rd
    subst rd
    cases hf
    exact ⟨a, vs, rfl, rfl, ha, q .non _ rfl ra.reverse⟩
end
section
variable {X : Cx} {W : WX} {io : Nat → Option Addr} {e i0 : Expr} {m mi : Ex} {pos p : Pos} {x : Str}
theorem mtr_of {id : String} {r : V → List V → Hp → VK → Prop} (h : MtM X id r) : MtR X id r := h
theorem je_append (i : Nat) {apos : Pos} (ho : IsV X i (.Name x p)) (ha : JE X W io e m) (hbase : attributeBase (.Name x p) "append" X.env (eval (.Name x p) X.env) = eval (.Name x p) X.env := by rfl)
    (hfew : ((backTo pos (starEach [e] X.env)).all (fun x => !x.1) && (backToKw pos (keywordEach [] X.env)).all (fun x => x.1.isSome)
      && decide ([e].length + ([] : List Keyword).length + (if ([] : List Keyword).isEmpty then 0 else 1) < 30)) = true := by rfl)
    (hline : (apos.endLine == pos.line) = true := by rfl) (hs : starEach [e] X.env = (false, eval e X.env) :: starEach [] X.env := by rfl) (hplain : (backTo pos (starEach [] X.env)).any (·.1) = false := by rfl) : JE X W io (.Call (.Attribute (.Name x p) "append" apos) [e] [] pos) (mMut i fAppend [m]) :=
  je_mut i ok_append PySem.F.slot_list_append PySem.F.type_list_append mt_append ho ⟨ha, hs, trivial⟩ hbase hfew hline hs hplain
theorem je_extend (i : Nat) {apos : Pos} (ho : IsV X i (.Name x p)) (ha : JE X W io e m) (hbase : attributeBase (.Name x p) "extend" X.env (eval (.Name x p) X.env) = eval (.Name x p) X.env := by rfl)
    (hfew : ((backTo pos (starEach [e] X.env)).all (fun x => !x.1) && (backToKw pos (keywordEach [] X.env)).all (fun x => x.1.isSome)
      && decide ([e].length + ([] : List Keyword).length + (if ([] : List Keyword).isEmpty then 0 else 1) < 30)) = true := by rfl)
    (hline : (apos.endLine == pos.line) = true := by rfl) (hs : starEach [e] X.env = (false, eval e X.env) :: starEach [] X.env := by rfl) (hplain : (backTo pos (starEach [] X.env)).any (·.1) = false := by rfl) : JE X W io (.Call (.Attribute (.Name x p) "extend" apos) [e] [] pos) (mMut i fExtend [m]) :=
  je_mut i ok_extend PySem.F.slot_list_extend PySem.F.type_list_extend mt_extend ho ⟨ha, hs, trivial⟩ hbase hfew hline hs hplain
theorem je_popAt (i : Nat) {apos : Pos} (ho : IsV X i (.Name x p)) (ha : JE X W io e m) (hbase : attributeBase (.Name x p) "pop" X.env (eval (.Name x p) X.env) = eval (.Name x p) X.env := by rfl)
    (hfew : ((backTo pos (starEach [e] X.env)).all (fun x => !x.1) && (backToKw pos (keywordEach [] X.env)).all (fun x => x.1.isSome)
      && decide ([e].length + ([] : List Keyword).length + (if ([] : List Keyword).isEmpty then 0 else 1) < 30)) = true := by rfl)
    (hline : (apos.endLine == pos.line) = true := by rfl) (hs : starEach [e] X.env = (false, eval e X.env) :: starEach [] X.env := by rfl) (hplain : (backTo pos (starEach [] X.env)).any (·.1) = false := by rfl) : JE X W io (.Call (.Attribute (.Name x p) "pop" apos) [e] [] pos) (mMut i fPopAt [m]) :=
  je_mut i ok_popAt PySem.F.slot_list_pop PySem.F.type_list_pop mt_popAt ho ⟨ha, hs, trivial⟩ hbase hfew hline hs hplain
theorem je_pop (i : Nat) {apos : Pos} (ho : IsV X i (.Name x p)) (hbase : attributeBase (.Name x p) "pop" X.env (eval (.Name x p) X.env) = eval (.Name x p) X.env := by rfl) (hline : (apos.endLine == pos.line) = true := by rfl) : JE X W io (.Call (.Attribute (.Name x p) "pop" apos) [] [] pos) (mMut i fPop []) :=
  je_mut0 i ok_pop PySem.F.slot_list_pop PySem.F.type_list_pop mt_pop ho hbase hline
theorem je_reverse (i : Nat) {apos : Pos} (ho : IsV X i (.Name x p)) (hbase : attributeBase (.Name x p) "reverse" X.env (eval (.Name x p) X.env) = eval (.Name x p) X.env := by rfl) (hline : (apos.endLine == pos.line) = true := by rfl) : JE X W io (.Call (.Attribute (.Name x p) "reverse" apos) [] [] pos) (mMut i fReverse []) :=
  je_mut0 i ok_reverse PySem.F.slot_list_reverse PySem.F.type_list_reverse mt_reverse ho hbase hline
theorem isV (i : Nat) (hN : X.N[i]? = some x := by rfl) (hv : Vis X.env.scope x := by first | exact Or.inl rfl | exact Or.inr (Or.inl rfl) | exact Or.inr (Or.inr rfl)) (hd : (x == ("__debug__" : Str)) = false := by decide)
    (hcd : (x == ("__classdict__" : Str)) = false := by decide) : IsV X i (.Name x pos) := ⟨pe_var hN hv hd hcd⟩
/-- x[k] = e -/
def sSetIx (i : Nat) (mi m : Ex) : Sm := fun ρ => (m ρ).toS fun r ρ1 => if (ownAt ρ1 i).isSome then (mi ρ1).toS fun k ρ2 => match ownAt ρ2 i, k.d with
  | some (s, xs), .int j => match ixN xs.length j with
    | some n => .nx (ρ2.set i (some (s.as (xs.set n r.d))))
    | none => .no
  | _, _ => .no else .no
theorem js_setix (i : Nat) {tpos : Pos} (ho : IsV X i (.Name x p)) (hi : JE X W io i0 mi) (he : JE X W io e m)
    (ha : ∀ v, assign (.Subscript (.Name x p) i0 tpos) X.env v = (do
      let ov ← holding [v] (eval (.Name x p) X.env)
      let iv ← holding [v, ov] (eval i0 X.env)
      standAt tpos
      holding [v, ov, iv] (setItem ov iv v)
      release [v, ov, iv] []) := by intro _; rfl) (hs : swapsWithSole [.Subscript (.Name x p) i0 tpos] e pos.line X.env = pure false := by rfl) (hw : swappedStores [.Subscript (.Name x p) i0 tpos] e X.env = pure none := by rfl)
    (h1 : (assignEach [.Subscript (.Name x p) i0 tpos] X.env).map (·.2) = [assign (.Subscript (.Name x p) i0 tpos) X.env] := by rfl) : JS X W io (.Assign [.Subscript (.Name x p) i0 tpos] e pos) (sSetIx i mi m) := ⟨psi (ps_asg he.pe (pg_sub ho.pe hi.pe set_list ha) hs hw h1) fun D σ H h => by
  obtain ⟨P, F, ρ, S, h⟩ := h
  refine tJ_toS S h fun r ρ1 v H1 F1 s1 S1 R1 h1 => ?_
  obtain ⟨F1', s1', S1', q1⟩ := S1.cool R1
  cases ho1 : ownAt ρ1 i with
  | none => rw [ho1] at h1; exact (show False from h1).elim
  | some p1 =>
    obtain ⟨s', xs'⟩ := p1
    rw [ho1] at h1
    obtain ⟨a, vs, g1, g2, g3⟩ := S1'.at ho1
    refine ⟨.ref a, g1, ?_⟩
    have h2 : ToS X.K W io P F1' D ((mi ρ1).toS fun k ρ2 => match ownAt ρ2 i, k.d with
      | some (s, xs), .int j => match ixN xs.length j with
        | some n => .nx (ρ2.set i (some (s.as (xs.set n r.d))))
        | none => .no
      | _, _ => .no) := ToS.up s1' h1
    refine tJ_toS S1' h2 fun k ρ2 u H2 F2 s2 S2 R2 h3 => ?_
    obtain ⟨F2', s2', S2', q2⟩ := S2.cool R2
    cases ho2 : ownAt ρ2 i with
    | none => rw [ho2] at h3; exact (show False from h3).elim
    | some p2 =>
      obtain ⟨s3, xs3⟩ := p2
      rw [ho2] at h3
      cases ek : k.d <;> rw [ek] at h3 q2 <;> first | (exact (show False from h3).elim) | skip
      rename_i j
      cases (show u = .int j from q2)
      cases en : ixN xs3.length j with
      | none =>
        have h3 : ToS X.K W io P F2 D (match ixN xs3.length j with
          | some n => .nx (ρ2.set i (some (s3.as (xs3.set n r.d))))
          | none => .no) := h3
        rw [en] at h3
        exact (show False from h3).elim
      | some n =>
        have h3 : ToS X.K W io P F2 D (match ixN xs3.length j with
          | some n => .nx (ρ2.set i (some (s3.as (xs3.set n r.d))))
          | none => .no) := h3
        rw [en] at h3
        obtain ⟨a', vs', k1, k2, k3⟩ := S2'.at ho2
        rw [g1] at k1
        cases k1
        refine ⟨a, vs', j, n, rfl, rfl, k2, by rw [← k3.length]; exact en, ?_⟩
        exact (show ∀ σ' H' F', Same F2 F' → _ from h3) σ _ F2' s2' (S2'.write ho2 g1 (k3.set n (q1.mono (s2.trans s2'))))⟩
end
/-! ### raise -/
def sRaise (c : Str) : Sm := fun ρ => .ex c ρ
/-- what is known of a class of errors -/
structure ExcF (K : PySem.W.Frag) (mg : Str → Option Value) (c : Str) : Prop where
  g : mg c = some (.ref (He.ga K c))
  x : PySem.W.excIn K (He.ga K c) He.veBase "ValueError.__new__" = true
  k : PySem.W.keepIn K (.ref (He.ga K c)) = true
  b : PySem.W.subIn K (.ref (He.ga K c)) (.type "BaseException") = some true
  t : PySem.W.typeIn K (.ref (He.ga K c)) = some (.type "type")
section
variable {X : Cx} {W : WX} {io : Nat → Option Addr} {pos : Pos} {x : Str}
/-- X() -/
theorem pmk_own0 {p cpos : Pos} (F : ExcF X.K X.mg x) (hg : Gl X x) (hdb : (x == ("__debug__" : Str)) = false := by decide) : PMk X (.Call (.Name x p) [] [] cpos) (fun _ H Q => Q (.ref (He.ga X.K x)) none H) := by
  intro pins s σ H Q I h
  refine wpAny_Call_Name_kw (ld_glob I hg F.g ?_ hdb)
  refine PySem.W.callWith_K0 I.kIn F.k ?_
  show wpAny _ _ (call (.ref (He.ga X.K x)) []) _ _ _
  obtain ⟨bm, N, nm, qn, bs, hdct, sn, sub, ab, col, dd, k0, k1, k2, k3, k5, mN, hC, hN, hni, T⟩ := exc_obj I.kIn F.x
  refine wpAny_call_exc_subT PySem.F.excBase_ValueError T hC hN hni (fun h' e hm => ?_) (Nat.zero_le _)
  exact mk_of I hm (raises_own F.b F.t) h (I.hok.gone hm.new)
theorem js_raise0 {p cpos : Pos} (tk : Takes X W) (hc : X.calm = true) (F : ExcF X.K X.mg x) (hg : Gl X x := by rfl) (hdb : (x == ("__debug__" : Str)) = false := by decide) : JS X W io (.Raise (some (.Call (.Name x p) [] [] cpos)) none pos) (sRaise x) := ⟨psi (ps_raise hc tk (pmk_own0 F hg hdb)) fun D σ H h => by
  obtain ⟨P, F', ρ, S, h⟩ := h
  exact h σ H F' (Same.refl _) S⟩
theorem js_raise1 {p p2 cpos : Pos} {m : Str} {j : Nat} (tk : Takes X W) (hc : X.calm = true) (F : ExcF X.K X.mg x) (hg : Gl X x := by rfl) (hdb : (x == ("__debug__" : Str)) = false := by decide) : JS X W io (.Raise (some (.Call (.Name x p) [.Constant (.str m) j p2] [] cpos)) none pos) (sRaise x) := ⟨psi (ps_raise hc tk (pmk_own PySem.F.excBase_ValueError F.x F.g F.k (raises_own F.b F.t) hg hdb)) fun D σ H h => by
  obtain ⟨P, F', ρ, S, h⟩ := h
  exact h σ H F' (Same.refl _) S⟩
end
/-! ### three values at once -/
def sPar3 (i j l : Nat) (a b c : Ex) : Sm := fun ρ => (a ρ).toS fun r ρ1 => (b ρ1).toS fun t ρ2 => (c ρ2).toS fun u ρ3 => .nx (((ρ3.set i (some r)).set j (some t)).set l (some u))
end Mi

namespace Mi
open PySem PySem.Spec PyProof.Rows L2

/-! ### defs as functions of values -/
inductive FR where
  | ret (r : Sl) (o : Env) | exc (c : Str) (o : Env) | no
abbrev Fn := List Sl → FR
def ioOf (vs : List V) : Nat → Option Addr := fun i => match vs[i]? with
  | some (.ref a) => some a
  | _ => none
def ioE : Option Sl → Option Sl
  | some (.io xs) => some (.io xs)
  | _ => none
def outs (n : Nat) (ρ : Env) : Env := (List.range n).map fun i => ioE (ρ[i]?).join
def FR.of (n : Nat) : SR → FR
  | .nx ρ => .ret (.fz .non) (outs n ρ)
  | .rt r ρ => .ret r (outs n ρ)
  | .ex c ρ => .exc c (outs n ρ)
  | _ => .no
/-- n parameters, k other names -/
def mkFn (n k : Nat) (body : Sm) : Fn := fun args => if args.length = n then FR.of n (body (args.map some ++ List.replicate k none)) else .no
def ToF (K : PySem.W.Frag) (vs : List V) (P F : Hp) (Q : VK) (E : XK) : FR → Prop
  | .ret r o => ∀ v H' F', Same F F' → St K (ioOf vs) P F' o (vs.map some) H' → Rel K P F' o (vs.map some) H' v r → Q v H'
  | .exc c o => ∀ H' F', Same F F' → St K (ioOf vs) P F' o (vs.map some) H' → E (excV K c) none H'
  | .no => False
def spF (K : PySem.W.Frag) (n : Nat) (f : Fn) : Sp := fun vs H Q E => vs.length = n ∧ ∃ P F args, St K (ioOf vs) P F (args.map some) (vs.map some) H ∧ ToF K vs P F Q E (f args)
section
variable {K : PySem.W.Frag} {W : WX} {io : Nat → Option Addr} {P F F' : Hp} {σ σ' : L2.St} {H H' : Hp} {ρ ρ' : Env}
/-- less of a state -/
theorem St.sub (S : St K io P F ρ σ H) (hl : ρ'.length = σ'.length) (h : ∀ (i : Nat) (s : Sl), ρ'[i]? = some (some s) → ρ[i]? = some (some s) ∧ ∀ v, σ[i]? = some (some v) → σ'[i]? = some (some v)) : St K io P F ρ' σ' H := by
  have ho : ∀ {i xs}, Own ρ' i xs → Own ρ i xs ∧ ∀ v, σ[i]? = some (some v) → σ'[i]? = some (some v) := fun {i xs} o => by
    rcases o with o | o
    · exact ⟨.inl (h i _ o).1, (h i _ o).2⟩
    · exact ⟨.inr (h i _ o).1, (h i _ o).2⟩
  have back : ∀ {i xs a}, Own ρ' i xs → σ'[i]? = some (some (.ref a)) → σ[i]? = some (some (.ref a)) := fun {i xs a} o e => by
    obtain ⟨o1, o2⟩ := ho o
    obtain ⟨b, vs, h1, _⟩ := S.ow i xs o1
    have := o2 _ h1
    rw [e] at this
    cases this
    exact h1
  refine ⟨S.fh, S.ph, S.pf, hl, fun i d e => ?_, fun i xs o => ?_, fun i xs a e e' => ?_, fun i j xs ys a o1 o2 e1 e2 => ?_⟩
  · obtain ⟨h1, h2⟩ := h i _ e
    obtain ⟨v, g1, g2⟩ := S.fz i d h1
    exact ⟨v, h2 v g1, g2⟩
  · obtain ⟨o1, o2⟩ := ho o
    obtain ⟨a, vs, g1, g2⟩ := S.ow i xs o1
    exact ⟨a, vs, o2 _ g1, g2⟩
  · exact S.ia i xs a (h i _ e).1 (back (.inr e) e')
  · exact S.ds i j xs ys a (ho o1).1 (ho o2).1 (back o1 e1) (back o2 e2)
theorem outs_get {n : Nat} {i : Nat} {s : Sl} (h : (outs n ρ)[i]? = some (some s)) : i < n ∧ ∃ xs, s = .io xs ∧ ρ[i]? = some (some (.io xs)) := by
  unfold outs at h
  rw [List.getElem?_map, Option.map_eq_some_iff] at h
  obtain ⟨j, h1, h2⟩ := h
  obtain ⟨hj, h1⟩ := List.getElem?_eq_some_iff.mp h1
  rw [List.getElem_range] at h1
  subst h1
  refine ⟨by simpa using hj, ?_⟩
  cases e : ρ[i]? with
  | none => rw [e] at h2; cases h2
  | some o =>
    rw [e] at h2
    cases o with
    | none => cases h2
    | some t =>
      cases t with
      | fz d => cases h2
      | ow xs => cases h2
      | io xs => cases h2; exact ⟨xs, rfl, rfl⟩
theorem outs_ow {n : Nat} {i : Nat} {xs : List D} (o : Own (outs n ρ) i xs) : i < n ∧ ρ[i]? = some (some (.io xs)) := by
  rcases o with o | o
  · obtain ⟨_, _, h, _⟩ := outs_get o
    cases h
  · obtain ⟨h1, _, h2, h3⟩ := outs_get o
    cases h2
    exact ⟨h1, h3⟩
/-- a def's end -/
theorem St.outs {vs : List V} {n : Nat} (S : St K (ioOf vs) P F ρ σ H) (hn : vs.length = n) : St K (ioOf vs) P F (outs n ρ) (vs.map some) H := by
  refine S.sub (by simp [Mi.outs, hn]) fun i s h => ?_
  obtain ⟨h1, xs, rfl, h2⟩ := outs_get h
  refine ⟨h2, fun v hv => ?_⟩
  obtain ⟨a, us, g1, _⟩ := S.ow i xs (.inr h2)
  rw [hv] at g1
  cases g1
  have e := S.ia i xs a h2 hv
  unfold ioOf at e
  rw [List.getElem?_map]
  cases q : vs[i]? with
  | none => rw [q] at e; cases e
  | some x =>
    rw [q] at e
    cases x <;> first | (cases e; done) | skip
    cases e
    rfl
theorem Rel.outs {vs : List V} {n : Nat} {v : V} {r : Sl} (S : St K (ioOf vs) P F ρ σ H) (R : Rel K P F ρ σ H v r) : Rel K P F (outs n ρ) (vs.map some) H v r := by
  cases r with
  | fz d => exact R
  | io xs => exact R
  | ow xs =>
    obtain ⟨a, us, rfl, h1, h2, h3, h4, h5⟩ := R
    refine ⟨a, us, rfl, h1, h2, h3, h4, fun i ys o e => ?_⟩
    obtain ⟨_, o2⟩ := outs_ow o
    obtain ⟨b, ws, g1, _⟩ := S.ow i ys (.inr o2)
    have e2 := S.ia i ys b o2 g1
    have e3 : vs[i]? = some (.ref a) := by
      rw [List.getElem?_map] at e
      obtain ⟨x, q1, q2⟩ := Option.map_eq_some_iff.mp e
      cases q2
      exact q1
    unfold ioOf at e2
    rw [e3] at e2
    cases e2
    exact h5 i ys (.inr o2) g1
theorem ToF.of {vs : List V} {n : Nat} {Q : VK} {E : XK} {r : SR} (hn : vs.length = n) (h : ToF K vs P F Q E (FR.of n r)) :
    ToS K (fun c d _ H => E c d H) (ioOf vs) P F { nx := fun _ H' => Q .non H', rt := Q } r := by
  cases r with
  | nx ρ' => exact fun σ' H' F' s S => h .non H' F' s (S.outs hn) rfl
  | rt r ρ' => exact fun v σ' H' F' s S R => h v H' F' s (S.outs hn) (R.outs S)
  | ex c ρ' => exact fun σ' H' F' s S => h H' F' s (S.outs hn)
  | bk ρ' => exact h.elim
  | ct ρ' => exact h.elim
  | no => exact h.elim
end

/-! ### room, and nothing that repr holds -/
structure RoomG (k : Nat) (A : Around) : Prop where
  room : Room k A
  gd : A.guards = some []
theorem RoomG.mono {j k : Nat} {A : Around} (r : RoomG k A) (h : j ≤ k) : RoomG j A := ⟨r.room.mono h, r.gd⟩
theorem RoomG.deeper {k : Nat} {A : Around} (r : RoomG (k + 1) A) (env : PySem.Env) : RoomG k (A.deeper env) := ⟨r.room.deeper env, r.gd⟩
/-- what a def promises, called with no repr under way -/
structure FnG (P : Program) (w : World) (K : PySem.W.Frag) (mg : Str → Option Value) (base : Heap) (k : Nat) (f : Addr) (fd : FuncData) (ps : List Str) (sp : Sp) : Prop where
  len : ∀ vs H Q E, sp vs H Q E → vs.length = ps.length
  go : ∀ (A : Around) (outer : List PySem.Env) (s : Shared) (H : Hp) (args : Args) (us : List Value) (vs : List V) (Q : VK) (E : XK), RoomG k A → Env0 P w K mg base A outer s H →
    BindsTo s fd args (ps.zip us) → Vals vs us → sp vs H Q E → codeAny (model P w) A (.call (.ref f) args) (CR (L2.CX P w) outer P w H s Q E) s
section
variable {P : Program} {w : World} {K : PySem.W.Frag} {mg : Str → Option Value} {base : Heap} {x qual : Str} {params : Arguments} {body : List Stmt} {scope : Scope} {dvs : List V} {kws : List (Str × V)} {f : Addr} {fd : FuncData} {N ps : List Str} {k : Nat} {sp : Sp}
theorem ce_of {CXx : CXT} {cdv : Value} {A : Around} {outer : List PySem.Env} {s s' : Shared} {H H' : Hp} {Q : VK} {E : XK} {σ' : L2.St} {v : V} {u : Value} (J : Inv (cxOf CXx P w K mg base N qual scope f cdv A outer s H E) [] σ' H' s') (rv : RelV v u) (q : Q v H') : CE outer P w H s Q u s' :=
  ⟨v, H', J.os, J.bare, J.base, J.hok, rv, q⟩
/-- the rule of a def whose body is walked with no repr under way -/
theorem fnG_of (F : FunD K x qual params body scope dvs kws f fd) (S : FnScope N ps scope) (len : ∀ vs H Q E, sp vs H Q E → vs.length = ps.length)
    (hbd : ∀ (cdv : Value) (A : Around) (outer : List PySem.Env) (s : Shared) (H : Hp) (vs : List V) (Q : VK) (E : XK), RoomG k (A.deeper (envOfC qual scope s.heap.objs.size f cdv)) → sp vs H Q E →
      ∃ t, PSs (cxOf (L2.CX P w) P w K mg base N qual scope f cdv A outer s H E) body t ∧ t { nx := fun _ H' => Q .non H', rt := Q } (L2.start N vs) H) :
    FnG P w K mg base (k + 1) f fd ps sp := by
  obtain ⟨oc, od, dV, kV, doc, pm, an, cdv, ct, osl, rfl, hlk, hcode, _⟩ := F.ex
  constructor
  · exact len
  intro A outer s H args us vs Q E room e0 hbind hv want
  have inK : K.In s.heap := PySem.W.Frag.In.keeps e0.mod.kin fun b o e => (e0.bs b o e).1
  have noL : s.heap.NoLimit := Heap.NoLimit.keeps e0.mod.nolimit fun b o e => (e0.bs b o e).1
  have kinds : ∀ y ∈ ps.zip us, scope.names.lookup y.1 = some .local ∨ (scope.names.lookup y.1 = some .cell ∧ ((cellsFrom (s.heap.objs.size + 1) scope.names []).lookup y.1).isSome = true) := by
    rintro ⟨y, z⟩ hy
    cases S.par y (List.of_mem_zip hy).1 with
    | inl h => exact Or.inl h
    | inr h => exact Or.inr ⟨h, PySem.W.cellsFrom_some _ _ _ (Or.inl h)⟩
  apply codeAny_call_function room.room.depth (inK _ _ hlk) rfl S.co S.gen rfl (PySem.W.codeRec_of inK hcode)
  apply hbind
  apply wpAny_newFunctionEnv_cells S.kind kinds
  rintro env rfl s1 ic
  constructor
  · exact noL.keeps ic.toInCall.keep
  apply codeAny_func
  obtain ⟨t, walk, start⟩ := hbd cdv A outer s H vs Q E (room.deeper _) want
  have st := walk.run [] s1 (L2.start N vs) H _ (inv_start S room.room.hd e0 (len _ _ _ _ want) hv ic) start
  refine wpAny_mono st ?_ fun e s' z => z
  intro fl s' z
  cases fl with
  | ret u => obtain ⟨v, σ', H', J, rv, q⟩ := z; exact ce_of J rv q
  | next => obtain ⟨σ', H', J, q⟩ := z; exact ce_of (v := V.non) (u := Value.none) J rfl q
  | brk => obtain ⟨_, _, _, q⟩ := z; exact q.elim
  | cont => obtain ⟨_, _, _, q⟩ := z; exact q.elim
end

/-! ### a def keeps its word -/
section
variable {P : Program} {w : World} {K : PySem.W.Frag} {mg : Str → Option Value} {base : Heap} {x qual : Str} {params : Arguments} {body : List Stmt} {scope : Scope} {dvs : List V} {kws : List (Str × V)} {f : Addr} {fd : FuncData} {N ps : List Str} {m : Sm}
/-- the context of its body -/
abbrev bx (P : Program) (w : World) (K : PySem.W.Frag) (mg : Str → Option Value) (base : Heap) (N : List Str) (qual : Str) (scope : Scope) (f : Addr) (cdv : Value) (A : Around) (outer : List PySem.Env) (s : Shared) (H : Hp) (E : XK) : Cx := cxOf (L2.CX P w) P w K mg base N qual scope f cdv A outer s H E
abbrev wx (E : XK) : WX := fun c d _ H => E c d H
theorem bx_takes {cdv : Value} {A : Around} {outer : List PySem.Env} {s : Shared} {H : Hp} {E : XK} : Takes (bx P w K mg base N qual scope f cdv A outer s H E) (wx E) := takes_of rfl rfl rfl rfl
theorem fn_ok {n k lev : Nat} (F : FunD K x qual params body scope dvs kws f fd) (S : FnScope N ps scope) (hn : ps.length = n) (hk : N.length = n + k)
    (hb : ∀ (cdv : Value) (A : Around) (outer : List PySem.Env) (s : Shared) (H : Hp) (E : XK) (io : Nat → Option Addr), RoomG lev (A.deeper (envOfC qual scope s.heap.objs.size f cdv)) → JSs (bx P w K mg base N qual scope f cdv A outer s H E) (wx E) io body m) :
    FnG P w K mg base (lev + 1) f fd ps (spF K n (mkFn n k m)) := by
  refine fnG_of F S (fun vs H Q E h => by rw [hn]; exact h.1) fun cdv A outer s H vs Q E hr h => ?_
  obtain ⟨hl, P', F', args, S0, h⟩ := h
  refine ⟨_, (hb cdv A outer s H E (ioOf vs) hr).ps, P', F', args.map some ++ List.replicate k none, ?_, ?_⟩
  · have hla : args.length = vs.length := by simpa using S0.len
    refine S0.sub (by unfold L2.start; simp [hla]; omega) fun i t hi => ?_
    have h1 : i < args.length := by
      by_cases h1 : i < args.length
      · exact h1
      · rw [List.getElem?_append_right (by simpa using h1), List.getElem?_replicate] at hi
        split at hi <;> cases hi
    rw [List.getElem?_append_left (by simpa using h1)] at hi
    refine ⟨hi, fun v hv => ?_⟩
    unfold L2.start
    rw [List.getElem?_append_left (by simpa using (hla ▸ h1))]
    exact hv
  · have hla : args.length = n := by rw [← hl]; simpa using S0.len
    have h : ToF K vs P' F' Q E (if args.length = n then FR.of n (m (args.map some ++ List.replicate k none)) else .no) := h
    rw [if_pos hla] at h
    exact h.of hl
end
/-! ### calls -/
def argO : Option (Option Sl) → Option Sl
  | some (some (.fz d)) => some (.fz d)
  | some (some (.ow xs)) => some (.io xs)
  | some (some (.io xs)) => some (.io xs)
  | _ => none
def argS (ρ : Env) : Pd → Option Sl
  | .d d => some (.fz d)
  | .i i => argO ρ[i]?
def argsS (ρ : Env) : List Pd → Option (List Sl)
  | [] => some []
  | p :: ps => match argS ρ p, argsS ρ ps with
    | some x, some xs => some (x :: xs)
    | _, _ => none
/-- what came of the list at slot i -/
def look (i : Nat) : List Pd → Env → Option (Option Sl)
  | .i j :: ps, o => if j = i then some (o.head?.join) else look i ps o.tail
  | .d _ :: ps, o => look i ps o.tail
  | [], _ => none
def back1 (i : Nat) (e : Option Sl) (ps : List Pd) (o : Env) : Option Sl := match e with
  | some (.ow xs) => match look i ps o with
    | none => some (.ow xs)
    | some (some (.io ys)) => some (.ow ys)
    | some _ => none
  | some (.io xs) => match look i ps o with
    | none => some (.io xs)
    | some (some (.io ys)) => some (.io ys)
    | some _ => none
  | e => e
def back (ρ : Env) (ps : List Pd) (o : Env) : Env := ρ.mapIdx fun i e => back1 i e ps o
def isOwn (ρ : Env) (i : Nat) : Bool := match ρ[i]? with
  | some (some (.ow _)) => true
  | some (some (.io _)) => true
  | _ => false
def Pd.at (i : Nat) : Pd → Bool
  | .i j => j == i
  | .d _ => false
def apart (ρ : Env) : List Pd → Bool
  | [] => true
  | .i i :: ps => (!isOwn ρ i || !ps.any (Pd.at i)) && apart ρ ps
  | .d _ :: ps => apart ρ ps
theorem look_some {i : Nat} : ∀ {ps : List Pd} {o : Env} {x : Option Sl}, look i ps o = some x → ∃ k : Nat, ps[k]? = some (Pd.i i) ∧ x = (o[k]?).join
  | .i j :: ps, o, x, h => by
    unfold look at h
    split at h
    · rename_i e
      subst e
      cases h
      exact ⟨0, rfl, by cases o <;> rfl⟩
    · obtain ⟨k, h1, h2⟩ := look_some h
      exact ⟨k + 1, by simpa using h1, by rw [h2]; cases o <;> simp⟩
  | .d _ :: ps, o, x, h => by
    obtain ⟨k, h1, h2⟩ := look_some (ps := ps) h
    exact ⟨k + 1, by simpa using h1, by rw [h2]; cases o <;> simp⟩
  | [], _, _, h => by cases h
theorem look_none {i : Nat} : ∀ {ps : List Pd} {o : Env}, look i ps o = none → ∀ k : Nat, ps[k]? ≠ some (Pd.i i)
  | .i j :: ps, o, h, k, e => by
    unfold look at h
    split at h
    · cases h
    · rename_i hj
      cases k with
      | zero => simp at e; exact hj e
      | succ k => exact look_none h k (by simpa using e)
  | .d _ :: ps, o, h, k, e => by
    cases k with
    | zero => simp at e
    | succ k => exact look_none (ps := ps) h k (by simpa using e)
  | [], _, _, k, e => by simp at e
theorem apart_eq {ρ : Env} {i : Nat} (ho : isOwn ρ i = true) : ∀ {ps : List Pd} {k l : Nat}, apart ρ ps = true → ps[k]? = some (.i i) → ps[l]? = some (.i i) → k = l
  | [], k, l, _, e, _ => by simp at e
  | p :: ps, k, l, h, e1, e2 => by
    have rest : apart ρ ps = true := by
      cases p with
      | d _ => exact h
      | i j => exact (Bool.and_eq_true _ _ ▸ (show ((!isOwn ρ j || !ps.any (Pd.at j)) && apart ρ ps) = true from h)).2
    have hd : p = .i i → ∀ k : Nat, ps[k]? ≠ some (Pd.i i) := fun e k e3 => by
      subst e
      have h := (Bool.and_eq_true _ _ ▸ (show ((!isOwn ρ i || !ps.any (Pd.at i)) && apart ρ ps) = true from h)).1
      rw [ho] at h
      have h : ps.any (Pd.at i) = false := by simpa using h
      have h2 := List.any_eq_false.mp h (.i i) (List.mem_of_getElem? e3)
      simp [Pd.at] at h2
    cases k with
    | zero =>
      cases l with
      | zero => rfl
      | succ l => exact absurd (by simpa using e2) (hd (by simpa using e1) l)
    | succ k =>
      cases l with
      | zero => exact absurd (by simpa using e1) (hd (by simpa using e2) k)
      | succ l => exact congrArg Nat.succ (apart_eq ho rest (by simpa using e1) (by simpa using e2))

theorem isOwn_of {ρ : Env} {i : Nat} {xs : List D} (o : Own ρ i xs) : isOwn ρ i = true := by
  unfold isOwn
  rcases o with o | o <;> rw [o]
theorem argsS_get {ρ : Env} : ∀ {ps : List Pd} {args : List Sl} {k : Nat} {s : Sl}, argsS ρ ps = some args → args[k]? = some s → ∃ p, ps[k]? = some p ∧ argS ρ p = some s
  | [], args, k, s, h, e => by
    cases h
    simp at e
  | p :: ps, args, k, s, h, e => by
    unfold argsS at h
    cases e1 : argS ρ p with
    | none => rw [e1] at h; cases h
    | some x =>
      cases e2 : argsS ρ ps with
      | none => rw [e1, e2] at h; cases h
      | some xs =>
        rw [e1, e2] at h
        cases h
        cases k with
        | zero =>
          simp at e
          subst e
          exact ⟨p, rfl, e1⟩
        | succ k =>
          obtain ⟨q, h1, h2⟩ := argsS_get (k := k) (s := s) e2 (by simpa using e)
          exact ⟨q, by simpa using h1, h2⟩
theorem argsS_len {ρ : Env} : ∀ {ps : List Pd} {args : List Sl}, argsS ρ ps = some args → args.length = ps.length
  | [], args, h => by cases h; rfl
  | p :: ps, args, h => by
    unfold argsS at h
    cases e1 : argS ρ p with
    | none => rw [e1] at h; cases h
    | some x =>
      cases e2 : argsS ρ ps with
      | none => rw [e1, e2] at h; cases h
      | some xs =>
        rw [e1, e2] at h
        cases h
        simp [argsS_len e2]
section
variable {K : PySem.W.Frag} {W : WX} {io : Nat → Option Addr} {P F F' : Hp} {σ : L2.St} {H H' : Hp} {ρ : Env}
theorem PdRL.len : ∀ {vs : List V} {ps : List Pd}, PdRL K F σ vs ps → vs.length = ps.length
  | [], [], _ => rfl
  | _ :: _, _ :: _, ⟨_, h⟩ => congrArg Nat.succ (PdRL.len h)
  | [], _ :: _, h => h.elim
  | _ :: _, [], h => h.elim
theorem PdRL.get : ∀ {vs : List V} {ps : List Pd} {k : Nat} {p : Pd}, PdRL K F σ vs ps → ps[k]? = some p → ∃ v, vs[k]? = some v ∧ PdR K F σ v p
  | [], [], _, _, _, e => by simp at e
  | v :: vs, q :: ps, 0, p, ⟨h1, _⟩, e => by
    simp at e
    subst e
    exact ⟨v, rfl, h1⟩
  | v :: vs, q :: ps, k + 1, p, ⟨_, h⟩, e => by
    obtain ⟨u, h1, h2⟩ := PdRL.get (k := k) (p := p) h (by simpa using e)
    exact ⟨u, by simpa using h1, h2⟩
  | [], _ :: _, _, _, h, _ => h.elim
  | _ :: _, [], _, _, h, _ => h.elim
open Classical in
/-- the lists at hand that are not handed in stay as they are -/
noncomputable def rest (P H : Hp) (ρ : Env) (σ : L2.St) (ps : List Pd) : Hp := fun a => if (∃ (i : Nat) (xs : List D), Own ρ i xs ∧ σ[i]? = some (some (.ref a)) ∧ ∀ k : Nat, ps[k]? ≠ some (Pd.i i)) then H a else P a
theorem rest_in {ps : List Pd} {i : Nat} {xs : List D} {a : Addr} (o : Own ρ i xs) (e : σ[i]? = some (some (.ref a))) (h : ∀ k : Nat, ps[k]? ≠ some (Pd.i i)) : rest P H ρ σ ps a = H a := if_pos ⟨i, xs, o, e, h⟩
theorem rest_same (S : St K io P F ρ σ H) (ps : List Pd) : Same P (rest P H ρ σ ps) := fun a o e => by
  unfold rest
  split
  · exact S.ph a o e
  · exact e
theorem own_arg {ps : List Pd} {args : List Sl} {k : Nat} {xs : List D} (ha : argsS ρ ps = some args) (o : Own (args.map some) k xs) : ∃ i, ps[k]? = some (Pd.i i) ∧ Own ρ i xs := by
  have key : args[k]? = some (.ow xs) ∨ args[k]? = some (.io xs) := by
    rcases o with o | o
    · rw [List.getElem?_map] at o
      obtain ⟨x, h1, h2⟩ := Option.map_eq_some_iff.mp o
      cases h2
      exact .inl h1
    · rw [List.getElem?_map] at o
      obtain ⟨x, h1, h2⟩ := Option.map_eq_some_iff.mp o
      cases h2
      exact .inr h1
  have go : ∀ s, args[k]? = some s → (s = .ow xs ∨ s = .io xs) → ∃ i, ps[k]? = some (Pd.i i) ∧ Own ρ i xs := fun s h hs => by
    obtain ⟨p, h1, h2⟩ := argsS_get ha h
    cases p with
    | d d => cases h2; rcases hs with hs | hs <;> cases hs
    | i i =>
      refine ⟨i, h1, ?_⟩
      have h2 : argO ρ[i]? = _ := h2
      cases q : ρ[i]? with
      | none => rw [q] at h2; cases h2
      | some o =>
        rw [q] at h2
        cases o with
        | none => cases h2
        | some t =>
          cases t with
          | fz d => cases h2; rcases hs with hs | hs <;> cases hs
          | ow ys =>
            cases h2
            rcases hs with hs | hs
            · cases hs
            · cases hs
              exact .inl q
          | io ys =>
            cases h2
            rcases hs with hs | hs
            · cases hs
            · cases hs
              exact .inr q
  rcases key with h | h
  · exact go _ h (.inl rfl)
  · exact go _ h (.inr rfl)
/-- the callee's state -/
theorem St.enter {ps : List Pd} {args : List Sl} {vs : List V} (S : St K io P F ρ σ H) (R : PdRL K F σ vs ps) (ha : argsS ρ ps = some args) (hp : apart ρ ps = true) : St K (ioOf vs) (rest P H ρ σ ps) F (args.map some) (vs.map some) H := by
  have at_ : ∀ {k : Nat} {i : Nat} {a : Addr}, ps[k]? = some (Pd.i i) → (vs.map some)[k]? = some (some (.ref a)) → σ[i]? = some (some (.ref a)) := fun {k i a} h e => by
    obtain ⟨v, h1, h2⟩ := R.get h
    rw [List.getElem?_map, h1] at e
    cases e
    exact h2
  refine ⟨S.fh, fun a o e => ?_, fun a o e => ?_, by simp [argsS_len ha, R.len], fun k d e => ?_, fun k xs o => ?_, fun k xs a e e' => ?_, fun k l xs ys a o1 o2 e1 e2 => ?_⟩
  · unfold rest at e
    split at e
    · exact e
    · exact S.ph a o e
  · unfold rest at e
    split at e
    · rename_i h
      obtain ⟨i, xs, o1, o2, _⟩ := h
      obtain ⟨b, us, h1, _, _, h4, _⟩ := S.ow i xs o1
      rw [o2] at h1
      cases h1
      exact h4
    · exact S.pf a o e
  · rw [List.getElem?_map] at e
    obtain ⟨s, e1, e2⟩ := Option.map_eq_some_iff.mp e
    cases e2
    obtain ⟨p, h1, h2⟩ := argsS_get ha e1
    obtain ⟨v, h3, h4⟩ := R.get h1
    refine ⟨v, by rw [List.getElem?_map, h3]; rfl, ?_⟩
    cases p with
    | d d' => cases h2; exact h4
    | i i =>
      have h4 : σ[i]? = some (some v) := h4
      have h2 : argO ρ[i]? = _ := h2
      cases q : ρ[i]? with
      | none => rw [q] at h2; cases h2
      | some o =>
        rw [q] at h2
        cases o with
        | none => cases h2
        | some t =>
          cases t with
          | ow ys => cases h2
          | io ys => cases h2
          | fz d' =>
            cases h2
            obtain ⟨u, g1, g2⟩ := S.fz i d q
            rw [h4] at g1
            cases g1
            exact g2
  · obtain ⟨i, h1, h2⟩ := own_arg ha o
    obtain ⟨a, us, g1, g2, g3, g4, g5⟩ := S.ow i xs h2
    obtain ⟨v, h3, h4⟩ := R.get h1
    have h4 : σ[i]? = some (some v) := h4
    rw [g1] at h4
    cases h4
    refine ⟨a, us, by rw [List.getElem?_map, h3]; rfl, g2, g3, g4, ?_⟩
    unfold rest
    rw [if_neg]
    · exact g5
    · rintro ⟨j, ys, o2, e2, h5⟩
      have := S.ds i j xs ys a h2 o2 g1 e2
      subst this
      exact h5 k h1
  · rw [List.getElem?_map] at e'
    obtain ⟨v, h1, h2⟩ := Option.map_eq_some_iff.mp e'
    cases h2
    unfold ioOf
    rw [h1]
  · obtain ⟨i, h1, h2⟩ := own_arg ha o1
    obtain ⟨j, h3, h4⟩ := own_arg ha o2
    have := S.ds i j xs ys a h2 h4 (at_ h1 e1) (at_ h3 e2)
    subst this
    exact apart_eq (isOwn_of h2) hp h1 h3
theorem back_get {ps : List Pd} {o : Env} {i : Nat} {s : Sl} (h : (back ρ ps o)[i]? = some (some s)) : ∃ e, ρ[i]? = some e ∧ back1 i e ps o = some s := by
  unfold back at h
  rw [List.getElem?_mapIdx] at h
  obtain ⟨e, h1, h2⟩ := Option.map_eq_some_iff.mp h
  exact ⟨e, h1, h2⟩
theorem back_own {ps : List Pd} {o : Env} {i : Nat} {ys : List D} (h : Own (back ρ ps o) i ys) : (Own ρ i ys ∧ ∀ k : Nat, ps[k]? ≠ some (Pd.i i)) ∨ ∃ (k : Nat) (xs : List D), ps[k]? = some (Pd.i i) ∧ Own ρ i xs ∧ o[k]? = some (some (.io ys)) := by
  have go : ∀ s, (back ρ ps o)[i]? = some (some s) → s = .ow ys ∨ s = .io ys → (Own ρ i ys ∧ ∀ k : Nat, ps[k]? ≠ some (Pd.i i)) ∨ ∃ (k : Nat) (xs : List D), ps[k]? = some (Pd.i i) ∧ Own ρ i xs ∧ o[k]? = some (some (.io ys)) := fun s h hs => by
    obtain ⟨e, h1, h2⟩ := back_get h
    have at2 : ∀ {x : Option Sl}, look i ps o = some x → x = some (.io ys) → ∃ k : Nat, ps[k]? = some (Pd.i i) ∧ o[k]? = some (some (.io ys)) := fun {x} hl hx => by
      obtain ⟨k, g1, g2⟩ := look_some hl
      refine ⟨k, g1, ?_⟩
      rw [hx] at g2
      cases q : o[k]? with
      | none => rw [q] at g2; cases g2
      | some z =>
        rw [q] at g2
        exact congrArg some g2.symm
    cases e with
    | none => cases h2
    | some t =>
      cases t with
      | fz d => cases h2; rcases hs with hs | hs <;> cases hs
      | ow xs =>
        unfold back1 at h2
        cases hl : look i ps o with
        | none =>
          rw [hl] at h2
          cases h2
          rcases hs with hs | hs
          · cases hs; exact .inl ⟨.inl h1, look_none hl⟩
          · cases hs
        | some x =>
          rw [hl] at h2
          cases x with
          | none => cases h2
          | some x =>
            cases x with
            | fz d => cases h2
            | ow zs => cases h2
            | io zs =>
              cases h2
              rcases hs with hs | hs
              · cases hs
                obtain ⟨k, g1, g2⟩ := at2 hl rfl
                exact .inr ⟨k, xs, g1, .inl h1, g2⟩
              · cases hs
      | io xs =>
        unfold back1 at h2
        cases hl : look i ps o with
        | none =>
          rw [hl] at h2
          cases h2
          rcases hs with hs | hs
          · cases hs
          · cases hs; exact .inl ⟨.inr h1, look_none hl⟩
        | some x =>
          rw [hl] at h2
          cases x with
          | none => cases h2
          | some x =>
            cases x with
            | fz d => cases h2
            | ow zs => cases h2
            | io zs =>
              cases h2
              rcases hs with hs | hs
              · cases hs
              · cases hs
                obtain ⟨k, g1, g2⟩ := at2 hl rfl
                exact .inr ⟨k, xs, g1, .inr h1, g2⟩
  rcases h with h | h
  · exact go _ h (.inl rfl)
  · exact go _ h (.inr rfl)
theorem back_fz {ps : List Pd} {o : Env} {i : Nat} {d : D} (h : (back ρ ps o)[i]? = some (some (.fz d))) : ρ[i]? = some (some (.fz d)) := by
  obtain ⟨e, h1, h2⟩ := back_get h
  cases e with
  | none => cases h2
  | some t =>
    cases t with
    | fz d' => cases h2; exact h1
    | ow xs =>
      unfold back1 at h2
      cases hl : look i ps o with
      | none => rw [hl] at h2; cases h2
      | some x =>
        rw [hl] at h2
        cases x with
        | none => cases h2
        | some x => cases x <;> cases h2
    | io xs =>
      unfold back1 at h2
      cases hl : look i ps o with
      | none => rw [hl] at h2; cases h2
      | some x =>
        rw [hl] at h2
        cases x with
        | none => cases h2
        | some x => cases x <;> cases h2
theorem back_io {ps : List Pd} {o : Env} {i : Nat} {ys : List D} (h : (back ρ ps o)[i]? = some (some (.io ys))) : ∃ xs, ρ[i]? = some (some (.io xs)) := by
  obtain ⟨e, h1, h2⟩ := back_get h
  cases e with
  | none => cases h2
  | some t =>
    cases t with
    | fz d' => cases h2
    | ow xs =>
      unfold back1 at h2
      cases hl : look i ps o with
      | none => rw [hl] at h2; cases h2
      | some x =>
        rw [hl] at h2
        cases x with
        | none => cases h2
        | some x => cases x <;> cases h2
    | io xs => exact ⟨xs, h1⟩
section
variable {ps : List Pd} {vs : List V} {o : Env}
/-- behind the call -/
theorem St.leave (S : St K io P F ρ σ H) (R : PdRL K F σ vs ps) (s : Same F F') (S' : St K (ioOf vs) (rest P H ρ σ ps) F' o (vs.map some) H') : St K io P F' (back ρ ps o) σ H' := by
  have sP := rest_same S ps
  have own : ∀ {i ys}, Own (back ρ ps o) i ys → ∃ xs, Own ρ i xs := fun {i ys} h => by
    rcases back_own h with ⟨h, _⟩ | ⟨k, xs, _, h, _⟩
    · exact ⟨_, h⟩
    · exact ⟨_, h⟩
  refine ⟨S'.fh, sP.trans S'.ph, fun a x e => S'.pf a x (sP a x e), by simp [back, S.len], fun i d e => ?_, fun i ys h => ?_, fun i ys a e e' => ?_, fun i j xs ys a o1 o2 e1 e2 => ?_⟩
  · obtain ⟨v, h1, h2⟩ := S.fz i d (back_fz e)
    exact ⟨v, h1, h2.mono s⟩
  · rcases back_own h with ⟨h, hn⟩ | ⟨k, xs, hk, h, ho⟩
    · obtain ⟨a, us, g1, g2, g3, g4, g5⟩ := S.ow i ys h
      have hr : rest P H ρ σ ps a = some (.lst us) := by rw [rest_in h g1 hn, g2]
      exact ⟨a, us, g1, S'.ph a _ hr, g3.mono s, S'.pf a _ hr, g5⟩
    · obtain ⟨a, us, g1, g2, g3, g4, g5⟩ := S'.ow k ys (.inr ho)
      obtain ⟨v, h1, h2⟩ := R.get hk
      have h2 : σ[i]? = some (some v) := h2
      rw [List.getElem?_map, h1] at g1
      cases g1
      exact ⟨a, us, h2, g2, g3, g4, sP.free g5⟩
  · obtain ⟨xs, h⟩ := back_io e
    exact S.ia i xs a h e'
  · obtain ⟨xs', o1'⟩ := own o1
    obtain ⟨ys', o2'⟩ := own o2
    exact S.ds i j xs' ys' a o1' o2' e1 e2
theorem Rel.leave {v : V} {r : Sl} (S : St K io P F ρ σ H) (R : PdRL K F σ vs ps) (S' : St K (ioOf vs) (rest P H ρ σ ps) F' o (vs.map some) H') (q : Rel K (rest P H ρ σ ps) F' o (vs.map some) H' v r) : Rel K P F' (back ρ ps o) σ H' v r := by
  cases r with
  | fz d => exact q
  | io xs => exact q
  | ow xs =>
    obtain ⟨a, us, rfl, h1, h2, h3, h4, h5⟩ := q
    refine ⟨a, us, rfl, h1, h2, h3, (rest_same S ps).free h4, fun i ys h e => ?_⟩
    rcases back_own h with ⟨h, hn⟩ | ⟨k, xs', hk, h, ho⟩
    · obtain ⟨b, ws, g1, g2, _⟩ := S.ow i ys h
      rw [g1] at e
      cases e
      rw [rest_in h g1 hn, g2] at h4
      cases h4
    · obtain ⟨u, g1, g2⟩ := R.get hk
      have g2 : σ[i]? = some (some u) := g2
      rw [e] at g2
      cases g2
      exact h5 k ys (.inr ho) (by rw [List.getElem?_map, g1]; rfl)
end
end
def ofF (ρ : Env) (ps : List Pd) : FR → R Sl
  | .ret r o => .ok r (back ρ ps o)
  | .exc c o => .ex c (back ρ ps o)
  | .no => .no
/-- g: how the values are laid out for the parameters -/
def mCallG (f : Fn) (g : List Pd → List Pd) (os : List Opd) : Ex := fun ρ => if os.all (okV ρ) then (runO os ρ).bind fun ps ρ1 => match argsS ρ1 (g ps) with
  | some args => if apart ρ1 (g ps) then ofF ρ1 (g ps) (f args) else .no
  | none => .no else .no
theorem runO_len : ∀ {os : List Opd} {ρ ρ' : Env} {ps : List Pd}, runO os ρ = .ok ps ρ' → ps.length = os.length
  | [], ρ, ρ', ps, h => by cases h; rfl
  | o :: os, ρ, ρ', ps, h => by
    unfold runO at h
    cases e1 : o.run ρ with
    | ex c ρ1 => rw [e1] at h; cases h
    | no => rw [e1] at h; cases h
    | ok p ρ1 =>
      rw [e1] at h
      have h : ((runO os ρ1).bind fun ps ρ2 => .ok (p :: ps) ρ2) = .ok ps ρ' := h
      cases e2 : runO os ρ1 with
      | ex c ρ1 => rw [e2] at h; cases h
      | no => rw [e2] at h; cases h
      | ok qs ρ2 =>
        rw [e2] at h
        cases h
        exact congrArg Nat.succ (runO_len e2)
theorem runO_bind {β : Type} (os : List Opd) (ρ : Env) (f : List Pd → Env → R β) : (runO os ρ).bind f = (runO os ρ).bind fun ps ρ1 => if ps.length = os.length then f ps ρ1 else .no := by
  cases e : runO os ρ with
  | ex c ρ1 => rfl
  | no => rfl
  | ok ps ρ1 => 
    show f ps ρ1 = if ps.length = os.length then f ps ρ1 else .no
    rw [if_pos (runO_len e)]
def mCall (f : Fn) (os : List Opd) : Ex := mCallG f (fun ps => ps) os
section
variable {X : Cx} {W : WX} {io : Nat → Option Addr} {P F : Hp} {σ : L2.St} {H : Hp} {ρ : Env} {Q : VK}
/-- a call where it is -/
theorem call_core {n : Nat} {f : Fn} {ps : List Pd} {vs : List V} (hn : ps.length = n) (S : St X.K io P F ρ σ H) (R : PdRL X.K F σ vs ps)
    (h : ToE X.K W io P F σ Q (match argsS ρ ps with
      | some args => if apart ρ ps then ofF ρ ps (f args) else .no
      | none => .no)) : spF X.K n f vs H Q (fun c d H' => W c d σ H') := by
  cases ha : argsS ρ ps with
  | none => rw [ha] at h; exact (show False from h).elim
  | some args =>
    rw [ha] at h
    obtain ⟨hp, h⟩ := toE_if (show ToE X.K W io P F σ Q (if apart ρ ps then ofF ρ ps (f args) else .no) from h)
    refine ⟨by rw [R.len, hn], _, F, args, S.enter R ha hp, ?_⟩
    cases e : f args with
    | ret r o =>
      rw [e] at h
      exact fun v H' F' s S' q => h v H' F' s (S.leave R s S') (q.leave S R S')
    | exc c o =>
      rw [e] at h
      exact fun H' F' s S' => h H' F' s (S.leave R s S')
    | no =>
      rw [e] at h
      exact h
end
section
variable {X : Cx} {W : WX} {io : Nat → Option Addr} {k n : Nat} {fa : Addr} {fd : FuncData} {ps : List Str} {f : Fn} {x : Str} {p pos : Pos} {e : Expr} {es : List Expr} {os : List Opd}
theorem run_fnG {pins : List (Addr × Obj)} {σ : L2.St} {H : Hp} {s : Shared} {Q : VK} {us : List Value} {vs : List V} (tk : Takes X W) (F : FnG X.prog X.w X.K X.mg X.base k fa fd ps (spF X.K n f)) (hr : RoomG k X.A) (hb : Binds X.K fd ps [])
    (I : Inv X pins σ H s) (r : Vals vs us) (h : spF X.K n f vs H Q (WE W σ)) : wpAny (model X.prog X.w) X.A (call (.ref fa) us) (EP X pins σ Q) X.xe s := by
  have b := hb s us I.kIn (by rw [List.append_nil, ← r.length]; exact F.len _ _ _ _ h)
  rw [List.append_nil] at b
  apply wpAny_call
  refine codeAny_mono (F.go X.A X.stack s H ⟨us, []⟩ us vs Q (WE W σ) hr I.env0 b r h) ?_
  intro z s' hz
  match z, hz with
  | .error e, hz => exact passAt tk σ pins H s e s' I hz
  | .ok (.ret u), hz => exact I.after hz
theorem pe_callG {t : TA} (tk : Takes X W) (F : FnG X.prog X.w X.K X.mg X.base k fa fd ps (spF X.K n f)) (hr : RoomG k X.A) (hg : Gl X x) (hm : X.mg x = some (.ref fa)) (hk : PySem.W.keepIn X.K (.ref fa) = true) (hb : Binds X.K fd ps []) (ha : PA X (e :: es) t)
    (hdb : (x == ("__debug__" : Str)) = false) (he : starEach (e :: es) X.env = (false, eval e X.env) :: starEach es X.env) (hpl : (backTo pos (starEach es X.env)).any (·.1) = false) :
    PE X (.Call (.Name x p) (e :: es) [] pos) (tCallS (spF X.K n f) (fun σ => WE W σ) t) := by
  constructor
  intro pins s σ H Q I h
  apply wpAny_Call_Name_kw (ld_glob I hg hm ?_ hdb)
  exact PySem.W.callWith_K (h₀ := X.base) I.ok.mod.kin hk (thn (ha.run pos pins s σ H _ I h) fun us s1 ⟨vs, H1, I1, r, q⟩ => ⟨I1.kIn, run_fnG tk F hr hb I1 r q⟩) he hpl
/-- f(e, ..) -/
theorem je_call (tk : Takes X W) (F : FnG X.prog X.w X.K X.mg X.base k fa fd ps (spF X.K n f)) (hr : RoomG k X.A) (hm : X.mg x = some (.ref fa)) (hk : PySem.W.keepIn X.K (.ref fa) = true) (hb : Binds X.K fd ps []) (ho : JOs X W io (e :: es) os) (hl : os.length = n)
    (hg : Gl X x := by rfl) (hdb : (x == ("__debug__" : Str)) = false := by decide) (he : starEach (e :: es) X.env = (false, eval e X.env) :: starEach es X.env := by rfl) (hpl : (backTo pos (starEach es X.env)).any (·.1) = false := by rfl) :
    JE X W io (.Call (.Name x p) (e :: es) [] pos) (mCall f os) := ⟨pei (pe_callG tk F hr hg hm hk hb ho.pa hdb he hpl) fun σ H Q h => by
  obtain ⟨P, F, ρ, S, h⟩ := h
  obtain ⟨hc, h⟩ := toE_if h
  rw [runO_bind] at h
  refine tOs_bind os S h (fun ps ρ1 vs H1 F1 s1 S1 R1 h1 => ?_) fun i hi => okV_v S (List.all_eq_true.mp hc _ hi) i rfl
  obtain ⟨hl1, h1⟩ := toE_ifp h1
  exact call_core (hl1.trans hl) S1 R1 h1⟩
end
end Mi

namespace Mi
open PySem PySem.Spec PyProof.Rows L2

/-! ### targets in a block: what else stays -/
def tGw (K : PySem.W.Frag) (io : Nat → Option Addr) (ws : List Nat) (g : Tg) : TG := fun v σ H Q => ∃ P F ρ d, St K io P F ρ σ H ∧ Fz K F d v ∧ ∃ ρ', g d ρ = some ρ' ∧ ∀ σ' H' F', Same F F' → wipe σ' ws = wipe σ ws → St K io P F' ρ' σ' H' → Q σ' H'
def tGsw (K : PySem.W.Frag) (io : Nat → Option Addr) (ws : List Nat) (g : Tgs) : TGs := fun vs σ H Q => ∃ P F ρ ds, St K io P F ρ σ H ∧ FzL K F ds vs ∧ ∃ ρ', g ds ρ = some ρ' ∧ ∀ σ' H' F', Same F F' → wipe σ' ws = wipe σ ws → St K io P F' ρ' σ' H' → Q σ' H'
structure JGw (X : Cx) (io : Nat → Option Addr) (ws : List Nat) (e : Expr) (g : Tg) : Prop where
  pg : PG X e (tGw X.K io ws g)
structure JGsw (X : Cx) (io : Nat → Option Addr) (ws : List Nat) (e : List Expr) (g : Tgs) : Prop where
  pgs : PGs X e (tGsw X.K io ws g)
theorem wipe_set {σ : L2.St} {i : Nat} {v : V} : ∀ {ws : List Nat}, i ∈ ws → wipe (σ.set i (some v)) ws = wipe σ ws := fun {ws} h => by
  refine List.ext_getElem? fun j => ?_
  by_cases hj : j ∈ ws
  · have key : ∀ (τ : L2.St), (wipe τ ws)[j]? = if j < τ.length then some none else none := fun τ => by
      by_cases hl : j < τ.length
      · rw [if_pos hl]
        have hl2 : j < (wipe τ ws).length := by rw [wipe_length]; exact hl
        rw [List.getElem?_eq_getElem hl2]
        cases e : (wipe τ ws)[j] with
        | none => rfl
        | some x =>
          have : (wipe τ ws)[j]? = some (some x) := by rw [List.getElem?_eq_getElem hl2, e]
          exact absurd hj (wipe_some this).2
      · rw [if_neg hl]
        exact List.getElem?_eq_none (by rw [wipe_length]; omega)
    rw [key, key, List.length_set]
  · rw [wipe_out hj, wipe_out hj, List.getElem?_set_ne (fun e : i = j => hj (by rw [← e]; exact h))]
section
variable {X : Cx} {io : Nat → Option Addr} {ws : List Nat} {pos : Pos} {e : Expr}
theorem jgw_name (i : Nat) {x : Str} (hN : X.N.Nodup) (hw : i ∈ ws := by decide) (hi : X.N[i]? = some x := by rfl) (hx : Loc X.env.scope x := by first | exact Or.inl rfl | exact Or.inr rfl) (hf : X.fn x = true ∨ X.env.scope.names.lookup x = some .local := by first | exact .inl rfl | exact .inr rfl) : JGw X io ws (.Name x pos) (gNm i) :=
  ⟨pgi (pg_name hN hi hx hf) fun v σ H Q h => by
    obtain ⟨P, F, ρ, d, S, q, ρ', e, h⟩ := h
    cases e
    exact h _ H F (Same.refl _) (wipe_set hw) (S.store (r := .fz d) q)⟩
theorem jgsw_nil : JGsw X io ws [] gsNil := ⟨pgsi pgs_nil fun vs σ H Q h => by
  obtain ⟨P, F, ρ, ds, S, q, ρ', e, h⟩ := h
  cases ds with
  | cons _ _ => cases e
  | nil =>
    cases e
    exact ⟨q, h σ H F (Same.refl _) rfl S⟩⟩
theorem jgsw_cons {g : Tg} {r : Tgs} {es : List Expr} (h1 : JGw X io ws e g) (h2 : JGsw X io ws es r) (hs : (assignEach (e :: es) X.env).map (·.2) = assign e X.env :: (assignEach es X.env).map (·.2) := by rfl) : JGsw X io ws (e :: es) (gsCons g r) :=
  ⟨pgsi (pgs_cons h1.pg h2.pgs hs) fun vs σ H Q h => by
    obtain ⟨P, F, ρ, ds, S, q, ρ', e, h⟩ := h
    cases ds with
    | nil => cases e
    | cons d ds =>
      obtain ⟨v, us, rfl, q1, q2⟩ := q
      obtain ⟨ρ1, e1, e2⟩ := Option.bind_eq_some_iff.mp e
      exact ⟨v, us, rfl, P, F, ρ, d, S, q1, ρ1, e1, fun σ1 H1 F1 s1 w1 S1 => ⟨P, F1, ρ1, ds, S1, q2.mono s1, ρ', e2, fun σ2 H2 F2 s2 w2 S2 => h σ2 H2 F2 (s1.trans s2) (w2.trans w1) S2⟩⟩⟩
theorem jgw_seq {es : List Expr} {k : Nat} {g : Tgs} {n : Nat} (hc : X.calm = true) (h : JGsw X io ws es g)
    (hn : (assignEach es X.env).length = n := by rfl) (hst : (assignEach es X.env).findIdx? (·.1) = none := by rfl) : JGw X io ws (.Tuple es k pos) (gSeq n g) := ⟨pgi (pg_seq hc h.pgs hn hst) fun v σ H Q h => by
  obtain ⟨P, F, ρ, d, S, q, ρ', e, h⟩ := h
  obtain ⟨ds, e1, e2⟩ := Option.bind_eq_some_iff.mp e
  have hl : ds.length = n ∧ g ds ρ = some ρ' := by
    split at e2
    · rename_i hl
      exact ⟨hl, e2⟩
    · cases e2
  cases d <;> first | (cases e1; done) | skip
  · cases e1
    obtain ⟨a, vs, rfl, h1, h2⟩ := q
    exact .inl ⟨a, vs, rfl, same_seqT S.fh h1, by rw [← h2.length]; exact hl.1, P, F, ρ, ds, S, h2, ρ', hl.2, h⟩
  · cases e1
    obtain ⟨a, vs, rfl, h1, h2⟩ := q
    exact .inr ⟨a, vs, rfl, .inl (.inl (S.fh _ _ h1)), by rw [← h2.length]; exact hl.1, P, F, ρ, ds, S, h2, ρ', hl.2, h⟩⟩
end
/-! ### the block's own slots -/
def wipeE (ρ : Env) (ws : List Nat) : Env := ρ.mapIdx fun i e => if ws.contains i then none else e
def unwipe (ws : List Nat) (ρ1 ρ2 : Env) : Env := ρ2.mapIdx fun i e => if ws.contains i then (match ρ1[i]? with
  | some (some (.fz d)) => some (.fz d)
  | _ => none) else e
section
variable {K : PySem.W.Frag} {io : Nat → Option Addr} {P F F1 F2 : Hp} {σ : L2.St} {H H1 H2 : Hp} {ρ ρ1 ρ2 : Env} {ws : List Nat}
theorem wipeE_get {i : Nat} {s : Sl} (h : (wipeE ρ ws)[i]? = some (some s)) : ρ[i]? = some (some s) ∧ i ∉ ws := by
  unfold wipeE at h
  rw [List.getElem?_mapIdx] at h
  obtain ⟨e, h1, h2⟩ := Option.map_eq_some_iff.mp h
  by_cases hi : ws.contains i = true
  · rw [if_pos hi] at h2; cases h2
  · rw [if_neg hi] at h2
    subst h2
    exact ⟨h1, by simpa using hi⟩
theorem St.wipe (S : St K io P F ρ σ H) : St K io P F (wipeE ρ ws) (wipe σ ws) H := by
  refine S.sub (by unfold wipeE; rw [List.length_mapIdx, wipe_length, S.len]) fun i s h => ?_
  obtain ⟨h1, h2⟩ := wipeE_get h
  exact ⟨h1, fun v hv => by rw [wipe_out h2]; exact hv⟩
theorem unwipe_get {i : Nat} {s : Sl} (h : (unwipe ws ρ1 ρ2)[i]? = some (some s)) : (i ∈ ws ∧ ∃ d, s = .fz d ∧ ρ1[i]? = some (some (.fz d))) ∨ (i ∉ ws ∧ ρ2[i]? = some (some s)) := by
  unfold unwipe at h
  rw [List.getElem?_mapIdx] at h
  obtain ⟨e, h1, h2⟩ := Option.map_eq_some_iff.mp h
  by_cases hi : ws.contains i = true
  · rw [if_pos hi] at h2
    refine .inl ⟨by simpa using hi, ?_⟩
    cases q : ρ1[i]? with
    | none => rw [q] at h2; cases h2
    | some o =>
      rw [q] at h2
      cases o with
      | none => cases h2
      | some t => cases t <;> first | (cases h2; done) | (cases h2; exact ⟨_, rfl, rfl⟩)
  · rw [if_neg hi] at h2
    subst h2
    exact .inr ⟨by simpa using hi, h1⟩
theorem unwipe_own {i : Nat} {xs : List D} (o : Own (unwipe ws ρ1 ρ2) i xs) : i ∉ ws ∧ Own ρ2 i xs := by
  rcases o with o | o
  · rcases unwipe_get o with ⟨_, d, e, _⟩ | ⟨h1, h2⟩
    · cases e
    · exact ⟨h1, .inl h2⟩
  · rcases unwipe_get o with ⟨_, d, e, _⟩ | ⟨h1, h2⟩
    · cases e
    · exact ⟨h1, .inr h2⟩
theorem St.unwipe (S1 : St K io P F1 ρ1 σ H1) (S2 : St K io P F2 ρ2 (L2.wipe σ ws) H2) (s : Same F1 F2) : St K io P F2 (unwipe ws ρ1 ρ2) σ H2 := by
  refine ⟨S2.fh, S2.ph, S2.pf, by unfold Mi.unwipe; rw [List.length_mapIdx, S2.len, wipe_length], fun i d e => ?_, fun i xs o => ?_, fun i xs a e e' => ?_, fun i j xs ys a o1 o2 e1 e2 => ?_⟩
  · rcases unwipe_get e with ⟨_, d', e', h⟩ | ⟨h1, h2⟩
    · cases e'
      obtain ⟨v, g1, g2⟩ := S1.fz i d h
      exact ⟨v, g1, g2.mono s⟩
    · obtain ⟨v, g1, g2⟩ := S2.fz i d h2
      rw [wipe_out h1] at g1
      exact ⟨v, g1, g2⟩
  · obtain ⟨h1, h2⟩ := unwipe_own o
    obtain ⟨a, vs, g1, g2⟩ := S2.ow i xs h2
    rw [wipe_out h1] at g1
    exact ⟨a, vs, g1, g2⟩
  · rcases unwipe_get e with ⟨_, d', e2, h⟩ | ⟨h1, h2⟩
    · cases e2
    · exact S2.ia i xs a h2 (by rw [wipe_out h1]; exact e')
  · obtain ⟨h1, h2⟩ := unwipe_own o1
    obtain ⟨h3, h4⟩ := unwipe_own o2
    exact S2.ds i j xs ys a h2 h4 (by rw [wipe_out h1]; exact e1) (by rw [wipe_out h3]; exact e2)
/-- a new list, which stays as long as the block runs -/
theorem St.lay {D : Addr} {o : HO} (S : St K io P F ρ σ H) (n : H D = none) : St K io (upd P D o) F ρ σ (upd H D o) := by
  refine ⟨fun b x e => ?_, fun b x e => ?_, fun b x e => ?_, S.len, S.fz, fun i xs q => ?_, S.ia, S.ds⟩
  · rw [upd_ne (ne_of_none (S.fh _ _ e) n)]; exact S.fh _ _ e
  · by_cases hb : b = D
    · subst hb; rw [upd_same] at e ⊢; exact e
    · rw [upd_ne hb] at e ⊢; exact S.ph _ _ e
  · by_cases hb : b = D
    · subst hb; exact S.fh.free n
    · rw [upd_ne hb] at e; exact S.pf _ _ e
  · obtain ⟨a, vs, h1, h2, h3, h4, h5⟩ := S.ow i xs q
    have ha : a ≠ D := ne_of_none h2 n
    exact ⟨a, vs, h1, by rw [upd_ne ha]; exact h2, h3, h4, by rw [upd_ne ha]; exact h5⟩
theorem St.grow {D : Addr} {o o' : HO} (S : St K io (upd P D o) F ρ σ H) : St K io (upd P D o') F ρ σ (upd H D o') := by
  have fD : F D = none := S.pf D o upd_same
  refine ⟨fun b x e => ?_, fun b x e => ?_, fun b x e => ?_, S.len, S.fz, fun i xs q => ?_, S.ia, S.ds⟩
  · rw [upd_ne (ne_of_none e fD)]; exact S.fh _ _ e
  · by_cases hb : b = D
    · subst hb; rw [upd_same] at e ⊢; exact e
    · rw [upd_ne hb] at e ⊢; exact S.ph b x (by rw [upd_ne hb]; exact e)
  · by_cases hb : b = D
    · subst hb; exact fD
    · rw [upd_ne hb] at e; exact S.pf b x (by rw [upd_ne hb]; exact e)
  · obtain ⟨a, vs, h1, h2, h3, h4, h5⟩ := S.ow i xs q
    have ha : a ≠ D := fun e => by
      subst e
      rw [upd_same] at h5
      cases h5
    rw [upd_ne ha] at h5
    exact ⟨a, vs, h1, by rw [upd_ne ha]; exact h2, h3, h4, by rw [upd_ne ha]; exact h5⟩
end
/-! ### the loop -/
def turnC (g : Tg) (tt : Te) (te : Ex) (ws : List Nat) (d : D) (ρ : Env) : R (Option D) := match g d ρ with
  | none => .no
  | some ρ1 => (tt ρ1).bind fun b ρ2 => if b then (te ρ2).bind fun r ρ3 => .ok (some r.d) (wipeE ρ3 ws) else .ok none (wipeE ρ2 ws)
def loopC (f : D → Env → R (Option D)) : List D → Env → List D → R (List D)
  | [], ρ, acc => .ok acc ρ
  | d :: ds, ρ, acc => match f d ρ with
    | .ok (some x) ρ1 => if acc.length < SZ then loopC f ds ρ1 (acc ++ [x]) else .no
    | .ok none ρ1 => loopC f ds ρ1 acc
    | _ => .no
def mComp (mi : Mi') (g : Tg) (tt : Te) (te : Ex) (ws : List Nat) : Ex := fun ρ => (mi ρ).bind fun ds ρ1 => (loopC (turnC g tt te ws) ds (wipeE ρ1 ws) []).bind fun acc ρ2 => .ok (.ow acc) (unwipe ws ρ1 ρ2)
abbrev w0 : WX := fun _ _ _ _ => False
structure JTs (X : Cx) (W : WX) (io : Nat → Option Addr) (es : List Expr) (m : Te) : Prop where
  pts : PTs X es (tJT X.K W io m)
def tYesE : Te := fun ρ => .ok true ρ
theorem ptsi {X : Cx} {es : List Expr} {t t' : TT} (h : PTs X es t) (f : ∀ σ H Q, t' σ H Q → t σ H Q) : PTs X es t' := ⟨fun pins s σ H Q I q => h.run pins s σ H Q I (f σ H Q q)⟩
theorem jts_nil {X : Cx} {W : WX} {io : Nat → Option Addr} : JTs X W io [] tYesE := ⟨ptsi pts_nil fun σ H Q h => by
  obtain ⟨P, F, ρ, S, h⟩ := h
  exact h H F (Same.refl _) S⟩
theorem jts_one {X : Cx} {W : WX} {io : Nat → Option Addr} {e : Expr} {m : Te} (h : JT X W io e m) : JTs X W io [e] m := ⟨pts_one h.pt⟩
/-- what the loop leads to -/
def ToC (K : PySem.W.Frag) (io : Nat → Option Addr) (P F : Hp) (σw : L2.St) (Dl : Addr) (Q : VK) (r : R (List D)) : Prop := match r with
  | .ok acc ρ2 => ∀ H' F' vs, Same F F' → St K io (upd P Dl (.lst vs)) F' ρ2 σw H' → FzL K F' acc vs → Q (.ref Dl) H'
  | _ => False
theorem ToC.up {K : PySem.W.Frag} {io : Nat → Option Addr} {P F F' : Hp} {σw : L2.St} {Dl : Addr} {Q : VK} {r : R (List D)} (s : Same F F') (h : ToC K io P F σw Dl Q r) : ToC K io P F' σw Dl Q r := by
  cases r with
  | ok acc ρ => exact fun H' F2 vs s2 => h H' F2 vs (s.trans s2)
  | ex c ρ => exact h
  | no => exact h
section
variable {X : Cx} {W : WX} {io : Nat → Option Addr} {P F : Hp} {σ : L2.St} {H : Hp} {ρ : Env}
/-- the loop's law: the list stands, the turns follow -/
theorem comp_core {J : It} {ds : List D} {ws : List Nat} {g : Tg} {tt : Te} {te : Ex} {Q : VK} (S : St X.K io P F ρ σ H) (ok : ItOk X.K F J ds) (h : ∀ Dl, P Dl = none → ToC X.K io P F (wipe σ ws) Dl Q (loopC (turnC g tt te ws) ds (wipeE ρ ws) [])) :
    ∀ Dl, H Dl = none → ∃ Wm : Nat → Nat → Hp → Prop, (∃ m, Wm 0 m (upd H Dl (.lst []))) ∧ ∀ i m H, Wm i m H →
      (J.stop i H ∧ Q (.ref Dl) H) ∨ (J.go i H ∧ ∃ Nx : Hp → Prop, (∀ H', Nx H' → ∃ m', m' < m ∧ Wm (i + 1) m' H') ∧ ∀ x H', J.yld i H x H' → tGw X.K io ws g x (wipe σ ws) H' fun σ2 H2 => wipe σ2 ws = wipe σ ws ∧ tJT X.K w0 io tt σ2 H2 fun b H3 =>
        if b = true then tJ X.K w0 io te σ2 H3 fun y H4 => ∃ acc, H4 Dl = some (.lst acc) ∧ acc.length < sizeLine ∧ Nx (upd H4 Dl (.lst (acc ++ [y]))) else Nx H3) := by
  intro Dl hD
  have hP : P Dl = none := S.ph.free hD
  have h := h Dl hP
  refine ⟨fun i m H => m = ds.length - i ∧ i ≤ ds.length ∧ ∃ F' ρ' acc vs, Same F F' ∧ St X.K io (upd P Dl (.lst vs)) F' ρ' (wipe σ ws) H ∧ FzL X.K F' acc vs ∧ ToC X.K io P F' (wipe σ ws) Dl Q (loopC (turnC g tt te ws) (ds.drop i) ρ' acc),
    ⟨ds.length, rfl, Nat.zero_le _, F, wipeE ρ ws, [], [], Same.refl _, S.wipe.lay hD, rfl, h⟩, ?_⟩
  rintro i m H2 ⟨rfl, hi, F2, ρ2, acc, vs, s2, S2, R2, h2⟩
  by_cases hlt : i < ds.length
  · refine .inr ⟨ok.go i H2 hlt (s2.trans S2.fh), ?_⟩
    have ed : ds.drop i = ds[i] :: ds.drop (i + 1) := List.drop_eq_getElem_cons hlt
    rw [ed] at h2
    have h2' : ToC X.K io P F2 (wipe σ ws) Dl Q (match turnC g tt te ws ds[i] ρ2 with
      | .ok (some x) ρ1 => if acc.length < SZ then loopC (turnC g tt te ws) (ds.drop (i + 1)) ρ1 (acc ++ [x]) else .no
      | .ok none ρ1 => loopC (turnC g tt te ws) (ds.drop (i + 1)) ρ1 acc
      | _ => .no) := h2
    refine ⟨fun H' => ∃ F' ρ' acc vs, Same F F' ∧ St X.K io (upd P Dl (.lst vs)) F' ρ' (wipe σ ws) H' ∧ FzL X.K F' acc vs ∧ ToC X.K io P F' (wipe σ ws) Dl Q (loopC (turnC g tt te ws) (ds.drop (i + 1)) ρ' acc), fun H' q => ⟨ds.length - (i + 1), by omega, rfl, hlt, q⟩, fun x H' y => ?_⟩
    obtain ⟨F3, ex, qx⟩ := ok.yld i ds[i] F2 H2 x H' (List.getElem?_eq_getElem hlt) s2 S2.fh y
    have S3 := S2.ext ex
    cases eg : g ds[i] ρ2 with
    | none => rw [show turnC g tt te ws ds[i] ρ2 = .no by unfold turnC; rw [eg]] at h2'; exact h2'.elim
    | some ρ3 =>
      have kk : turnC g tt te ws ds[i] ρ2 = (tt ρ3).bind fun b ρ2 => if b then (te ρ2).bind fun r ρ3 => .ok (some r.d) (wipeE ρ3 ws) else .ok none (wipeE ρ2 ws) := by unfold turnC; rw [eg]
      rw [kk] at h2'
      refine ⟨_, F3, ρ2, ds[i], S3, qx, ρ3, eg, fun σ4 H4 F4 s4 w4 S4 => ?_⟩
      have w4' : wipe σ4 ws = wipe σ ws := by
        rw [w4]
        refine List.ext_getElem? fun j => ?_
        by_cases hj : j ∈ ws
        · have : ∀ τ : L2.St, τ.length = σ.length → (wipe τ ws)[j]? = if j < σ.length then some none else none := fun τ hτ => by
            by_cases hl : j < σ.length
            · rw [if_pos hl]
              have hl2 : j < (wipe τ ws).length := by rw [wipe_length, hτ]; exact hl
              rw [List.getElem?_eq_getElem hl2]
              cases e : (wipe τ ws)[j] with
              | none => rfl
              | some x =>
                have : (wipe τ ws)[j]? = some (some x) := by rw [List.getElem?_eq_getElem hl2, e]
                exact absurd hj (wipe_some this).2
            · rw [if_neg hl]
              exact List.getElem?_eq_none (by rw [wipe_length, hτ]; omega)
          rw [this _ (wipe_length _ _), this _ rfl]
        · rw [wipe_out hj]
      refine ⟨w4', _, F4, ρ3, S4, ?_⟩
      cases et : tt ρ3 with
      | no => rw [et] at h2'; exact h2'.elim
      | ex c ρ5 => rw [et] at h2'; exact h2'.elim
      | ok b ρ5 =>
        rw [et] at h2'
        intro H5 F5 s5 S5
        have sF5 : Same F2 F5 := ex.f.trans (s4.trans s5)
        cases b with
        | false =>
          have h2' : ToC X.K io P F2 (wipe σ ws) Dl Q (loopC (turnC g tt te ws) (ds.drop (i + 1)) (wipeE ρ5 ws) acc) := h2'
          show ∃ F' ρ' acc vs, _
          refine ⟨F5, wipeE ρ5 ws, acc, vs, s2.trans sF5, ?_, R2.mono sF5, h2'.up sF5⟩
          rw [← w4']
          exact S5.wipe
        | true =>
          have h2' : ToC X.K io P F2 (wipe σ ws) Dl Q (match (te ρ5).bind fun r ρ3 => .ok (some r.d) (wipeE ρ3 ws) with
            | .ok (some x) ρ1 => if acc.length < SZ then loopC (turnC g tt te ws) (ds.drop (i + 1)) ρ1 (acc ++ [x]) else .no
            | .ok none ρ1 => loopC (turnC g tt te ws) (ds.drop (i + 1)) ρ1 acc
            | _ => .no) := h2'
          show tJ X.K w0 io te σ4 H5 _
          refine ⟨_, F5, ρ5, S5, ?_⟩
          cases ee : te ρ5 with
          | no => rw [ee] at h2'; exact h2'.elim
          | ex c ρ6 => rw [ee] at h2'; exact h2'.elim
          | ok r ρ6 =>
            rw [ee] at h2'
            have h2' : ToC X.K io P F2 (wipe σ ws) Dl Q (if acc.length < SZ then loopC (turnC g tt te ws) (ds.drop (i + 1)) (wipeE ρ6 ws) (acc ++ [r.d]) else .no) := h2'
            intro v H6 F6 s6 S6 R6
            by_cases hz : acc.length < SZ
            · rw [if_pos hz] at h2'
              obtain ⟨F7, s7, S7, q7⟩ := S6.cool R6
              have sF7 : Same F2 F7 := sF5.trans (s6.trans s7)
              refine ⟨vs, S6.ph Dl _ upd_same, by rw [← R2.length]; exact Nat.lt_of_lt_of_le hz SZ_le, F7, wipeE ρ6 ws, acc ++ [r.d], vs ++ [v], s2.trans sF7, ?_, (R2.mono sF7).append ⟨v, [], rfl, q7, rfl⟩, h2'.up sF7⟩
              rw [← w4']
              exact S7.wipe.grow
            · rw [if_neg hz] at h2'
              exact h2'.elim
  · have e : i = ds.length := by omega
    subst e
    rw [List.drop_length] at h2
    exact .inl ⟨ok.stop H2 (s2.trans S2.fh), h2 H2 F2 vs (Same.refl _) S2 R2⟩
/-- behind the loop -/
theorem ToC.of {ws : List Nat} {Q : VK} {r : R (List D)} (S : St X.K io P F ρ σ H) (h : ToE X.K W io P F σ Q (r.bind fun acc ρ2 => .ok (.ow acc) (unwipe ws ρ ρ2))) (hr : ∀ c ρ', r ≠ .ex c ρ') : ∀ Dl, P Dl = none → ToC X.K io P F (wipe σ ws) Dl Q r := fun Dl hP => by
  cases r with
  | no => exact h.elim
  | ex c ρ' => exact absurd rfl (hr c ρ')
  | ok acc ρ2 =>
    intro H' F' vs s S2 R2
    have sP : Same P (upd P Dl (.lst vs)) := fun b x e => by rw [upd_ne (ne_of_none e hP)]; exact e
    have hDl := S2.ph Dl _ upd_same
    have fD : F' Dl = none := S2.pf Dl _ upd_same
    refine h (.ref Dl) H' F' s (S.unwipe (S2.lessP sP) s) ⟨Dl, vs, rfl, hDl, R2, fD, hP, fun i ys o e => ?_⟩
    obtain ⟨h1, h2⟩ := unwipe_own o
    obtain ⟨a, us, g1, _, _, _, g5⟩ := S2.ow i ys h2
    rw [wipe_out h1, e] at g1
    cases g1
    rw [upd_same] at g5
    cases g5
theorem loopC_ex {f : D → Env → R (Option D)} : ∀ {ds : List D} {ρ : Env} {acc : List D} {c : Str} {ρ' : Env}, loopC f ds ρ acc ≠ .ex c ρ'
  | [], _, _, _, _, e => by cases e
  | d :: ds, ρ, acc, c, ρ', e => by
    unfold loopC at e
    cases q : f d ρ with
    | no => rw [q] at e; cases e
    | ex _ _ => rw [q] at e; cases e
    | ok o ρ1 =>
      rw [q] at e
      cases o with
      | none => exact loopC_ex e
      | some x =>
        have e : (if acc.length < SZ then loopC f ds ρ1 (acc ++ [x]) else .no) = .ex c ρ' := e
        split at e
        · exact loopC_ex e
        · cases e
variable {elt tg iter : Expr} {ifs : List Expr} {scope : Scope} {own : List (Str × Nat)} {pos spos : Pos} {mi : Mi'} {g : Tg} {tt : Te} {te : Ex}
theorem tLc_of {σ : L2.St} {H : Hp} {Q : VK} (h : tJ X.K W io (mComp mi g tt te (own.map (·.2))) σ H Q) : tLc (tI X.K W io mi) (tGw X.K io (own.map (·.2)) g) (tJT X.K w0 io tt) (tJ X.K w0 io te) (own.map (·.2)) σ H Q := by
  obtain ⟨P, F, ρ, S, h⟩ := h
  refine ⟨P, F, ρ, S, ?_⟩
  have h : ToE X.K W io P F σ Q ((mi ρ).bind fun ds ρ1 => (loopC (turnC g tt te (own.map (·.2))) ds (wipeE ρ1 (own.map (·.2))) []).bind fun acc ρ2 => .ok (.ow acc) (unwipe (own.map (·.2)) ρ1 ρ2)) := h
  cases em : mi ρ with
  | no => rw [em] at h; exact h
  | ex c ρ1 => rw [em] at h; exact h
  | ok ds ρ1 =>
    rw [em] at h
    intro J H1 F1 s1 S1 ok
    exact comp_core S1 ok (ToC.of S1 (ToE.up s1 h) fun _ _ => loopC_ex)
theorem je_comp (hc : X.calm = true) (hN : X.N.Nodup) (own : List (Str × Nat)) (hi : JI X W io tg iter mi) (ok : BlkOk X.N X.env.scope scope own)
    (hb : ∀ (s : Shared) (H : Hp) (C : Addr) (cl : List (Str × Addr)) (fp : List Addr), JGw (X.blk s H scope (compEnvC scope cl C X.env) fp) io (own.map (·.2)) tg g ∧ JTs (X.blk s H scope (compEnvC scope cl C X.env) fp) w0 io ifs tt ∧ JE (X.blk s H scope (compEnvC scope cl C X.env) fp) w0 io elt te)
    (hs : ∀ x, foldedSetIterable iter X.env x = pure x := by intro _; rfl) : JE X W io (.ListComp elt [⟨tg, iter, ifs, 0⟩] scope pos) (mComp mi g tt te (own.map (·.2))) :=
  ⟨pei (pe_lc hc hN hi.pi ok (fun s H C cl fp => (hb s H C cl fp).1.pg) (fun s H C cl fp => (hb s H C cl fp).2.1.pts) (fun s H C cl fp => (hb s H C cl fp).2.2.pe) hs) fun _ _ _ h => tLc_of h⟩
theorem js_setComp (i : Nat) {y : Str} {py : Pos} (hc : X.calm = true) (hN : X.N.Nodup) (own : List (Str × Nat)) (hi : JI X W io tg iter mi) (ok : BlkOk X.N X.env.scope scope own)
    (hb : ∀ (s : Shared) (H : Hp) (C : Addr) (cl : List (Str × Addr)) (fp : List Addr), JGw (X.blk s H scope (compEnvC scope cl C X.env) fp) io (own.map (·.2)) tg g ∧ JTs (X.blk s H scope (compEnvC scope cl C X.env) fp) w0 io ifs tt ∧ JE (X.blk s H scope (compEnvC scope cl C X.env) fp) w0 io elt te)
    (hy : X.N[i]? = some y := by rfl) (hyl : X.env.scope.names.lookup y = some .local := by rfl) (hsw : swapsWith (.ListComp elt [⟨tg, iter, ifs, 0⟩] scope pos) (some (.Name y py)) spos.line X.env = pure true := by rfl)
    (hs : ∀ x, foldedSetIterable iter X.env x = pure x := by intro _; rfl) : JS X W io (.Assign [.Name y py] (.ListComp elt [⟨tg, iter, ifs, 0⟩] scope pos) spos) (sSet i (mComp mi g tt te (own.map (·.2)))) :=
  ⟨psi (ps_setLc hc hN hy hyl hsw hi.pi ok (fun s H C cl fp => (hb s H C cl fp).1.pg) (fun s H C cl fp => (hb s H C cl fp).2.1.pts) (fun s H C cl fp => (hb s H C cl fp).2.2.pe) hs) fun D σ H h => by
    obtain ⟨P, F, ρ, S, h⟩ := h
    show tLc _ _ _ _ _ σ H fun x H1 => gName i x σ H1 D.nx
    exact tLc_of (tJ_toS S h fun r ρ1 v H1 F1 s S1 R1 h1 => h1 _ H1 F1 (Same.refl _) (S1.store R1))⟩
end
end Mi

namespace Mi
open PySem PySem.Spec PyProof.Rows L2

/-! ### calls with keywords -/
/-- the values in the parameters' order -/
def permL {α : Type} (pm : List Nat) (l : List α) : List α := pm.filterMap fun i => l[i]?
theorem permL_vals {vs : List V} {us : List Value} (r : Vals vs us) : ∀ (pm : List Nat), Vals (permL pm vs) (permL pm us)
  | [] => .nil
  | i :: pm => by
    unfold permL
    rw [List.filterMap_cons, List.filterMap_cons]
    cases e : vs[i]? with
    | none =>
      have e2 : us[i]? = none := by
        have h := List.getElem?_eq_none_iff.mp e
        exact List.getElem?_eq_none (by rw [← r.length]; exact h)
      rw [e2]
      exact permL_vals r pm
    | some v =>
      obtain ⟨u, hu, rv⟩ := r.get e
      rw [hu]
      exact .cons rv (permL_vals r pm)
theorem permL_pd {K : PySem.W.Frag} {F : Hp} {σ : L2.St} {vs : List V} {ps : List Pd} (r : PdRL K F σ vs ps) : ∀ (pm : List Nat), PdRL K F σ (permL pm vs) (permL pm ps)
  | [] => trivial
  | i :: pm => by
    unfold permL
    rw [List.filterMap_cons, List.filterMap_cons]
    cases e : ps[i]? with
    | none =>
      have e2 : vs[i]? = none := by
        have h := List.getElem?_eq_none_iff.mp e
        exact List.getElem?_eq_none (by rw [r.len]; exact h)
      rw [e2]
      exact permL_pd r pm
    | some p =>
      obtain ⟨v, hv, rv⟩ := r.get e
      rw [hv]
      exact ⟨rv, permL_pd r pm⟩
theorem PdRL.append {K : PySem.W.Frag} {F : Hp} {σ : L2.St} : ∀ {vs us : List V} {ps qs : List Pd}, PdRL K F σ vs ps → PdRL K F σ us qs → PdRL K F σ (vs ++ us) (ps ++ qs)
  | [], _, [], _, _, h => h
  | _ :: _, _, _ :: _, _, ⟨h1, h2⟩, h => ⟨h1, h2.append h⟩
  | [], _, _ :: _, _, h, _ => h.elim
  | _ :: _, _, [], _, h, _ => h.elim
def KB (fd : FuncData) (ps ks : List Str) (n : Nat) (pm : List Nat) : Prop := ∀ (s : Shared) (us ws : List Value), us.length = n → ws.length = ks.length → BindsTo s fd ⟨us, ks.zip ws⟩ (ps.zip (permL pm (us ++ ws)))
theorem kb_of {K : PySem.W.Frag} {x qual : Str} {params : Arguments} {body : List Stmt} {scope : Scope} {kws : List (Str × V)} {f : Addr} {fd : FuncData} {ps ks : List Str} {n : Nat} {pm : List Nat} (F : FunD K x qual params body scope [] kws f fd)
    (h : ∀ (kV doc pm_ : Value) (an : Option Addr) (cdv ct : Value) (us ws : List Value), us.length = n → ws.length = ks.length → bindArgs (PySem.W.fnOf x qual params body scope .none kV doc pm_ an cdv ct) ⟨us, ks.zip ws⟩ = pure (ps.zip (permL pm (us ++ ws)))) : KB fd ps ks n pm := by
  obtain ⟨oc, od, dV, kV, doc, pm_, an, cdv, ct, osl, rfl, lk, hcd, hD, hK⟩ := F.ex
  rcases hD with ⟨_, rfl⟩ | ⟨e, _⟩
  · exact fun s us ws h1 h2 => .of_eq (h kV doc pm_ an cdv ct us ws h1 h2)
  · exact absurd rfl e
def mCallK (f : Fn) (pm : List Nat) (os qs : List Opd) : Ex := fun ρ => if os.all (okV ρ) && qs.all (okV ρ) then (runO os ρ).bind fun ps ρ1 => (runO qs ρ1).bind fun rs ρ2 => match argsS ρ2 (permL pm (ps ++ rs)) with
  | some args => if apart ρ2 (permL pm (ps ++ rs)) then ofF ρ2 (permL pm (ps ++ rs)) (f args) else .no
  | none => .no else .no
/-- keywords' values -/
def JKs (X : Cx) (W : WX) (io : Nat → Option Addr) : List Keyword → List Opd → Prop
  | [], [] => True
  | k :: ks, o :: os => JO X W io k.2 o ∧ JKs X W io ks os
  | _, _ => False
section
variable {X : Cx} {W : WX} {io : Nat → Option Addr} {k n : Nat} {fa : Addr} {fd : FuncData} {ps ks : List Str} {f : Fn} {x : Str} {p pos : Pos} {e : Expr} {es : List Expr} {os qs : List Opd} {pm : List Nat} {kws : List Keyword} {kpos : Pos} {nm : Option Str} {o : Opd}
theorem jks_nil : JKs X W io [] [] := trivial
theorem jks_cons (h : JO X W io e o) (r : JKs X W io kws os) : JKs X W io (⟨nm, e, kpos⟩ :: kws) (o :: os) := ⟨h, r⟩
theorem JKs.pk : ∀ {kws : List Keyword} {os : List Opd}, JKs X W io kws os → PK X kws (tOs X.K W io os)
  | [], [], _ => pk_nil
  | ⟨_, _, _⟩ :: _, _ :: _, ⟨h, r⟩ => pk_cons h.pe r.pk
  | [], _ :: _, h => h.elim
  | _ :: _, [], h => h.elim
theorem run_fnQ {pins : List (Addr × Obj)} {σ : L2.St} {H : Hp} {s : Shared} {Q : VK} {us ws : List Value} {vs zs : List V} (tk : Takes X W) (F : FnG X.prog X.w X.K X.mg X.base k fa fd ps (spF X.K n f)) (hr : RoomG k X.A) {m : Nat} (hb : KB fd ps ks m pm)
    (I : Inv X pins σ H s) (r : Vals vs us) (rz : Vals zs ws) (hu : us.length = m) (hw : ws.length = ks.length) (h : spF X.K n f (permL pm (vs ++ zs)) H Q (WE W σ)) : wpAny (model X.prog X.w) X.A (call (.ref fa) us (ks.zip ws)) (EP X pins σ Q) X.xe s := by
  have r2 := permL_vals (r.append rz) pm
  refine wpAny_call (codeAny_mono (F.go X.A X.stack s H ⟨us, ks.zip ws⟩ (permL pm (us ++ ws)) (permL pm (vs ++ zs)) Q (WE W σ) hr I.env0 (hb s us ws hu hw) r2 h) fun r s' hq => ?_)
  cases r with
  | error e => exact passAt tk σ pins H s e s' I hq
  | ok fl =>
    cases fl with
    | ret u => exact I.after hq
    | next => exact False.elim hq
    | brk => exact False.elim hq
    | cont => exact False.elim hq
theorem permL_len {α β : Type} {l : List α} {l' : List β} (h : l.length = l'.length) : ∀ pm : List Nat, (permL pm l).length = (permL pm l').length
  | [] => rfl
  | i :: pm => by
    unfold permL
    rw [List.filterMap_cons, List.filterMap_cons]
    cases e : l[i]? with
    | none =>
      have h1 := List.getElem?_eq_none_iff.mp e
      rw [List.getElem?_eq_none (by omega : l'.length ≤ i)]
      exact permL_len h pm
    | some v =>
      have h1 := (List.getElem?_eq_some_iff.mp e).1
      rw [List.getElem?_eq_getElem (by omega : i < l'.length)]
      exact congrArg Nat.succ (permL_len h pm)
/-- both rows of operands -/
theorem tOs2 {K : PySem.W.Frag} {P F : Hp} {σ : L2.St} {ρ : Env} {H : Hp} {Q : VK} {g : List Pd → Env → R Sl} {Q' : List V → List V → Hp → Prop} (S : St K io P F ρ σ H) (hc : (os.all (okV ρ) && qs.all (okV ρ)) = true)
    (h : ToE K W io P F σ Q ((runO os ρ).bind fun ps ρ1 => (runO qs ρ1).bind fun rs ρ2 => g (ps ++ rs) ρ2))
    (kk : ∀ ps rs ρ2 vs zs H2 F2, ps.length = os.length → rs.length = qs.length → St K io P F2 ρ2 σ H2 → PdRL K F2 σ vs ps → PdRL K F2 σ zs rs → ToE K W io P F2 σ Q (g (ps ++ rs) ρ2) → Q' vs zs H2) : tOs K W io os σ H fun vs H1 => tOs K W io qs σ H1 fun zs H2 => Q' vs zs H2 := by
  rw [Bool.and_eq_true] at hc
  rw [runO_bind] at h
  have v1 : ∀ i, Opd.v i ∈ os → ∃ v, σ[i]? = some (some v) := fun i hi => okV_v S (List.all_eq_true.mp hc.1 _ hi) i rfl
  have v2 : ∀ i, Opd.v i ∈ qs → ∃ v, σ[i]? = some (some v) := fun i hi => okV_v S (List.all_eq_true.mp hc.2 _ hi) i rfl
  refine tOs_bind os S h (fun ps ρ1 vs H1 F1 s1 S1 R1 h1 => ?_) v1
  obtain ⟨l1, h1⟩ := toE_ifp h1
  rw [runO_bind] at h1
  refine tOs_bind qs S1 h1 (fun rs ρ2 zs H2 F2 s2 S2 R2 h2 => ?_) v2
  obtain ⟨l2, h2⟩ := toE_ifp h2
  exact kk ps rs ρ2 vs zs H2 F2 l1 l2 S2 (R1.mono s2) R2 h2
/-- f(e, .., k = v, ..) -/
theorem je_callK (tk : Takes X W) (F : FnG X.prog X.w X.K X.mg X.base k fa fd ps (spF X.K n f)) (hr : RoomG k X.A) (hm : X.mg x = some (.ref fa)) (hk : PySem.W.keepIn X.K (.ref fa) = true) (hb : KB fd ps ks os.length pm) (ho : JOs X W io (e :: es) os) (hq : JKs X W io kws qs)
    (hl : ∀ (l : List Nat), l.length = os.length + qs.length → (permL pm l).length = n) (hl2 : qs.length = ks.length := by rfl)
    (hall : (backToKw pos (keywordEach kws X.env)).all (·.1.isSome) = true := by rfl) (hks : (backToKw pos (keywordEach kws X.env)).filterMap (·.1) = ks := by rfl)
    (hg : Gl X x := by rfl) (hdb : (x == ("__debug__" : Str)) = false := by decide) (he : starEach (e :: es) X.env = (false, eval e X.env) :: starEach es X.env := by rfl)
    (hpl : ((backTo pos (starEach (e :: es) X.env)).any (·.1) || (backToKw pos (keywordEach kws X.env)).any (·.1.isNone)) = false := by rfl) :
    JE X W io (.Call (.Name x p) (e :: es) kws pos) (mCallK f pm os qs) := by
  refine ⟨⟨fun pins s σ H Q I h => ?_⟩⟩
  obtain ⟨P, F', ρ, S, h⟩ := h
  obtain ⟨hc, h⟩ := toE_if h
  have h3 := tOs2 (g := fun l ρ2 => match argsS ρ2 (permL pm l) with
    | some args => if apart ρ2 (permL pm l) then ofF ρ2 (permL pm l) (f args) else .no
    | none => .no) (Q' := fun vs zs H2 => vs.length = os.length ∧ zs.length = qs.length ∧ spF X.K n f (permL pm (vs ++ zs)) H2 Q (WE W σ)) S hc h fun qs1 rs1 ρ2 vs zs H2 F2 l1 l2 S2 R1 R2 h2 =>
      ⟨R1.len.trans l1, R2.len.trans l2, call_core (by
        rw [permL_len (l' := List.replicate (os.length + qs.length) 0) (by simp [l1, l2]) pm]
        exact hl _ (by simp)) S2 (permL_pd (R1.append R2) pm) h2⟩
  refine wpAny_Call_Name_kw (ld_glob I hg hm ?_ hdb)
  refine PySem.W.callWith_KW (h₀ := X.base) I.ok.mod.kin hk hall (thn (ho.pa.run pos pins s σ H _ I h3) fun us s1 ⟨vs, H1, I1, r, q⟩ => ?_) hpl he
  refine thn (hq.pk.run pos pins s1 σ H1 _ I1 q) fun ws s2 ⟨zs, H2, I2, rz, q2⟩ => ⟨I2.kIn, ?_⟩
  rw [hks]
  obtain ⟨l1, l2, q2⟩ := q2
  exact run_fnQ (us := us) tk F hr hb I2 r rz (r.length.symm.trans l1) (by rw [← rz.length, l2, hl2]) q2
/-- f(k = v, ..) -/
theorem je_callK0 (tk : Takes X W) (F : FnG X.prog X.w X.K X.mg X.base k fa fd ps (spF X.K n f)) (hr : RoomG k X.A) (hm : X.mg x = some (.ref fa)) (hk : PySem.W.keepIn X.K (.ref fa) = true) (hb : KB fd ps ks 0 pm) (hq : JKs X W io kws qs)
    (hl : ∀ (l : List Nat), l.length = qs.length → (permL pm l).length = n) (hl2 : qs.length = ks.length := by rfl)
    (hall : (backToKw pos (keywordEach kws X.env)).all (·.1.isSome) = true := by rfl) (hks : (backToKw pos (keywordEach kws X.env)).filterMap (·.1) = ks := by rfl)
    (hg : Gl X x := by rfl) (hdb : (x == ("__debug__" : Str)) = false := by decide)
    (hpl : ((backTo pos (starEach [] X.env)).any (·.1) || (backToKw pos (keywordEach kws X.env)).any (·.1.isNone)) = false := by rfl) :
    JE X W io (.Call (.Name x p) [] kws pos) (mCallK f pm [] qs) := by
  refine ⟨⟨fun pins s σ H Q I h => ?_⟩⟩
  obtain ⟨P, F', ρ, S, h⟩ := h
  obtain ⟨hc, h⟩ := toE_if h
  have h3 := tOs2 (os := []) (g := fun l ρ2 => match argsS ρ2 (permL pm l) with
    | some args => if apart ρ2 (permL pm l) then ofF ρ2 (permL pm l) (f args) else .no
    | none => .no) (Q' := fun vs zs H2 => vs.length = 0 ∧ zs.length = qs.length ∧ spF X.K n f (permL pm (vs ++ zs)) H2 Q (WE W σ)) S hc h fun qs1 rs1 ρ2 vs zs H2 F2 l1 l2 S2 R1 R2 h2 =>
      ⟨R1.len.trans l1, R2.len.trans l2, call_core (by
        rw [permL_len (l' := List.replicate qs.length 0) (by rw [List.length_append, l1, l2]; simp) pm]
        exact hl _ (by simp)) S2 (permL_pd (R1.append R2) pm) h2⟩
  refine wpAny_Call_Name_kw (ld_glob I hg hm ?_ hdb)
  have h4 : tOs X.K W io qs σ H fun zs H2 => zs.length = qs.length ∧ spF X.K n f (permL pm ([] ++ zs)) H2 Q (WE W σ) := by
    have h3 : tOs X.K W io qs σ H fun zs H2 => (0 = 0 ∧ zs.length = qs.length ∧ spF X.K n f (permL pm ([] ++ zs)) H2 Q (WE W σ)) := h3
    have e : (fun (zs : List V) (H2 : Hp) => ((0 : Nat) = 0 ∧ zs.length = qs.length ∧ spF X.K n f (permL pm ([] ++ zs)) H2 Q (WE W σ))) = fun zs H2 => zs.length = qs.length ∧ spF X.K n f (permL pm ([] ++ zs)) H2 Q (WE W σ) := by
      funext zs H2
      simp
    rw [e] at h3
    exact h3
  refine PySem.W.callWith_KW0 (h₀ := X.base) I.ok.mod.kin hk hall (thn (hq.pk.run pos pins s σ H _ I h4) fun ws s2 ⟨zs, H2, I2, rz, l2, q2⟩ => ⟨I2.kIn, ?_⟩) hpl
  rw [hks]
  exact run_fnQ (us := []) tk F hr hb I2 .nil rz rfl (by rw [← rz.length, l2, hl2]) q2
/-- f() -/
theorem je_call0 (tk : Takes X W) (F : FnG X.prog X.w X.K X.mg X.base k fa fd ps (spF X.K 0 f)) (hr : RoomG k X.A) (hm : X.mg x = some (.ref fa)) (hk : PySem.W.keepIn X.K (.ref fa) = true) (hb : Binds X.K fd ps [])
    (hg : Gl X x := by rfl) (hdb : (x == ("__debug__" : Str)) = false := by decide) : JE X W io (.Call (.Name x p) [] [] pos) (mCall f []) := by
  refine ⟨⟨fun pins s σ H Q I h => ?_⟩⟩
  obtain ⟨P, F', ρ, S, h⟩ := h
  have h : ToE X.K W io P F' σ Q (match argsS ρ [] with
    | some args => if apart ρ [] then ofF ρ [] (f args) else .no
    | none => .no) := h
  refine wpAny_Call_Name_kw (ld_glob I hg hm ?_ hdb)
  exact PySem.W.callWith_K0 I.kIn hk (run_fnG (us := []) tk F hr hb I .nil (call_core (ps := []) (vs := []) rfl S trivial h))
end
/-! ### try -/
def goneR (i : Nat) : SR → SR
  | .nx ρ => .nx (ρ.set i none)
  | .bk ρ => .bk (ρ.set i none)
  | .ct ρ => .ct (ρ.set i none)
  | .rt r ρ => .rt r ρ
  | _ => .no
def coldR : SR → SR
  | .ex _ _ => .no
  | r => r
def sTryAs (tab : List (Str × Bool)) (i : Nat) (b su : Sm) : Sm := fun ρ => match b ρ with
  | .ex c ρ1 => match tab.lookup c with
    | some true => goneR i (su (ρ1.set i (some (.fz (.exo c)))))
    | some false => .ex c ρ1
    | none => .no
  | r => r
def sTry (tab : List (Str × Bool)) (b su : Sm) : Sm := fun ρ => match b ρ with
  | .ex c ρ1 => match tab.lookup c with
    | some true => coldR (su ρ1)
    | some false => .ex c ρ1
    | none => .no
  | r => r
def TabX (K : PySem.W.Frag) (cv : Value) (tab : List (Str × Bool)) : Prop := ∀ p ∈ tab, PySem.W.exmOne K (excV K p.1) cv = some p.2
theorem mem_of_lookup {α : Type} : ∀ {l : List (Str × α)} {x : Str} {v : α}, l.lookup x = some v → (x, v) ∈ l
  | [], x, v, h => by cases h
  | (y, w) :: l, x, v, h => by
    rw [List.lookup_cons] at h
    cases e : x == y with
    | true =>
      rw [e] at h
      cases h
      have e2 : x = y := by simpa using e
      rw [e2]
      exact List.mem_cons_self ..
    | false =>
      rw [e] at h
      exact List.mem_cons_of_mem _ (mem_of_lookup h)
section
variable {K : PySem.W.Frag} {io : Nat → Option Addr} {P F : Hp} {σ : L2.St} {H : Hp} {ρ : Env}
theorem St.gone (S : St K io P F ρ σ H) (i : Nat) : St K io P F (ρ.set i none) (σ.set i none) H := by
  refine S.sub (by simp [S.len]) fun j s h => ?_
  by_cases hj : i = j
  · subst hj
    have hl : i < (ρ.set i none).length := (List.getElem?_eq_some_iff.mp h).1
    rw [List.length_set] at hl
    rw [set_self hl] at h
    cases h
  · rw [set_other hj] at h
    exact ⟨h, fun v hv => by rw [set_other hj]; exact hv⟩
end
section
variable {X : Cx} {W : WX} {io : Nat → Option Addr} {x n : Str} {cv : Value} {i : Nat} {body suite : List Stmt} {b₀ : Stmt} {np pos pos' : Pos} {mb ms : Sm} {tab : List (Str × Bool)}
theorem js_tryAs (tk : Takes X W) (hN : X.N.Nodup) (hc : Names X x cv) (ht : TabX X.K cv tab)
    (hb : ∀ (W' : WX) (pn : List (Addr × Obj)) (xe : Value → Shared → Prop), Takes (X.tr pn xe) W' → PassesOwn (model X.prog X.w) X.A X.env xe → JSs (X.tr pn xe) W' io body mb)
    (hsu : ∀ (a : Addr) (pn : List (Addr × Obj)), JSs (suiteQ X a pn) w0 io (b₀ :: suite) ms)
    (hs : X.stack = X.env :: X.outer := by rfl) (hf : X.env.frame = some X.env.locals := by rfl) (hex : X.ex = [] := by rfl) (hi : X.N[i]? = some n := by rfl) (hln : X.env.kindOf n = some .local := by rfl) :
    JS X W io (.Try body [.ExceptHandler (some (.Name x np)) (some n) (b₀ :: suite) pos'] [] [] pos) (sTryAs tab i mb ms) := ⟨psi (ps_try_asQ (Wout := W) (tb := fun W' => tS X.K W' io mb) (ts := tS X.K w0 io ms) hs hf hex hN hi hln hc tk (fun W' pn xe h1 h2 => (hb W' pn xe h1 h2).ps) (fun a pn => (hsu a pn).ps)) fun D σ H h => by
  obtain ⟨P, F, ρ, S, h⟩ := h
  refine ⟨P, F, ρ, S, ?_⟩
  unfold sTryAs at h
  cases e : mb ρ with
  | nx ρ1 => rw [e] at h; exact h
  | rt r ρ1 => rw [e] at h; exact h
  | bk ρ1 => rw [e] at h; exact h
  | ct ρ1 => rw [e] at h; exact h
  | no => rw [e] at h; exact h
  | ex c ρ1 =>
    rw [e] at h
    have h : ToS X.K W io P F D (match tab.lookup c with
      | some true => goneR i (ms (ρ1.set i (some (.fz (.exo c)))))
      | some false => .ex c ρ1
      | none => .no) := h
    intro σ' H' F' s S'
    cases et : tab.lookup c with
    | none => rw [et] at h; exact h.elim
    | some b =>
      rw [et] at h
      have hx := ht _ (mem_of_lookup et)
      cases b with
      | false => exact ⟨false, hx, ⟨fun z => Bool.noConfusion z, fun _ => h σ' H' F' s S'⟩⟩
      | true =>
        refine ⟨true, hx, ⟨fun _ => ⟨rfl, fun a na => ?_⟩, fun z => Bool.noConfusion z⟩⟩
        have ex := Ext.froz (o := exoV (excV X.K c) a) S'.fh na
        have S2 := (S'.ext ex).store (i := i) (v := .ref a) (r := .fz (.exo c)) ⟨a, rfl, upd_same⟩
        refine ⟨P, _, _, S2, ?_⟩
        have h : ToS X.K W io P _ D (goneR i (ms (ρ1.set i (some (.fz (.exo c)))))) := ToS.up (s.trans ex.f) h
        cases em : ms (ρ1.set i (some (.fz (.exo c)))) with
        | nx ρ2 => rw [em] at h; exact fun σ3 H3 F3 s3 S3 => h _ H3 F3 s3 (S3.gone i)
        | bk ρ2 => rw [em] at h; exact fun σ3 H3 F3 s3 S3 => h _ H3 F3 s3 (S3.gone i)
        | ct ρ2 => rw [em] at h; exact fun σ3 H3 F3 s3 S3 => h _ H3 F3 s3 (S3.gone i)
        | rt r ρ2 => rw [em] at h; exact h
        | ex c2 ρ2 => rw [em] at h; exact h.elim
        | no => rw [em] at h; exact h.elim⟩
theorem js_try (tk : Takes X W) (hc : Names X x cv) (ht : TabX X.K cv tab)
    (hb : ∀ (W' : WX) (pn : List (Addr × Obj)) (xe : Value → Shared → Prop), Takes (X.tr pn xe) W' → PassesOwn (model X.prog X.w) X.A X.env xe → JSs (X.tr pn xe) W' io body mb)
    (hsu : ∀ (a : Addr) (pn : List (Addr × Obj)), JSs (X.suite a pn) w0 io (b₀ :: suite) ms)
    (hs : X.stack = X.env :: X.outer := by rfl) (hf : X.env.frame = some X.env.locals := by rfl) :
    JS X W io (.Try body [.ExceptHandler (some (.Name x np)) none (b₀ :: suite) pos'] [] [] pos) (sTry tab mb ms) := ⟨psi (ps_try_only (Wout := W) (tb := fun W' => tS X.K W' io mb) (ts := fun _ _ _ => tS X.K w0 io ms) hs hf hc tk (fun W' pn xe h1 h2 => (hb W' pn xe h1 h2).ps) (fun a oe cls d pn _ _ => (hsu a _).ps)) fun D σ H h => by
  obtain ⟨P, F, ρ, S, h⟩ := h
  refine ⟨P, F, ρ, S, ?_⟩
  unfold sTry at h
  cases e : mb ρ with
  | nx ρ1 => rw [e] at h; exact h
  | rt r ρ1 => rw [e] at h; exact h
  | bk ρ1 => rw [e] at h; exact h
  | ct ρ1 => rw [e] at h; exact h
  | no => rw [e] at h; exact h
  | ex c ρ1 =>
    rw [e] at h
    have h : ToS X.K W io P F D (match tab.lookup c with
      | some true => coldR (ms ρ1)
      | some false => .ex c ρ1
      | none => .no) := h
    intro σ' H' F' s S'
    cases et : tab.lookup c with
    | none => rw [et] at h; exact h.elim
    | some b =>
      rw [et] at h
      have hx := ht _ (mem_of_lookup et)
      cases b with
      | false => exact ⟨false, hx, ⟨fun z => Bool.noConfusion z, fun _ => h σ' H' F' s S'⟩⟩
      | true =>
        refine ⟨true, hx, ⟨fun _ a na => ?_, fun z => Bool.noConfusion z⟩⟩
        refine ⟨P, F', ρ1, S', ?_⟩
        have h : ToS X.K W io P F' D (coldR (ms ρ1)) := ToS.up s h
        cases em : ms ρ1 with
        | nx ρ2 => rw [em] at h; exact h
        | bk ρ2 => rw [em] at h; exact h
        | ct ρ2 => rw [em] at h; exact h
        | rt r ρ2 => rw [em] at h; exact h
        | ex c2 ρ2 => rw [em] at h; exact h.elim
        | no => rw [em] at h; exact h⟩
end
/-! ### isinstance of a caught exception -/
def isE (tab : List (Str × Bool)) : Op1 := fun d => match d with
  | .exo c => (tab.lookup c).map okB
  | _ => none
/-- a class by name: own or built-in -/
structure IsC (X : Cx) (e : Expr) (c : V) (cv : Value) : Prop where
  pe : PE X e (tC c)
  k : ClsV c cv
def TabE (K : PySem.W.Frag) (cv : Value) (tab : List (Str × Bool)) : Prop := ∀ p ∈ tab, ExcC K (He.ga K p.1) ∧ PySem.W.kitOne K (.ref (He.ga K p.1)) cv = some p.2
def TabEs (K : PySem.W.Frag) (cvs : List Value) (tab : List (Str × Bool)) : Prop := ∀ p ∈ tab, ExcC K (He.ga K p.1) ∧ PySem.W.kitAny K (.ref (He.ga K p.1)) cvs = some p.2
section
variable {X : Cx} {W : WX} {io : Nat → Option Addr} {e c : Expr} {o : Opd} {pos p p2 : Pos} {tab : List (Str × Bool)} {cv : Value} {vc : V}
theorem isC_own {x : Str} (hm : X.mg x = some (.ref (He.ga X.K x))) (hg : Gl X x := by rfl) (hd : (x == ("__debug__" : Str)) = false := by decide) : IsC X (.Name x pos) (.ref (He.ga X.K x)) (.ref (He.ga X.K x)) := ⟨pe_glob hg hm (v := .ref (He.ga X.K x)) rfl hd, .own _⟩
theorem isC_ty {x : Str} {T : String} (hm : X.mg x = none) (hv : bootBuiltins x = some (.type T)) (hg : Gl X x := by rfl) (hn : x ≠ "__name__" := by decide) (hd : (x == ("__debug__" : Str)) = false := by decide) : IsC X (.Name x pos) (.ty T) (.type T) := ⟨pe_bltn hg hm hv (v := .ty T) rfl hn hd, .ty T⟩
theorem je_isE (hm : X.mg "isinstance" = none) (ho : JO X W io e o) (hT : IsC X c vc cv) (ht : TabE X.K cv tab) (hg : Gl X "isinstance" := by rfl)
    (h1 : starEach [e, c] X.env = (false, eval e X.env) :: starEach [c] X.env := by rfl) (h2 : starEach [c] X.env = (false, eval c X.env) :: starEach [] X.env := by rfl) (hpl : (backTo pos (starEach [c] X.env)).any (·.1) = false := by rfl) :
    JE X W io (.Call (.Name "isinstance" p) [e, c] [] pos) (mOp1 (isE tab) o) := by
  refine ⟨pei (pe_callB call_isQ hg hm (by decide +kernel) (pa_cons ho.pe (pa_cons hT.pe pa_nil h2) h1) (by decide) (by decide) h1 hpl) fun σ H Q h => ?_⟩
  obtain ⟨P, F, ρ, S, h⟩ := h
  obtain ⟨hc, h⟩ := toE_if h
  refine tO_bind S h (fun _ _ _ _ => trivial) (fun p ρ1 v H1 F1 s1 S1 R1 h1 => ?_) (okV_v S hc)
  obtain ⟨z, e, h3⟩ := mk_some h1
  unfold get1 at e
  cases e1 : p.get ρ1 with
  | none => rw [e1] at e; cases e
  | some dx =>
    rw [e1] at e
    cases dx <;> first | (cases e; done) | skip
    rename_i cc
    obtain ⟨b, eb, ez⟩ := Option.map_eq_some_iff.mp (show (tab.lookup cc).map okB = some z from e)
    subst ez
    obtain ⟨hx, hk⟩ := ht _ (mem_of_lookup eb)
    rcases R1.pk S1 e1 with q | ⟨xs, a, vs, r1, _⟩
    · obtain ⟨a, rfl, ha⟩ := q
      exact ⟨a, _, vc, cv, b, rfl, S1.fh _ _ ha, hx, fun u r => hT.k.eq r, hk, (h3.want S1).fz S1.fh rfl⟩
    · cases r1
def IsCs (X : Cx) : List Expr → List V → List Value → Prop
  | [], [], [] => True
  | e :: es, c :: cs, v :: vs => IsC X e c v ∧ starEach (e :: es) X.env = (false, eval e X.env) :: starEach es X.env ∧ IsCs X es cs vs
  | _, _, _ => False
theorem iscs_nil : IsCs X [] [] [] := trivial
theorem iscs_cons {es : List Expr} {cs : List V} {vs : List Value} (h : IsC X e vc cv) (r : IsCs X es cs vs) (hs : starEach (e :: es) X.env = (false, eval e X.env) :: starEach es X.env := by rfl) : IsCs X (e :: es) (vc :: cs) (cv :: vs) := ⟨h, hs, r⟩
def tCs : List V → TA
  | [] => tNil
  | c :: cs => tCons (tC c) (tCs cs)
theorem IsCs.pa : ∀ {es : List Expr} {cs : List V} {vs : List Value}, IsCs X es cs vs → PA X es (tCs cs)
  | [], [], [], _ => pa_nil
  | _ :: _, _ :: _, _ :: _, ⟨h, hs, r⟩ => pa_cons h.pe r.pa hs
  | [], [], _ :: _, h => h.elim
  | [], _ :: _, _, h => h.elim
  | _ :: _, [], _, h => h.elim
  | _ :: _, _ :: _, [], h => h.elim
theorem IsCs.cl : ∀ {es : List Expr} {cs : List V} {vs : List Value}, IsCs X es cs vs → Paired ClsV cs vs ∧ cs.length = es.length
  | [], [], [], _ => ⟨.nil, rfl⟩
  | _ :: _, _ :: _, _ :: _, ⟨h, hs, r⟩ => ⟨.cons h.k r.cl.1, congrArg Nat.succ r.cl.2⟩
  | [], [], _ :: _, h => h.elim
  | [], _ :: _, _, h => h.elim
  | _ :: _, [], _, h => h.elim
  | _ :: _, _ :: _, [], h => h.elim
theorem tCs_run : ∀ (cs : List V) {σ : L2.St} {H : Hp} {Q : List V → Hp → Prop}, Q cs H → tCs cs σ H Q
  | [], _, _, _, q => q
  | _ :: cs, _, _, _, q => tCs_run cs q
theorem je_isET {es : List Expr} {k : Nat} {cs : List V} {vs : List Value} (hm : X.mg "isinstance" = none) (ho : JO X W io e o) (hT : IsCs X es cs vs) (ht : TabEs X.K vs tab) (hl : es.length ≤ 100 := by decide) (hg : Gl X "isinstance" := by rfl)
    (h1 : starEach [e, .Tuple es k p2] X.env = (false, eval e X.env) :: starEach [.Tuple es k p2] X.env := by rfl) (h2 : starEach [.Tuple es k p2] X.env = (false, eval (.Tuple es k p2) X.env) :: starEach [] X.env := by rfl) (hpl : (backTo pos (starEach [.Tuple es k p2] X.env)).any (·.1) = false := by rfl) :
    JE X W io (.Call (.Name "isinstance" p) [e, .Tuple es k p2] [] pos) (mOp1 (isE tab) o) := by
  refine ⟨pei (pe_callB call_isQT hg hm (by decide +kernel) (pa_cons ho.pe (pa_cons (pe_tup hT.pa) pa_nil h2) h1) (by decide) (by decide) h1 hpl) fun σ H Q h => ?_⟩
  obtain ⟨P, F, ρ, S, h⟩ := h
  obtain ⟨hc, h⟩ := toE_if h
  refine tO_bind S h (fun _ _ _ _ => trivial) (fun p ρ1 v H1 F1 s1 S1 R1 h1 => ?_) (okV_v S hc)
  obtain ⟨z, e, h3⟩ := mk_some h1
  unfold get1 at e
  cases e1 : p.get ρ1 with
  | none => rw [e1] at e; cases e
  | some dx =>
    rw [e1] at e
    cases dx <;> first | (cases e; done) | skip
    rename_i cc
    obtain ⟨b, eb, ez⟩ := Option.map_eq_some_iff.mp (show (tab.lookup cc).map okB = some z from e)
    subst ez
    obtain ⟨hx, hk⟩ := ht _ (mem_of_lookup eb)
    rcases R1.pk S1 e1 with q | ⟨xs, a, vs, r1, _⟩
    · obtain ⟨a, rfl, ha⟩ := q
      refine tCs_run cs ⟨by rw [hT.cl.2, sizeLine_eq]; omega, fun n hq => ?_⟩
      have ex := Ext.laid (o := .tup cs) S1.fh hq
      exact ⟨a, _, n, cs, vs, b, rfl, ex.h _ _ (S1.fh _ _ ha), hx, upd_same, hT.cl.1, hk, (h3.want S1) _ _ _ ex rfl⟩
    · cases r1
end
end Mi

namespace Mi
open PySem PySem.Spec PyProof.Rows L2

/-! ### t[::-1], t a tuple -/
section
variable {prog : Program} {w : World} {A : Around} {E : Value → Shared → Prop} {s : Shared}
theorem fmc {α β : Type} {f g : α → Option β} : ∀ {l : List α}, (∀ x ∈ l, f x = g x) → l.filterMap f = l.filterMap g
  | [], _ => rfl
  | a :: l, h => by
    rw [List.filterMap_cons, List.filterMap_cons, h a (List.mem_cons_self ..), fmc fun x hx => h x (List.mem_cons_of_mem _ hx)]
open HT in
theorem rev_pick (xs : Array Value) : ((List.range xs.size).filterMap fun (m : Nat) => xs[(((xs.size : Int) - 1) + (m : Int) * (-1)).toNat]?).toArray = xs.toList.reverse.toArray := by
  rw [← PySem.W.krv_pick xs]
  unfold slicePick
  rw [PySem.W.krv_bounds]
  show _ = ((sliceRange ((xs.size : Int) - 1) (-1) (-1)).filterMap (xs[·]?)).toArray
  rw [PySem.W.krv_sliceRange, List.filterMap_map]
  congr 1
  refine fmc fun k hk => ?_
  have := List.mem_range.mp hk
  show xs[(((xs.size : Int) - 1) + (k : Int) * (-1)).toNat]? = xs[xs.size - 1 - k]?
  congr 1
  omega
open HT in
theorem getItem_tuple_rev {t sl : Addr} {items : Array Value} {vs : Value} {Q : Value → Shared → Prop} (ht : IsTup s.heap t items) (hs : s.heap.IsSliceOf sl .none .none vs) (ps : IsPart vs (some (-1)))
    (h : Q (.ref s.heap.objs.size) { s with heap := s.heap.push { cls := .type "tuple", data := .seq items.toList.reverse.toArray } })
    (hsz : items.size ≤ sizeLine) : wpAny (model prog w) A (getItem (.ref t) (.ref sl)) Q E s := by
  have htake : sizeOk (.seq items.toList.reverse.toArray) := by
    show items.toList.reverse.toArray.size ≤ sizeLine
    rw [List.size_toArray, List.length_reverse, Array.length_toList]
    exact hsz
  obtain ⟨os, hos, hcs, hds⟩ := id hs
  have hTs : s.TypeIs (.ref sl) "slice" := ⟨os, hos, hcs⟩
  unfold getItem
  try with_reducible refine wpAny_holding ?_
  first | refine wpAny_bind (wpAny_pure ?_) | skip
  refine wpAny_bind (wpAny_sequenceKey ht.typeIs (by decide) ?_)
  refine wpAny_bind (wpAny_callSpecial?_slot (name := Str.ofString "__getitem__") ht.typeIs PyProof.Rows.slot_tuple_getitem
    (wpAny_call_entry PyProof.Rows.slot_tuple_getitem ht.typeIs entry_tuple_getitem ?_ (args_tuple_getitem _ _)))
  show wpAny _ _ (Builtin.Tuple.tupleItemsOf (.ref t) >>= _) _ _ s
  refine wpAny_bind (tupleItemsOf_ ht ?_)
  refine wpAny_bind (wpAny_typeOf hTs ?_)
  rw [if_pos (by decide)]
  have ap : ∀ {Q : Int × Int × Nat → Shared → Prop} {A : Around} {E : Value → Shared → Prop}, Q ((items.size : Int) - 1, -1, items.size) s → wpAny (model prog w) A (Builtin.Slice.sliceApplied (.ref sl) (pure (items.size : Int))) Q E s := by
    intro Q A E h
    unfold Builtin.Slice.sliceApplied Builtin.Slice.sliceFields
    refine wpAny_bind (wpAny_bind (wpAny_field hos hds (x := .none) rfl (wpAny_bind (wpAny_field hos hds (x := .none) rfl (wpAny_bind (wpAny_field hos hds (x := vs) rfl (wpAny_pure ?_)))))))
    refine wpAny_bind (slicePart_ ps ?_)
    show wpAny _ _ (if ((-1 : Int) == 0) = true then _ else _) _ _ s
    rw [if_neg (by decide)]
    refine wpAny_bind (slicePart_none (wpAny_bind (slicePart_none (wpAny_bind (wpAny_pure ?_)))))
    show wpAny _ _ (pure ((items.size : Int) - 1, (-1 : Int), Builtin.Slice.slicePlaces ((items.size : Int) - 1) (-1) (-1))) _ _ s
    have e : Builtin.Slice.slicePlaces ((items.size : Int) - 1) (-1) (-1) = items.size := by
      unfold Builtin.Slice.slicePlaces
      have h1 : ¬ ((-1 : Int) > 0) := by decide
      simp only [h1, if_false]
      by_cases h : (items.size : Int) - 1 > -1
      · have e : ((items.size : Int) - 1 - -1 - 1) / (- -1) + 1 = (items.size : Int) := by
          rw [show (- -1 : Int) = 1 by decide, Int.ediv_one]
          omega
        simp only [h, if_true, e, Int.toNat_natCast]
      · simp only [h, if_false]
        omega
    rw [e]
    exact wpAny_pure h
  refine wpAny_bind (ap ?_)
  have hno : ¬ ((((items.size : Int) - 1) == 0 && (-1 : Int) == 1 && items.size == items.size) = true) := by
    intro q
    rw [Bool.and_eq_true, Bool.and_eq_true] at q
    exact absurd q.1.2 (by decide)
  show wpAny _ _ (if (((items.size : Int) - 1) == 0 && (-1 : Int) == 1 && items.size == items.size) = true then _ else _) _ _ s
  rw [if_neg hno, rev_pick]
  first
    | exact wpAny_bind (m := Builtin.Tuple.tupleExact _) (wpAny_newObj_type (wpAny_pure ⟨_, rfl, wpAny_pure h⟩) htake)
    | exact wpAny_bind (m := Builtin.Tuple.tupleExact _) (wpAny_newObj_type (wpAny_bind (wpAny_pure (wpAny_pure ⟨_, rfl, wpAny_pure h⟩))) htake)
    | exact wpAny_bind (wpAny_bind (m := Builtin.Tuple.tupleExact _) (wpAny_newObj_type (wpAny_pure (wpAny_pure ⟨_, rfl, wpAny_pure h⟩)) htake))
    | exact wpAny_bind (wpAny_bind (m := Builtin.Tuple.tupleExact _) (wpAny_newObj_type (wpAny_pure ⟨_, rfl, wpAny_pure h⟩) htake))
end
section
variable {X : Cx} {W : WX} {io : Nat → Option Addr}
def rRev (K : PySem.W.Frag) : V → Hp → VK → Prop := fun x H Q => (∃ a xs, x = .ref a ∧ SqL K H a xs ∧ ∀ p, H p = none → Q (.ref p) (upd H p (.lst xs.reverse))) ∨ (∃ a xs, x = .ref a ∧ SqT K H a xs ∧ ∀ p, H p = none → Q (.ref p) (upd H p (.tup xs.reverse)))
theorem pe_revA {e : Expr} {te : TE} {k : Nat} {p1 p2 p3 pos : Pos} (he : PE X e te) : PE X (.Subscript e (.Slice none none (some (.UnaryOp .USub (.Constant (.int 1) k p1) p2)) p3) pos) (tUn (rRev X.K) te) := by
  refine ⟨fun pins s σ H Q I h => ?_⟩
  refine Subscript_ (thn (he.run pins s σ H _ I h) fun v s1 ⟨x, H1, I1, r1, q1⟩ => ?_)
  have hst : PO X (some (.UnaryOp .USub (.Constant (.int 1) k p1) p2)) (tPart (tUn (rU fun i => .int (-i)) (tC (.int 1)))) := po_some (pe_un un_neg pe_int)
  refine wpAny_Slice (thn (po_none.run pins s1 σ H1 (fun o H2 => o = none ∧ H2 = H1) I1 ⟨rfl, rfl⟩) fun vl s2 ⟨l, H2, I2, pl, el, e2⟩ => ?_)
  subst el e2
  refine thn (po_none.run pins s2 σ H2 (fun o H3 => o = none ∧ H3 = H2) I2 ⟨rfl, rfl⟩) fun vu s3 ⟨u, H3, I3, pu, eu, e3⟩ => ?_
  subst eu e3
  refine thn (hst.run pins s3 σ H3 (fun o H4 => o = some (-1) ∧ H4 = H3) I3 ⟨1, rfl, -1, rfl, rfl, rfl⟩) fun vs s4 ⟨o, H4, I4, ps, eo, e4⟩ => ?_
  subst eo e4
  have I5 : Inv X pins σ H4 { s4 with heap := s4.heap.push { cls := .type "slice", data := .fields #[vl, vu, vs] } } := I4.kept (t' := s4.toks) fun b ob q => Heap.get?_push_of_some _ q
  rcases q1 with ⟨a, xs, ex, hx, q⟩ | ⟨a, xs, ex, hx, q⟩
  · subst ex
    cases r1
    obtain ⟨its, r, ht, hz⟩ := I5.list hx
    have hlen := r.length
    show wpAny (model X.prog X.w) X.A (subscriptTail e (.Slice none none (some (.UnaryOp .USub (.Constant (.int 1) k p1) p2)) p3) (.ref a) (.ref s4.heap.objs.size)) (EP X pins σ Q) X.xe { s4 with heap := s4.heap.push { cls := .type "slice", data := .fields #[vl, vu, vs] } }
    refine tail_any (ops := [.ref a, .ref s4.heap.objs.size]) ht.isList.typeIs (PySem.slot_list_getitem.lookup) ?_ (by with_unfolding_all rfl)
    refine wpAny_getItem_list_slice ht.isList (Heap.IsSliceOf.new _ vl vu vs) pl pu ps (by decide) ?_ (by rw [List.size_toArray]; omega)
    rw [PySem.W.krv_pick]
    refine ⟨.ref _, _, I5.laid (t' := s4.toks) (o := .lst xs.reverse) (fun b ob q => Heap.get?_push_of_some _ q) (Nat.le_refl _) ?_, rfl, q _ (I5.hok.fresh (Nat.le_refl _))⟩
    exact ⟨by rw [List.length_reverse]; exact hz, _, 0, r.reverse, Heap.get?_push_size _ rfl⟩
  · subst ex
    cases r1
    obtain ⟨its, r, ht, hz⟩ := I5.tuple hx
    have hlen := r.length
    cases pl
    cases pu
    show wpAny (model X.prog X.w) X.A (subscriptTail e (.Slice none none (some (.UnaryOp .USub (.Constant (.int 1) k p1) p2)) p3) (.ref a) (.ref s4.heap.objs.size)) (EP X pins σ Q) X.xe { s4 with heap := s4.heap.push { cls := .type "slice", data := .fields #[.none, .none, vs] } }
    have ht' : IsTup (s4.heap.push { cls := .type "slice", data := .fields #[.none, .none, vs] }) a its.toArray := ht
    refine tail_any (ops := [.ref a, .ref s4.heap.objs.size]) (s := { s4 with heap := s4.heap.push { cls := .type "slice", data := .fields #[.none, .none, vs] } }) ht'.typeIs (PyProof.Rows.slot_tuple_getitem.lookup) ?_ (by with_unfolding_all rfl)
    refine getItem_tuple_rev ht' (Heap.IsSliceOf.new _ .none .none vs) ps ?_ (by rw [List.size_toArray]; omega)
    have hl : its.toArray.toList.reverse.toArray = its.reverse.toArray := by simp
    rw [hl]
    refine ⟨.ref _, _, I5.laid (t' := s4.toks) (o := .tup xs.reverse) (fun b ob q => Heap.get?_push_of_some _ q) (Nat.le_refl _) ?_, rfl, q _ (I5.hok.fresh (Nat.le_refl _))⟩
    exact ⟨by rw [List.length_reverse]; exact hz, _, r.reverse, ⟨_, Heap.get?_push_size _ rfl, rfl, _, rfl⟩⟩
def revD : Op1
  | .lst xs => some (.ow xs.reverse)
  | .tup xs => some (.fz (.tup xs.reverse))
  | _ => none
theorem ok_rev : Op1Ok X.K (rRev X.K) revD := by
  intro F H x dx z Q e q h w
  cases dx <;> first | (simp [revD] at h; done) | skip
  · obtain ⟨a, vs, rfl, h1, h2⟩ := q.tup
    cases h
    exact .inr ⟨a, vs, rfl, same_seqT e h1, fun p hp => w.tup e hp h2.reverse⟩
  · obtain ⟨a, vs, rfl, h1, h2⟩ := q.lst e
    cases h
    exact .inl ⟨a, vs, rfl, .inl (.inl h1), fun p hp => w.lst e hp h2.reverse⟩
theorem je_rev {e : Expr} {o : Opd} {k : Nat} {p1 p2 p3 pos : Pos} (h : JO X W io e o) : JE X W io (.Subscript e (.Slice none none (some (.UnaryOp .USub (.Constant (.int 1) k p1) p2)) p3) pos) (mOp1 revD o) := ⟨pei (pe_revA h.pe) fun _ _ _ h => op1_core ok_rev h⟩
/-- {} -/
theorem je_dic0 {pos : Pos} : JE X W io (.Dict [] [] pos) (mC (.dic [])) := ⟨pei pe_dnewK fun σ H Q h => by
  obtain ⟨P, F, ρ, S, h⟩ := h
  intro p hp
  have ex := Ext.froz (o := .dK []) S.fh hp
  exact h (.ref p) _ _ ex.f (S.ext ex) ⟨p, [], rfl, upd_same, rfl⟩⟩
end
end Mi

namespace Mi
open PySem PySem.Spec PyProof.Rows L2

/-! ### a def by its name -/
structure FnK (P : Program) (w : World) (K : PySem.W.Frag) (mg : Str → Option Value) (base : Heap) (k n : Nat) (x : Str) (ps : List Str) (kws : List (Nat × List Str × List Nat)) (f : Fn) : Prop where
  ex : ∃ fd, (∃ oc od osl, K.lookup (He.ga K x) = some ⟨oc, od, .func fd, osl⟩) ∧ FnG P w K mg base k (He.ga K x) fd ps (spF K n f) ∧ Binds K fd ps [] ∧ ∀ q ∈ kws, KB fd ps q.2.1 q.1 q.2.2
  g : mg x = some (.ref (He.ga K x))
  kp : PySem.W.keepIn K (.ref (He.ga K x)) = true
section
variable {P : Program} {w : World} {K : PySem.W.Frag} {mg : Str → Option Value} {base : Heap} {x qual : Str} {params : Arguments} {body : List Stmt} {scope : Scope} {kv : List (Str × V)} {fd : FuncData} {N ps : List Str} {m : Sm} {kws : List (Nat × List Str × List Nat)} {lev : Nat}
theorem fnK_of (F : FunD K x qual params body scope [] kv (He.ga K x) fd) (g : mg x = some (.ref (He.ga K x))) (S : FnScope N ps scope) {n k : Nat} (hn : ps.length = n) (hk : N.length = n + k) (hb : Binds K fd ps []) (hq : ∀ q ∈ kws, KB fd ps q.2.1 q.1 q.2.2)
    (h : ∀ (cdv : Value) (A : Around) (outer : List PySem.Env) (s : Shared) (H : Hp) (E : XK) (io : Nat → Option Addr), RoomG lev (A.deeper (envOfC qual scope s.heap.objs.size (He.ga K x) cdv)) → JSs (bx P w K mg base N qual scope (He.ga K x) cdv A outer s H E) (wx E) io body m) :
    FnK P w K mg base (lev + 1) n x ps kws (mkFn n k m) := by
  refine ⟨⟨fd, ?_, fn_ok F S hn hk h, hb, hq⟩, g, F.kp⟩
  obtain ⟨oc, od, dV, kV, doc, pm, an, cdv, ct, osl, rfl, lk, _⟩ := F.ex
  exact ⟨oc, od, osl, lk⟩
theorem fnK_none {n : Nat} (d : ∃ fd, FunD K x qual params body scope [] kv (He.ga K x) fd) (g : mg x = some (.ref (He.ga K x))) (hn : ps.length = n) (hb : ∀ fd, FunD K x qual params body scope [] kv (He.ga K x) fd → Binds K fd ps []) (hq : ∀ fd, FunD K x qual params body scope [] kv (He.ga K x) fd → ∀ q ∈ kws, KB fd ps q.2.1 q.1 q.2.2) :
    FnK P w K mg base lev n x ps kws (fun _ => .no) := by
  obtain ⟨fd, F⟩ := d
  refine ⟨⟨fd, ?_, ⟨fun vs H Q E h => by rw [hn]; exact h.1, fun A outer s H args us vs Q E hr he hB hv h => ?_⟩, hb fd F, hq fd F⟩, g, F.kp⟩
  · obtain ⟨oc, od, dV, kV, doc, pm, an, cdv, ct, osl, rfl, lk, _⟩ := F.ex
    exact ⟨oc, od, osl, lk⟩
  · obtain ⟨_, P', F', args, S, h⟩ := h
    exact h.elim
theorem bx_passes {f : Addr} {cdv : Value} {A : Around} {outer : List PySem.Env} {s : Shared} {H : Hp} {E : XK} : PassesOwn (model (bx P w K mg base N qual scope f cdv A outer s H E).prog (bx P w K mg base N qual scope f cdv A outer s H E).w) (bx P w K mg base N qual scope f cdv A outer s H E).A (bx P w K mg base N qual scope f cdv A outer s H E).env (bx P w K mg base N qual scope f cdv A outer s H E).xe := passes_of rfl
end
theorem u64 {lev : Nat} {A : Around} (h : RoomG lev A) : A.units + 64 < cLine := by
  have := h.room.un
  omega
theorem u65 {lev : Nat} {A : Around} (h : RoomG lev A) : A.units + 65 < cLine := by
  have := h.room.un
  omega
section
variable {X : Cx} {W : WX} {io : Nat → Option Addr} {k n lev : Nat} {ps ks : List Str} {kws : List (Nat × List Str × List Nat)} {f : Fn} {x : Str} {p pos : Pos} {e : Expr} {es : List Expr} {os qs : List Opd} {pm : List Nat} {kw : List Keyword}
theorem je_callF (tk : Takes X W) (F : FnK X.prog X.w X.K X.mg X.base k n x ps kws f) (hr : RoomG lev X.A) (hk : k ≤ lev) (ho : JOs X W io (e :: es) os) (hl : os.length = n)
    (hg : Gl X x := by rfl) (hdb : (x == ("__debug__" : Str)) = false := by decide) (he : starEach (e :: es) X.env = (false, eval e X.env) :: starEach es X.env := by rfl) (hpl : (backTo pos (starEach es X.env)).any (·.1) = false := by rfl) :
    JE X W io (.Call (.Name x p) (e :: es) [] pos) (mCall f os) := by
  obtain ⟨fd, _, F1, hb, _⟩ := F.ex
  exact je_call tk F1 (hr.mono hk) F.g F.kp hb ho hl hg hdb he hpl
theorem je_callF0 (tk : Takes X W) (F : FnK X.prog X.w X.K X.mg X.base k 0 x ps kws f) (hr : RoomG lev X.A) (hk : k ≤ lev) (hg : Gl X x := by rfl) (hdb : (x == ("__debug__" : Str)) = false := by decide) : JE X W io (.Call (.Name x p) [] [] pos) (mCall f []) := by
  obtain ⟨fd, _, F1, hb, _⟩ := F.ex
  exact je_call0 tk F1 (hr.mono hk) F.g F.kp hb hg hdb
theorem je_callFK (tk : Takes X W) (F : FnK X.prog X.w X.K X.mg X.base k n x ps kws f) (hr : RoomG lev X.A) (hk : k ≤ lev) (j : Nat) (ho : JOs X W io (e :: es) os) (hq : JKs X W io kw qs) (hj : kws[j]? = some (os.length, ks, pm)) (hl : (permL pm (List.replicate (os.length + qs.length) 0)).length = n) (hl2 : qs.length = ks.length := by rfl)
    (hall : (backToKw pos (keywordEach kw X.env)).all (·.1.isSome) = true := by rfl) (hks : (backToKw pos (keywordEach kw X.env)).filterMap (·.1) = ks := by rfl)
    (hg : Gl X x := by rfl) (hdb : (x == ("__debug__" : Str)) = false := by decide) (he : starEach (e :: es) X.env = (false, eval e X.env) :: starEach es X.env := by rfl)
    (hpl : ((backTo pos (starEach (e :: es) X.env)).any (·.1) || (backToKw pos (keywordEach kw X.env)).any (·.1.isNone)) = false := by rfl) :
    JE X W io (.Call (.Name x p) (e :: es) kw pos) (mCallK f pm os qs) := by
  obtain ⟨fd, _, F1, _, hb⟩ := F.ex
  exact je_callK tk F1 (hr.mono hk) F.g F.kp (hb _ (List.mem_of_getElem? hj)) ho hq (fun l h => (permL_len (by rw [h, List.length_replicate]) pm).trans hl) hl2 hall hks hg hdb he hpl
theorem je_callFK0 (tk : Takes X W) (F : FnK X.prog X.w X.K X.mg X.base k n x ps kws f) (hr : RoomG lev X.A) (hk : k ≤ lev) (j : Nat) (hq : JKs X W io kw qs) (hj : kws[j]? = some (0, ks, pm)) (hl : (permL pm (List.replicate qs.length 0)).length = n) (hl2 : qs.length = ks.length := by rfl)
    (hall : (backToKw pos (keywordEach kw X.env)).all (·.1.isSome) = true := by rfl) (hks : (backToKw pos (keywordEach kw X.env)).filterMap (·.1) = ks := by rfl)
    (hg : Gl X x := by rfl) (hdb : (x == ("__debug__" : Str)) = false := by decide)
    (hpl : ((backTo pos (starEach [] X.env)).any (·.1) || (backToKw pos (keywordEach kw X.env)).any (·.1.isNone)) = false := by rfl) :
    JE X W io (.Call (.Name x p) [] kw pos) (mCallK f pm [] qs) := by
  obtain ⟨fd, _, F1, _, hb⟩ := F.ex
  exact je_callK0 tk F1 (hr.mono hk) F.g F.kp (hb _ (List.mem_of_getElem? hj)) hq (fun l h => (permL_len (by rw [h, List.length_replicate]) pm).trans hl) hl2 hall hks hg hdb hpl
end
/-! ### x, y, z = a, b, c -/
section
variable {X : Cx} {W : WX} {io : Nat → Option Addr} {a b c : Expr} {ma mb mc : Ex} {pos : Pos}
theorem js_par3 {i j l : Nat} {x y z : Str} {px py pz pt : Pos} {kt k2 : Nat} {pt2 : Pos} (hc : X.calm = true) (hN : X.N.Nodup) (ha : JE X W io a ma) (hb : JE X W io b mb) (hd : JE X W io c mc) (hi : X.N[i]? = some x := by rfl) (hj : X.N[j]? = some y := by rfl) (hl : X.N[l]? = some z := by rfl)
    (hij : i ≠ j := by decide) (hil : i ≠ l := by decide) (hjl : j ≠ l := by decide)
    (hx : X.env.scope.names.lookup x = some .local := by rfl) (hy : X.env.scope.names.lookup y = some .local := by rfl) (hz : X.env.scope.names.lookup z = some .local := by rfl)
    (h1 : starEach [a, b, c] X.env = (false, eval a X.env) :: starEach [b, c] X.env := by rfl) (h2 : starEach [b, c] X.env = (false, eval b X.env) :: starEach [c] X.env := by rfl) (h3 : starEach [c] X.env = (false, eval c X.env) :: starEach [] X.env := by rfl)
    (hw : swappedStores [.Tuple [.Name x px, .Name y py, .Name z pz] kt pt] (.Tuple [a, b, c] k2 pt2) X.env = pure (some [x, y, z]) := by rfl)
    (hs : swapsWithSole [.Tuple [.Name x px, .Name y py, .Name z pz] kt pt] (.Tuple [a, b, c] k2 pt2) pos.line X.env = pure false := by rfl) :
    JS X W io (.Assign [.Tuple [.Name x px, .Name y py, .Name z pz] kt pt] (.Tuple [a, b, c] k2 pt2) pos) (sPar3 i j l ma mb mc) := ⟨psi (ps_par3 hc hN hi hj hl hij hil hjl hx hy hz (pa_cons ha.pe (pa_cons hb.pe (pa_cons hd.pe pa_nil h3) h2) h1) hw hs) fun D σ H h => by
  obtain ⟨P, F, ρ, S, h⟩ := h
  refine tJ_toS S h fun r ρ1 v H1 F1 s S1 R1 h1 => ?_
  obtain ⟨e1, S1'⟩ := S1.hold R1
  refine tJ_toSP S1' e1 h1 fun t ρ2 u H2 F2 s2 S2 R2 h2 => ?_
  have Rv := R1.kept s2 S2
  have key := held_eq R1 S2
  obtain ⟨e2, S2'⟩ := S2.hold R2
  refine tJ_toSP S2' (e1.trans e2) h2 fun q ρ3 y3 H3 F3 s3 S3 R3 h3 => ?_
  refine ⟨v, u, y3, rfl, ?_⟩
  have Ru := R2.kept s3 S3
  have key2 := held_eq R2 S3
  -- all three stand at H3
  have S3a : St X.K io (held P H1 v r) F3 ρ3 σ H3 := S3.lessP e2
  have Rv3 : Rel X.K P F3 ρ3 σ H3 v r := R1.kept (s2.trans s3) S3a
  have key3 := held_eq R1 S3a
  have S3b : St X.K io P F3 ρ3 σ H3 := S3a.lessP e1
  refine h3 _ H3 F3 (Same.refl _) ?_
  have T1 : St X.K io P F3 ((ρ3.set i (some r)).set j (some t)) ((σ.set i (some v)).set j (some u)) H3 := S3b.store2 (i := i) (j := j) Rv3 (by rw [key3]; exact Ru) (by rw [key3]; exact S3a) hij
  refine T1.store (i := l) ?_
  cases q with
  | fz d => exact R3
  | io xs => exact R3
  | ow xs =>
    obtain ⟨a3, vs3, rfl, g2, g3, g4, g5, g6⟩ := R3
    refine ⟨a3, vs3, rfl, g2, g3, g4, (e1.trans e2).free g5, fun m ys o e => ?_⟩
    by_cases hmj : m = j
    · subst hmj
      by_cases hlen : m < ρ3.length
      · have hl1 : m < (ρ3.set i (some r)).length := by simpa using hlen
        have et : t = .ow ys := by
          rcases o with o | o
          · rw [set_self hl1] at o; cases o; rfl
          · rw [set_self hl1] at o; cases o; exact Ru.elim
        subst et
        obtain ⟨b, us, rfl, k2, _⟩ := Ru
        rw [set_self (by rw [List.length_set, ← S3b.len]; exact hlen)] at e
        cases e
        have hz : held (held P H1 v r) H2 (.ref a3) (.ow ys) a3 = H2 a3 := if_pos rfl
        have z2 := S3.ph a3
        rw [hz] at g5
        obtain ⟨b2, us2, e7, e8, _⟩ := R2
        cases e7
        rw [e8] at g5
        cases g5
      · rcases o with o | o
        · have := (List.getElem?_eq_some_iff.mp o).1
          simp at this
          exact hlen this
        · have := (List.getElem?_eq_some_iff.mp o).1
          simp at this
          exact hlen this
    · by_cases hmi : m = i
      · subst hmi
        by_cases hlen : m < ρ3.length
        · have er : r = .ow ys := by
            rcases o with o | o
            · rw [set_other (Ne.symm hmj), set_self hlen] at o; cases o; rfl
            · rw [set_other (Ne.symm hmj), set_self hlen] at o; cases o; exact Rv3.elim
          subst er
          rw [set_other (Ne.symm hmj)] at e
          obtain ⟨b2, us2, e7, e8, _⟩ := R1
          subst e7
          rw [set_self (by rw [← S3b.len]; exact hlen)] at e
          cases e
          have hz : held P H1 (.ref a3) (.ow ys) a3 = some (.lst us2) := (if_pos rfl).trans e8
          have := e2 a3 _ hz
          rw [this] at g5
          cases g5
        · rcases o with o | o
          · have := (List.getElem?_eq_some_iff.mp o).1
            simp at this
            exact hlen this
          · have := (List.getElem?_eq_some_iff.mp o).1
            simp at this
            exact hlen this
      · have o' : Own ρ3 m ys := by
          rcases o with o | o
          · rw [set_other (Ne.symm hmj), set_other (Ne.symm hmi)] at o; exact .inl o
          · rw [set_other (Ne.symm hmj), set_other (Ne.symm hmi)] at o; exact .inr o
        rw [set_other (Ne.symm hmj), set_other (Ne.symm hmi)] at e
        exact g6 m ys o' e⟩
end
/-! ### the head -/
inductive Qf where
  | exc (x : Str) | kit (x y : Str) (b : Bool) | kitT (x : Str) (T : String) (b : Bool) | kits (x : Str) (ys : List Str) (b : Bool)
def excB (K : PySem.W.Frag) (D : Addr) : Bool :=
  decide (PySem.W.findIn K (.ref D) "__getattribute__" = some (some (.builtin "BaseException.__getattribute__"))) && decide (PySem.W.findIn K (.ref D) "__getattr__" = some none) && decide (PySem.W.subIn K (.ref D) (.type "BaseException") = some true) && PySem.W.hasDictIn K D &&
  decide (PySem.W.findIn K (.ref D) "__class__" = some (some (.builtin "object.__class__"))) && decide (PySem.W.specialIn K (.builtin "object.__class__") "__get__" = some (some (.builtin "getset_descriptor.__get__"))) && decide (PySem.W.takesIn K (.builtin "object.__class__") = some true) && decide (PySem.W.mroIn K D (.type "object") = some true)
theorem excB_ok {K : PySem.W.Frag} {D : Addr} (h : excB K D = true) : ExcC K D := by
  unfold excB at h
  simp only [Bool.and_eq_true, decide_eq_true_eq] at h
  obtain ⟨⟨⟨⟨⟨⟨⟨h1, h2⟩, h3⟩, h4⟩, h5⟩, h6⟩, h7⟩, h8⟩ := h
  exact ⟨h1, h2, h3, h4, h5, h6, h7, h8⟩
def Qf.ok (K : PySem.W.Frag) : Qf → Bool
  | .exc x => excB K (He.ga K x)
  | .kit x y b => decide (PySem.W.kitOne K (.ref (He.ga K x)) (.ref (He.ga K y)) = some b)
  | .kitT x T b => decide (PySem.W.kitOne K (.ref (He.ga K x)) (.type T) = some b)
  | .kits x ys b => decide (PySem.W.kitAny K (.ref (He.ga K x)) (ys.map fun y => .ref (He.ga K y)) = some b)
section
variable {K : PySem.W.Frag} {x y : Str} {T : String} {ys : List Str} {b : Bool}
theorem Qf.exc_ok (h : (Qf.exc x).ok K = true) : ExcC K (He.ga K x) := excB_ok h
theorem Qf.kit_ok (h : (Qf.kit x y b).ok K = true) : PySem.W.kitOne K (.ref (He.ga K x)) (.ref (He.ga K y)) = some b := of_decide_eq_true h
theorem Qf.kitT_ok (h : (Qf.kitT x T b).ok K = true) : PySem.W.kitOne K (.ref (He.ga K x)) (.type T) = some b := of_decide_eq_true h
theorem Qf.kits_ok (h : (Qf.kits x ys b).ok K = true) : PySem.W.kitAny K (.ref (He.ga K x)) (ys.map fun y => .ref (He.ga K y)) = some b := of_decide_eq_true h
theorem qf_at {qf : List Qf} (e : (qf.all fun f => f.ok K) = true) (i : Nat) {f : Qf} (h : qf[i]? = some f) : f.ok K = true := List.all_eq_true.mp e f (List.mem_of_getElem? h)
theorem excF_of {h : Heap} {mg : Str → Option Value} (X : K.In h) (G : h.Ns mainGlobals mg) (c1 : (He.Fa.glo x).ok K = true) (c2 : (He.Fa.exc x).ok K = true) : ExcF K mg x := by
  obtain ⟨h1, h2, h3, h4⟩ := He.exc_ok c2
  exact ⟨He.glo_ok X G c1, h1, h2, h3, h4⟩
end
def obsQ (n : Nat) (fa : List He.Fa) (fn : List He.DefD) (qf : List Qf) (g : Addr → Option Obj) : He.AlD × Bool := (fun K : PySem.W.Frag => (He.obsD fa fn K, qf.all fun f => f.ok K)) (He.frG g (He.asD g n))
def hookQ (n : Nat) (fa : List He.Fa) (fn : List He.DefD) (qf : List Qf) : PySem.W.Hook where
  α := He.AlD × Bool
  obs := fun s => obsQ n fa fn qf s.heap.get?
  val := fun _ => (He.valD fn, true)
  says := fun _ h => ∃ K : PySem.W.Frag, K.In h ∧ He.SaysD fa fn K ∧ (qf.all fun f => f.ok K) = true
  of := fun _ _ e => ⟨_, He.frG_in, congrArg (fun z : He.AlD × Bool => z.1) e, congrArg (fun z : He.AlD × Bool => z.2) e⟩
  keeps := fun _ _ _ ⟨K, hK, c⟩ k => ⟨K, PySem.W.Frag.In.keeps hK k, c⟩
theorem obsQ_eq {n : Nat} {fa : List He.Fa} {fn : List He.DefD} {qf : List Qf} {g : Addr → Option Obj} {s : Shared} (h : ∀ a, g a = s.heap.get? a) : obsQ n fa fn qf g = (hookQ n fa fn qf).obs s := by
  have e : g = s.heap.get? := funext h
  rw [e] <;> rfl
/-! ### the end -/
theorem cx_none {P : Program} {w : World} {H : Hp} {s : Shared} {e : Value} {s' : Shared} (c : L2.CX P w [] H s (fun _ _ _ => False) e s') : False := by
  obtain ⟨_, _, _, _, _, _, _, _, _, _, _, _, z⟩ := c
  exact z
theorem FzL.ints {K : PySem.W.Frag} {F : Hp} : ∀ (ns : List Int), FzL K F (ns.map D.int) (ns.map V.int)
  | [] => rfl
  | n :: ns => ⟨.int n, ns.map V.int, rfl, rfl, FzL.ints ns⟩
/-- the law is called -/
theorem law_sp {K : PySem.W.Frag} {f : Fn} {H : Hp} {a : Addr} {ns : List Int} (hS : SqL K H a (ns.map V.int)) (h : ∃ o, f [.fz (.scr (ns.map .int))] = .ret (.fz (.bl true)) o) : spF K 1 f [.ref a] H (fun v _ => v = .bl true) fun _ _ _ => False := by
  obtain ⟨o, e⟩ := h
  refine ⟨rfl, fun _ => none, H, [.fz (.scr (ns.map .int))], ⟨Same.refl _, fun b o e => (nomatch (show (none : Option HO) = some o from e)), fun b o e => (nomatch (show (none : Option HO) = some o from e)), rfl, fun i d hi => ?_, fun i xs o => ?_, fun i xs b hi => ?_, fun i j xs ys b o => ?_⟩, ?_⟩
  · cases i with
    | zero =>
      cases hi
      exact ⟨.ref a, rfl, a, _, rfl, hS, FzL.ints ns⟩
    | succ i => simp at hi
  · rcases o with o | o <;> cases i <;> simp at o
  · cases i <;> simp at hi
  · rcases o with o | o <;> cases i <;> simp at o
  · rw [e]
    exact fun v H' F' s S r => r
/-- what is tracked at the law's call: the script, or nothing where the module owns it -/
theorem head_heap {P : Program} {w : World} {K : PySem.W.Frag} {a : Addr} {s : Shared} {vs : List Value} {ns : List Int} (inK : K.In s.heap) (ha : s.heap.get? a = some { cls := .type "list", data := .seq vs.toArray }) (hi : IntsAre vs ns) (hl : ns.length ≤ sizeLine) :
    ∃ H : Hp, Only H ∧ SqL K H a (ns.map V.int) ∧ HOk P w H s.heap ∧ (∀ b, H b ≠ none → b = a) ∧ (H a ≠ none → K.lookup a = none) := by
  have rv := vals_ints hi
  by_cases hk : ∃ o, K.lookup a = some o
  · obtain ⟨o, hk⟩ := hk
    have e := (inK a o hk).symm.trans ha
    obtain rfl : o = { cls := .type "list", data := .seq vs.toArray } := Option.some.inj e
    refine ⟨fun _ => none, fun _ => Or.inl rfl, Or.inr ⟨_, vs.toArray, _, hk, rfl, rfl, rfl, ?_, ?_⟩, ?_, fun b z => absurd rfl z, fun z => absurd rfl z⟩
    · rw [List.size_toArray, hi.length]; exact hl
    · simpa using rv
    · intro b u z
      exact (nomatch (show (none : Option HO) = some u from z))
  · have hk : K.lookup a = none := by
      cases e : K.lookup a with
      | none => rfl
      | some o => exact absurd ⟨o, e⟩ hk
    let u : HO := .frz { cls := .type "list", data := .seq vs.toArray } (.lst (ns.map V.int))
    have at0 : upd (fun _ => none) a u a = some u := upd_same
    have off : ∀ b, b ≠ a → upd (fun _ => none) a u b = none := fun b hb => upd_ne hb
    refine ⟨upd (fun _ => none) a u, fun b => ?_, Or.inl (Or.inr ⟨_, at0⟩), fun b z hz => ?_, fun b hb => ?_, fun _ => hk⟩
    · by_cases hb : b = a
      · subst hb; exact Or.inr ⟨_, _, at0⟩
      · exact Or.inl (off b hb)
    · by_cases hb : b = a
      · subst hb
        obtain rfl : u = z := Option.some.inj (at0.symm.trans hz)
        exact ⟨ha, by rw [List.length_map]; exact hl, vs, _, rv, ha⟩
      · rw [off b hb] at hz; cases hz
    · by_cases e : b = a
      · exact e
      · exact absurd (off b e) hb
/-- the head, for a def that wants no repr under way -/
theorem law_callG {P : Program} {w : World} {K : PySem.W.Frag} {mg mb : Str → Option Value} {k : Nat} {fa a : Addr} {fd : FuncData} {x : Str} {sp : Sp} {s : Shared} {vs : List Value} {ns : List Int} (inK : K.In s.heap) (hns : s.heap.Ns mainGlobals mg)
    (hb : s.heap.Ns builtinsNs mb) (hbb : ∀ x : Str, x ≠ "__name__" → mb x = bootBuiltins x) (hlim : s.heap.NoLimit) (hg : s.gens = #[]) (ha : s.heap.get? a = some { cls := .type "list", data := .seq vs.toArray }) (hi : IntsAre vs ns) (hl : ns.length ≤ sizeLine)
    (hr : Room k callerA) (F : ∀ base : Heap, K.In base → base.Ns mainGlobals mg → FnG P w K mg base k fa fd [x] sp) (hbind : ∀ (s : Shared) (u : Value), BindsTo s fd ⟨[u], []⟩ [(x, u)])
    (hsp : ∀ H : Hp, SqL K H a (ns.map V.int) → sp [.ref a] H (fun v _ => v = .bl true) fun _ _ _ => False) (hCX : ∀ H e s', L2.CX P w [] H s (fun _ _ _ => False) e s' → False) :
    codeAny (model P w) callerA (.call (.ref fa) ⟨[.ref a], []⟩) (fun r s' => r = .ok (.ret (.bool true)) ∧ OldK s.heap s'.heap ∧ s'.os = s.os ∧ AllBare s'.gens) s := by
  obtain ⟨H, only, hS, hok, one, hK⟩ := head_heap (P := P) (w := w) inK ha hi hl
  have free : ∀ {b : Addr} {o : Obj} {es : Array DictEntry} {ep : Nat}, s.heap.get? b = some o → o.data = .dict es ep → H b = none := by
    intro b o es ep e d
    by_cases q : H b = none
    · exact q
    · obtain rfl := one b q
      obtain rfl := Option.some.inj (ha.symm.trans e)
      exact (nomatch (show Data.seq vs.toArray _ = Data.dict es ep from d))
  have kept : ∀ {b : Addr} {m : Str → Option Value}, s.heap.Ns b m → (hidT s.heap H).Ns b m := by
    rintro b m ⟨o, es, ep, e, d, z⟩
    exact ⟨o, es, ep, hidT_get e (free e d), d, z⟩
  have inKb : K.In (hidT s.heap H) := by
    intro b o e
    apply hidT_get (inK b o e)
    by_cases q : H b = none
    · exact q
    · have := one b q
      subst this
      rw [hK q] at e; cases e
  have md : Mod K mg (hidT s.heap H) := by
    obtain ⟨mc, l1, l2⟩ := hlim
    exact ⟨inKb, kept hns, ⟨mb, kept hb, hbb⟩, ⟨mc, kept l1, l2⟩⟩
  have e0 : Env0 P w K mg (hidT s.heap H) callerA [] s H := by
    refine ⟨rfl, md, fun b o e => of_hidT e, Nat.le_of_eq (hidT_size _ _), trivial, ?_, hok, .of_eq hg⟩
    intro b hb
    exact (nomatch (show b ∈ ([] : List Addr) from hb))
  have run := (F _ inKb (kept hns)).go callerA [] s H ⟨[.ref a], []⟩ [.ref a] [.ref a] _ _ ⟨hr, rfl⟩ e0 (hbind s (.ref a)) (.cons rfl .nil) (hsp H hS)
  refine codeAny_mono run ?_
  intro r s' z
  match r, z with
  | .error e, z => exact (hCX H e s' z).elim
  | .ok (.ret u), z =>
    obtain ⟨v, H', os, bare, un, hok', rv, rfl⟩ := z
    obtain rfl : u = Value.bool true := rv
    refine ⟨rfl, OldK.of_keep fun b o e => ?_, os, bare⟩
    rcases only b with q | ⟨ob, xs, q⟩
    · refine un.keep b o e q ?_ ?_
      · intro z
        exact (nomatch (show b ∈ ([] : List Addr) from z))
      · simp
    · obtain ⟨e1, _⟩ := hok b _ q
      obtain ⟨e2, _⟩ := hok' b _ (un.frzs b ob _ q)
      rw [Option.some.inj (e.symm.trans e1)]
      exact e2
theorem walk_ofQ {l : PySem.W.OpenLaw} {n k : Nat} {q : Program} {loose : List Str} {XP : (Str → Option Value) → Heap → Prop} {YP : World → Heap → Prop} {d : DefRec} {x : Str} {f : Fn}
    (hn : l.most = some n) (hn2 : n ≤ sizeLine) (hdf : d.params.defaults = []) (hr : Room k callerA)
    (F : ∀ (w : World) (mg : Str → Option Value) (fa : Addr) (h : Heap), YP w h → h.Ns mainGlobals mg → mg d.name = some (.ref fa) →
      ∃ (K : PySem.W.Frag) (fd : FuncData), K.In h ∧ (∀ (s : Shared) (u : Value), BindsTo s fd ⟨[u], []⟩ [(x, u)]) ∧
        ∀ base : Heap, K.In base → base.Ns mainGlobals mg → FnG l.prog w K mg base k fa fd [x] (spF K 1 f))
    (ht : ∀ ns : List Int, ns.length ≤ n → (∀ z ∈ ns, Builtin.Int.intBits z ≤ 1048576) → ∃ o, f [.fz (.scr (ns.map .int))] = .ret (.fz (.bl true)) o) :
    PySem.W.WalkO q loose XP YP l.row.toRowW d [] (fun f vs => PySem.call f vs) := by
  refine Att.attach_callB hn hdf fun w s₀ s₁ mg mb fa o pm cd doc a vs ns G Y ho hd hcd hmg hobj hints hlen hbits hg => ?_
  obtain ⟨K, fd, KX, hb, hF⟩ := F w mg fa _ Y G.T.g hmg
  exact law_callG KX G.T.g G.T.b G.T.builtins G.T.nolimit hg hobj hints (Nat.le_trans hlen hn2) hr hF hb (fun H hS => law_sp hS (ht ns hlen hbits)) fun H e s' => cx_none
theorem walk_end {P : Program} {w : World} {K : PySem.W.Frag} {h : Heap} {mg : Str → Option Value} {k : Nat} {x y qual : Str} {params : Arguments} {body : List Stmt} {scope : Scope} {kv : List (Str × V)} {f : Fn} (KX : K.In h) (d : ∃ fd, FunD K y qual params body scope [] kv (He.ga K y) fd)
    (hb : ∀ fd, FunD K y qual params body scope [] kv (He.ga K y) fd → ∀ (s : Shared) (u : Value), BindsTo s fd ⟨[u], []⟩ [(x, u)]) (ok : ∀ base : Heap, FnK P w K mg base k 1 y [x] [] f) :
    ∃ fd : FuncData, K.In h ∧ (∀ (s : Shared) (u : Value), BindsTo s fd ⟨[u], []⟩ [(x, u)]) ∧ ∀ base : Heap, K.In base → base.Ns mainGlobals mg → FnG P w K mg base k (He.ga K y) fd [x] (spF K 1 f) := by
  obtain ⟨fd, F⟩ := d
  refine ⟨fd, KX, hb fd F, fun base _ _ => ?_⟩
  obtain ⟨fd2, ⟨oc2, od2, osl2, l2⟩, F2, _⟩ := (ok base).ex
  obtain ⟨oc, od, dV, kV, doc, pm, an, cdv, ct, osl, rfl, lk, _⟩ := F.ex
  rw [lk] at l2
  cases l2
  exact F2
end Mi

namespace Mi
open PySem PySem.Spec PyProof.Rows L2
/-! ### f(e), a list of one's own goes in and is changed -/
def of1 (ρ : Env) : FR → R Sl
  | .ret r _ => .ok r ρ
  | .exc c _ => .ex c ρ
  | .no => .no
def go1 (f : Fn) (ρ : Env) : Sl → R Sl
  | .ow xs => of1 ρ (f [.io xs])
  | .fz d => of1 ρ (f [.fz d])
  | .io _ => .no
def mCall1 (f : Fn) (m : Ex) : Ex := fun ρ => (m ρ).bind fun r ρ1 => go1 f ρ1 r
theorem back_nil (ρ : Env) (o : Env) : back ρ [] o = ρ := by
  refine List.ext_getElem? fun i => ?_
  unfold back
  rw [List.getElem?_mapIdx]
  cases e : ρ[i]? with
  | none => rfl
  | some x =>
    cases x with
    | none => rfl
    | some s => cases s <;> rfl
section
variable {K : PySem.W.Frag} {W : WX} {io : Nat → Option Addr} {P F F' : Hp} {σ : L2.St} {H H' : Hp} {ρ : Env} {Q : VK}
theorem call1_core {f : Fn} {v : V} {r : Sl} (S : St K io P F ρ σ H) (R : Rel K P F ρ σ H v r)
    (h : ToE K W io P F σ Q (go1 f ρ r)) : spF K 1 f [v] H Q (fun c d H' => W c d σ H') := by
  have R0 : PdRL K F σ [] [] := trivial
  have back2 : ∀ {F' : Hp} {o : Env} {H' : Hp}, Same F F' → St K (ioOf [v]) (rest P H ρ σ []) F' o ([v].map some) H' → St K io P F' ρ σ H' := fun {F' o H'} s S' => by
    have S2 : St K (ioOf []) (rest P H ρ σ []) F' [] (([] : List V).map some) H' := ⟨S'.fh, S'.ph, S'.pf, rfl, fun i d e => by simp at e, fun i xs o => by rcases o with o | o <;> simp at o, fun i xs a e => by simp at e, fun i j xs ys a o => by rcases o with o | o <;> simp at o⟩
    have z := S.leave R0 s S2
    rw [back_nil] at z
    exact z
  have rel2 : ∀ {F' : Hp} {o : Env} {H' : Hp} {u : V} {t : Sl}, Same F F' → St K (ioOf [v]) (rest P H ρ σ []) F' o ([v].map some) H' → Rel K (rest P H ρ σ []) F' o ([v].map some) H' u t → Rel K P F' ρ σ H' u t := fun {F' o H' u t} s S' q => by
    cases t with
    | fz d => exact q
    | io xs => exact q
    | ow xs =>
      obtain ⟨a, us, rfl, h1, h2, h3, h4, h5⟩ := q
      refine ⟨a, us, rfl, h1, h2, h3, (rest_same S []).free h4, fun i ys o e => ?_⟩
      obtain ⟨b, ws, g1, g2, _⟩ := S.ow i ys o
      rw [e] at g1
      cases g1
      rw [rest_in o e (fun k => by simp), g2] at h4
      cases h4
  have rest_pf : ∀ a o, rest P H ρ σ [] a = some o → F a = none := fun a o e => by
    unfold rest at e
    split at e
    · rename_i h
      obtain ⟨i, xs, o1, o2, _⟩ := h
      obtain ⟨b, us, h1, _, _, h4, _⟩ := S.ow i xs o1
      rw [o2] at h1
      cases h1
      exact h4
    · exact S.pf a o e
  have rest_ph : Same (rest P H ρ σ []) H := fun a o e => by
    unfold rest at e
    split at e
    · exact e
    · exact S.ph a o e
  cases r with
  | io xs => exact R.elim
  | fz d =>
    refine ⟨rfl, rest P H ρ σ [], F, [.fz d], ⟨S.fh, rest_ph, rest_pf, rfl, fun i e he => ?_, fun i xs o => ?_, fun i xs a he => ?_, fun i j xs ys a o => ?_⟩, ?_⟩
    · cases i with
      | zero => cases he; exact ⟨v, rfl, R⟩
      | succ i => simp at he
    · rcases o with o | o <;> cases i <;> simp at o
    · cases i <;> simp at he
    · rcases o with o | o <;> cases i <;> simp at o
    · have h : ToE K W io P F σ Q (of1 ρ (f [.fz d])) := h
      cases e : f [.fz d] with
      | ret r o => rw [e] at h; exact fun v H' F' s S' q => h v H' F' s (back2 s S') (rel2 s S' q)
      | exc c o => rw [e] at h; exact fun H' F' s S' => h H' F' s (back2 s S')
      | no => rw [e] at h; exact h
  | ow xs =>
    obtain ⟨a, us, rfl, h1, h2, h3, h4, h5⟩ := R
    have ra : rest P H ρ σ [] a = none := by
      unfold rest
      rw [if_neg]
      · exact h4
      · rintro ⟨i, ys, o, e, _⟩
        exact h5 i ys o e
    refine ⟨rfl, rest P H ρ σ [], F, [.io xs], ⟨S.fh, rest_ph, rest_pf, rfl, fun i e he => ?_, fun i ys o => ?_, fun i ys b he e => ?_, fun i j ys zs b o o' e e' => ?_⟩, ?_⟩
    · cases i <;> simp at he
    · cases i with
      | zero =>
        rcases o with o | o
        · cases o
        · cases o
          exact ⟨a, us, rfl, h1, h2, h3, ra⟩
      | succ i => rcases o with o | o <;> simp at o
    · cases i with
      | zero => cases e; rfl
      | succ i => simp at he
    · cases i with
      | zero =>
        cases j with
        | zero => rfl
        | succ j => rcases o' with o | o <;> simp at o
      | succ i => rcases o with o | o <;> simp at o
    · have h : ToE K W io P F σ Q (of1 ρ (f [.io xs])) := h
      cases e : f [.io xs] with
      | ret r o => rw [e] at h; exact fun v H' F' s S' q => h v H' F' s (back2 s S') (rel2 s S' q)
      | exc c o => rw [e] at h; exact fun H' F' s S' => h H' F' s (back2 s S')
      | no => rw [e] at h; exact h
end
section
variable {X : Cx} {W : WX} {io : Nat → Option Addr} {k n lev : Nat} {ps : List Str} {kws : List (Nat × List Str × List Nat)} {f : Fn} {x : Str} {p pos : Pos} {e : Expr} {m : Ex}
theorem je_call1 (tk : Takes X W) (F : FnK X.prog X.w X.K X.mg X.base k 1 x ps kws f) (hr : RoomG lev X.A) (hk : k ≤ lev) (ho : JE X W io e m)
    (hg : Gl X x := by rfl) (hdb : (x == ("__debug__" : Str)) = false := by decide) (he : starEach [e] X.env = (false, eval e X.env) :: starEach [] X.env := by rfl) (hpl : (backTo pos (starEach [] X.env)).any (·.1) = false := by rfl) :
    JE X W io (.Call (.Name x p) [e] [] pos) (mCall1 f m) := by
  obtain ⟨fd, _, F1, hb, _⟩ := F.ex
  refine ⟨pei (pe_callG tk F1 (hr.mono hk) hg F.g F.kp hb (pa_cons ho.pe pa_nil he) hdb he hpl) fun σ H Q h => ?_⟩
  obtain ⟨P, F', ρ, S, h⟩ := h
  exact tJ_bind S h fun r ρ1 v H1 F1 s1 S1 R1 h1 => call1_core S1 R1 h1
end
/-! ### x = [[..], [..]], then x[1].append(e) -/
def sNest (i : Nat) (ms ns : List Ex) (m : Ex) : Sm := fun ρ => if i < ρ.length then (runE ms ρ).toS fun ds ρ1 => if ds.length ≤ SZ then (runE ns ρ1).toS fun es ρ2 => if es.length < SZ then (m (ρ2.set i none)).toS fun r ρ3 => .nx (ρ3.set i (some (.fz (.lst [.lst ds, .lst (es ++ [r.d])])))) else .no else .no else .no
section
variable {K : PySem.W.Frag} {W : WX} {io : Nat → Option Addr} {P F F' : Hp} {σ : L2.St} {H H' : Hp} {ρ : Env} {Dn : Ends}
theorem tEs_toSP : ∀ (ms : List Ex) {f : List D → Env → SR} {Q' : List V → Hp → Prop} {P P' F : Hp} {ρ : Env} {H : Hp}, St K io P' F ρ σ H → Same P P' → ToS K W io P F Dn ((runE ms ρ).toS f) →
    (∀ ds ρ1 vs H1 F1, Same F F1 → St K io P' F1 ρ1 σ H1 → FzL K F1 ds vs → ToS K W io P F1 Dn (f ds ρ1) → Q' vs H1) → tEs K W io ms σ H Q'
  | [], f, Q', P, P', F, ρ, H, S, e, h, k => k [] ρ [] H F (Same.refl _) S rfl h
  | m :: ms, f, Q', P, P', F, ρ, H, S, e, h, k => by
    have eq : (runE (m :: ms) ρ).toS f = (m ρ).toS fun x ρ1 => (runE ms ρ1).toS fun ds ρ2 => f (x.d :: ds) ρ2 := by
      show ((m ρ).bind fun x ρ1 => (runE ms ρ1).bind fun ds ρ2 => .ok (x.d :: ds) ρ2).toS f = _
      cases m ρ with
      | no => rfl
      | ex c ρ1 => rfl
      | ok x ρ1 =>
        show ((runE ms ρ1).bind fun ds ρ2 => .ok (x.d :: ds) ρ2).toS f = (runE ms ρ1).toS fun ds ρ2 => f (x.d :: ds) ρ2
        cases runE ms ρ1 <;> rfl
    rw [eq] at h
    refine tJ_toSP S e h fun x ρ1 v H1 F1 s1 S1 R1 h1 => ?_
    obtain ⟨F1', s1', S1', q1⟩ := S1.cool R1
    exact tEs_toSP ms S1' e (h1.up s1') fun ds ρ2 vs H2 F2 s2 S2 R2 h2 => k (x.d :: ds) ρ2 (v :: vs) H2 F2 ((s1.trans s1').trans s2) S2 ⟨v, vs, rfl, q1.mono s2, R2⟩ h2
/-- a kept object may be written -/
theorem St.thaw {P2 : Hp} {D : Addr} {o o' : HO} (S : St K io P2 F ρ σ H) (hP : Same P P2) (h2 : P2 D = some o) (hd : P D = none) : St K io P F ρ σ (upd H D o') := by
  have fD : F D = none := S.pf D o h2
  refine ⟨fun b x e => ?_, fun b x e => ?_, fun b x e => S.pf b x (hP b x e), S.len, S.fz, fun i xs q => ?_, S.ia, S.ds⟩
  · rw [upd_ne (ne_of_none e fD)]; exact S.fh _ _ e
  · rw [upd_ne (ne_of_none e hd)]; exact S.ph b x (hP b x e)
  · obtain ⟨a, vs, h1, h3, h4, h5, h6⟩ := S.ow i xs q
    have ha : a ≠ D := fun e => by
      subst e
      rw [h2] at h6
      cases h6
    exact ⟨a, vs, h1, by rw [upd_ne ha]; exact h3, h4, h5, hP.free h6⟩
theorem St.hole (S : St K io P F ρ σ H) (i : Nat) (x : Option V) : St K io P F (ρ.set i none) (σ.set i x) H := by
  refine S.sub (by simp [S.len]) fun j s h => ?_
  by_cases hj : i = j
  · subst hj
    have hl : i < (ρ.set i none).length := (List.getElem?_eq_some_iff.mp h).1
    rw [List.length_set] at hl
    rw [set_self hl] at h
    cases h
  · rw [set_other hj] at h
    exact ⟨h, fun v hv => by rw [set_other hj]; exact hv⟩
def seqR (r : SR) (b : Sm) : SR := match r with
  | .nx ρ1 => b ρ1
  | r => r
theorem sSeq_eq (a b : Sm) (ρ : Env) : sSeq a b ρ = seqR (a ρ) b := by
  unfold sSeq seqR
  rfl
theorem seqR_toS {α : Type} (r : R α) (f : α → Env → SR) (b : Sm) : seqR (r.toS f) b = r.toS fun a ρ => seqR (f a ρ) b := by
  cases r <;> rfl
theorem seqR_if {c : Prop} [Decidable c] (r : SR) (b : Sm) : seqR (if c then r else .no) b = if c then seqR r b else .no := by
  split <;> rfl
theorem toS_ifp {c : Prop} [Decidable c] {r : SR} (h : ToS K W io P F Dn (if c then r else .no)) : c ∧ ToS K W io P F Dn r := by
  by_cases hc : c
  · rw [if_pos hc] at h
    exact ⟨hc, h⟩
  · rw [if_neg hc] at h
    exact h.elim
theorem upd_same' {P : Hp} {a : Addr} {o : HO} (h : P a = none) : Same P (upd P a o) := fun b x e => by
  rw [upd_ne (ne_of_none e h)]
  exact e
theorem St.nown (S : St K io P F ρ σ H) {a : Addr} {o : HO} (h : P a = some o) : ∀ i ys, Own ρ i ys → σ[i]? ≠ some (some (.ref a)) := fun i ys q e => by
  obtain ⟨b, us, h1, _, _, _, h5⟩ := S.ow i ys q
  rw [e] at h1
  cases h1
  rw [h] at h5
  cases h5
end
section
variable {X : Cx} {W : WX} {io : Nat → Option Addr} {e : Expr} {es0 es1 : List Expr} {m : Ex} {ms0 ms1 : List Ex} {rest : List Stmt} {n : Sm} {x : Str} {p0 p1 p2 p3 q0 q1 q2 q3 q4 pos1 pos2 : Pos} {j : Nat}
theorem jss_nest (i : Nat) (hN : X.N.Nodup) (ha : JEs X W io es0 ms0) (hb : JEs X W io es1 ms1) (he : JE X W io e m) (hr : JSs X W io rest n)
    (hi : X.N[i]? = some x := by rfl) (hx : Loc X.env.scope x := by first | exact Or.inl rfl | exact Or.inr rfl) (hf : X.fn x = true ∨ X.env.scope.names.lookup x = some .local := by first | exact .inl rfl | exact .inr rfl)
    (hv : Vis X.env.scope x := by first | exact Or.inl rfl | exact Or.inr (Or.inl rfl) | exact Or.inr (Or.inr rfl)) (hd : (x == ("__debug__" : Str)) = false := by decide) (hcd : (x == ("__classdict__" : Str)) = false := by decide)
    (h1 : starEach [.List es0 p1, .List es1 p2] X.env = (false, eval (.List es0 p1) X.env) :: starEach [.List es1 p2] X.env := by rfl) (h2 : starEach [.List es1 p2] X.env = (false, eval (.List es1 p2) X.env) :: starEach [] X.env := by rfl)
    (hs1 : swapsWith (.List [.List es0 p1, .List es1 p2] p3) (some (.Name x p0)) pos1.line X.env = pure false := by rfl)
    (hs2 : swapsWith (.Call (.Attribute (.Subscript (.Name x q0) (.Constant (.int 1) j q1) q2) "append" q3) [e] [] q4) none pos2.line X.env = pure false := by rfl)
    (hbase : attributeBase (.Subscript (.Name x q0) (.Constant (.int 1) j q1) q2) "append" X.env (eval (.Subscript (.Name x q0) (.Constant (.int 1) j q1) q2) X.env) = eval (.Subscript (.Name x q0) (.Constant (.int 1) j q1) q2) X.env := by rfl)
    (hfew : ((backTo q4 (starEach [e] X.env)).all (fun x => !x.1) && (backToKw q4 (keywordEach [] X.env)).all (fun x => x.1.isSome)
      && decide ([e].length + ([] : List Keyword).length + (if ([] : List Keyword).isEmpty then 0 else 1) < 30)) = true := by rfl)
    (hline : (q3.endLine == q4.line) = true := by rfl) (hst : starEach [e] X.env = (false, eval e X.env) :: starEach [] X.env := by rfl) (hplain : (backTo q4 (starEach [] X.env)).any (·.1) = false := by rfl) :
    JSs X W io (.Assign [.Name x p0] (.List [.List es0 p1, .List es1 p2] p3) pos1 :: .Expr (.Call (.Attribute (.Subscript (.Name x q0) (.Constant (.int 1) j q1) q2) "append" q3) [e] [] q4) pos2 :: rest) (sSeq (sNest i ms0 ms1 m) n) := by
  have s1 := ps_set (pos := pos1) (pos' := p0) hN hi hx (pe_lst (pos := p3) (pa_cons (pe_lst (pos := p1) ha.pa) (pa_cons (pe_lst (pos := p2) hb.pa) pa_nil h2) h1)) hs1 hf
  have s2 := ps_expr (pos := pos2) (pe_bm (apos := q3) (cpos := q4) PySem.F.plainAttrs_list PySem.F.slot_list_append PySem.F.type_list_append mt_append (pe_ix (pos := q2) ix_seq (pe_var (pos := q0) hi hv hd hcd) (pe_int (i := 1) (j := j) (pos := q1)) (fun _ _ => rfl)) (pa_cons he.pe pa_nil hst) hbase hfew hline hst hplain) hs2
  refine ⟨pssi (pss_cons s1 (pss_cons s2 hr.ps)) fun D σ H h => ?_⟩
  obtain ⟨P, F, ρ, S, h⟩ := h
  rw [sSeq_eq] at h
  unfold sNest at h
  rw [seqR_if] at h
  obtain ⟨hlen, h⟩ := toS_ifp h
  rw [seqR_toS] at h
  show tEs X.K W io ms0 σ H fun xs H1 => xs.length ≤ sizeLine ∧ ∀ a0, H1 a0 = none → (tEs X.K W io ms1 σ (upd H1 a0 (.lst xs)) fun ys H2 => ys.length ≤ sizeLine ∧ ∀ a1, H2 a1 = none → ([V.ref a0, .ref a1].length ≤ sizeLine ∧ ∀ a2, upd H2 a1 (.lst ys) a2 = none → _))
  refine tEs_toSP ms0 S (Same.refl P) h fun ds0 ρ1 vs0 H1 F1 t1 S1 R1 h1 => ?_
  rw [seqR_if] at h1
  obtain ⟨l0, h1⟩ := toS_ifp h1
  rw [seqR_toS] at h1
  refine ⟨by rw [← R1.length]; exact Nat.le_trans l0 SZ_le, fun a0 n0 => ?_⟩
  have S1' := S1.lay (o := .lst vs0) n0
  have z0 : P a0 = none := S1.ph.free n0
  refine tEs_toSP ms1 S1' (upd_same' z0) h1 fun ds1 ρ2 vs1 H2 F2 t2 S2 R2 h2 => ?_
  rw [seqR_if] at h2
  obtain ⟨l1, h2⟩ := toS_ifp h2
  rw [seqR_toS] at h2
  refine ⟨by rw [← R2.length]; exact Nat.le_trans (Nat.le_of_lt l1) SZ_le, fun a1 n1 => ⟨by rw [sizeLine_eq]; exact (by decide : (2 : Nat) ≤ 16777216), fun a2 n2 => ?_⟩⟩
  have S2' := S2.lay (o := .lst vs1) n1
  have S2'' := S2'.lay (o := .lst [.ref a0, .ref a1]) n2
  have y1 : upd P a0 (.lst vs0) a1 = none := S2.ph.free n1
  have y2 : upd (upd P a0 (.lst vs0)) a1 (.lst vs1) a2 = none := S2'.ph.free n2
  have d10 : a1 ≠ a0 := fun e => by
    rw [e, upd_same] at y1
    cases y1
  have d21 : a2 ≠ a1 := fun e => by
    rw [e, upd_same] at y2
    cases y2
  rw [upd_ne d21] at y2
  have d20 : a2 ≠ a0 := fun e => by
    rw [e, upd_same] at y2
    cases y2
  have z1 : P a1 = none := by rw [upd_ne d10] at y1; exact y1
  have z2 : P a2 = none := by rw [upd_ne d20] at y2; exact y2
  have S3 := S2''.hole i (some (.ref a2))
  have hs : Same P (upd (upd (upd P a0 (.lst vs0)) a1 (.lst vs1)) a2 (.lst [.ref a0, .ref a1])) := fun b x e => by
    rw [upd_ne (ne_of_none e z2), upd_ne (ne_of_none e z1), upd_ne (ne_of_none e z0)]
    exact e
  have hl2 : i < σ.length := by rw [← S.len]; exact hlen
  show ∃ v, (σ.set i (some (.ref a2)))[i]? = some (some v) ∧ rIx X.K v (.int 1) _ _
  refine ⟨.ref a2, set_self hl2, .inl ⟨a2, [.ref a0, .ref a1], 1, .ref a1, rfl, rfl, .inl (.inl upd_same), rfl, .inl ⟨rfl, vs1, .inl (.inl (by rw [upd_ne (Ne.symm d21), upd_same]))⟩, ?_⟩⟩
  show tJ X.K W io m (σ.set i (some (.ref a2))) _ fun v H4 => rAppend (.ref a1) [v] H4 (fun _ H5 => tS X.K W io n D (σ.set i (some (.ref a2))) H5)
  refine tJ_toSP S3 hs h2 fun r ρ3 v H4 F4 t4 S4 R4 h4 => ?_
  obtain ⟨F5, t5, S5, q5⟩ := S4.cool R4
  have k1 := S5.ph a1 (.lst vs1) (by rw [upd_ne (Ne.symm d21), upd_same])
  have k0 := S5.ph a0 (.lst vs0) (by rw [upd_ne (Ne.symm d20), upd_ne (Ne.symm d10), upd_same])
  have k2 := S5.ph a2 (.lst [.ref a0, .ref a1]) upd_same
  have f1 := S5.pf a1 (.lst vs1) (by rw [upd_ne (Ne.symm d21), upd_same])
  have f0 := S5.pf a0 (.lst vs0) (by rw [upd_ne (Ne.symm d20), upd_ne (Ne.symm d10), upd_same])
  have f2 := S5.pf a2 (.lst [.ref a0, .ref a1]) upd_same
  have o1 := S5.nown (a := a1) (o := .lst vs1) (by rw [upd_ne (Ne.symm d21), upd_same])
  have o0 := S5.nown (a := a0) (o := .lst vs0) (by rw [upd_ne (Ne.symm d20), upd_ne (Ne.symm d10), upd_same])
  have o2 := S5.nown (a := a2) (o := .lst [.ref a0, .ref a1]) upd_same
  refine ⟨a1, vs1, v, rfl, rfl, k1, by rw [← R2.length]; exact Nat.lt_of_lt_of_le l1 SZ_le, ?_⟩
  have S6 := S5.thaw (D := a1) (o := .lst vs1) (o' := .lst (vs1 ++ [v])) hs (by rw [upd_ne (Ne.symm d21), upd_same]) z1
  obtain ⟨S7, u7⟩ := S6.freeze (a := a0) (o := .lst vs0) (by rw [upd_ne (Ne.symm d10)]; exact k0) f0 z0 o0
  obtain ⟨S8, u8⟩ := S7.freeze (a := a1) (o := .lst (vs1 ++ [v])) upd_same (by rw [upd_ne d10]; exact f1) z1 o1
  obtain ⟨S9, u9⟩ := S8.freeze (a := a2) (o := .lst [.ref a0, .ref a1]) (by rw [upd_ne d21]; exact k2) (by rw [upd_ne d21, upd_ne d20]; exact f2) z2 o2
  have u79 := u7.trans (u8.trans u9)
  have S10 := S9.store (i := i) (v := .ref a2) (r := .fz (.lst [.lst ds0, .lst (ds1 ++ [r.d])])) ⟨a2, [.ref a0, .ref a1], rfl, upd_same,
    ⟨.ref a0, [.ref a1], rfl, ⟨a0, vs0, rfl, by rw [upd_ne (Ne.symm d20), upd_ne (Ne.symm d10), upd_same], R1.mono (t2.trans (t4.trans (t5.trans u79)))⟩,
    ⟨.ref a1, [], rfl, ⟨a1, vs1 ++ [v], rfl, by rw [upd_ne (Ne.symm d21), upd_same], (R2.mono (t4.trans (t5.trans u79))).append ⟨v, [], rfl, q5.mono u79, rfl⟩⟩, rfl⟩⟩⟩
  rw [List.set_set] at S10
  exact ⟨P, _, _, S10, ToS.up (t5.trans u79) (show ToS X.K W io P F4 D (n (ρ3.set i (some (.fz (.lst [.lst ds0, .lst (ds1 ++ [r.d])]))))) from h4)⟩
end
end Mi

namespace Mi
open PySem PySem.Spec PyProof.Rows L2
/-! ### reckoning with what the defs are: the environment stands written out -/
section
variable {s : Option Sl} {l ρ : Env} {a b c : Ex} {m : Ex} {o oa ob oc : Opd} {os : List Opd} {ms : List Ex} {f g : Op2} {f1 : Op1} {fN : OpN} {i j k : Nat} {x y : Sl} {d e : D} {t u : Te} {A B : Sm} {r : SR}
theorem ev_seq : sSeq A B (s :: l) = seqR (A (s :: l)) B := rfl
theorem ev_seq_nx : seqR (.nx ρ) B = B ρ := rfl
theorem ev_seq_rt : seqR (.rt x ρ) B = .rt x ρ := rfl
theorem ev_seq_ex {z : Str} : seqR (.ex z ρ) B = .ex z ρ := rfl
theorem ev_seq_bk : seqR (.bk ρ) B = .bk ρ := rfl
theorem ev_seq_ct : seqR (.ct ρ) B = .ct ρ := rfl
theorem ev_nil : sNil (s :: l) = .nx (s :: l) := rfl
theorem ev_pass : sPass (s :: l) = .nx (s :: l) := rfl
theorem ev_break : sBreak (s :: l) = .bk (s :: l) := rfl
theorem ev_cont : sCont (s :: l) = .ct (s :: l) := rfl
theorem ev_retN : sRetN (s :: l) = .rt (.fz .non) (s :: l) := rfl
theorem ev_ret : sRet m (s :: l) = (m (s :: l)).toS fun r ρ1 => .rt r ρ1 := rfl
theorem ev_drop : sDrop m (s :: l) = (m (s :: l)).toS fun _ ρ1 => .nx ρ1 := rfl
theorem ev_set : sSet i m (s :: l) = (m (s :: l)).toS fun r ρ1 => .nx (ρ1.set i (some r)) := rfl
theorem ev_raise {z : Str} : sRaise z (s :: l) = .ex z (s :: l) := rfl
theorem ev_if : sIf t A B (s :: l) = (t (s :: l)).toS fun c ρ1 => if c then A ρ1 else B ρ1 := rfl
theorem ev_par : sPar i j a b (s :: l) = (a (s :: l)).toS fun r ρ1 => (b ρ1).toS fun t ρ2 => .nx ((ρ2.set i (some r)).set j (some t)) := rfl
theorem ev_par3 : sPar3 i j k a b c (s :: l) = (a (s :: l)).toS fun r ρ1 => (b ρ1).toS fun t ρ2 => (c ρ2).toS fun u ρ3 => .nx (((ρ3.set i (some r)).set j (some t)).set k (some u)) := rfl
theorem ev_asg {tg : Tg} : sAsg tg m (s :: l) = (m (s :: l)).toS fun r ρ1 => match tg r.d ρ1 with
  | some ρ2 => .nx ρ2
  | none => .no := rfl
theorem ev_toS_ok {α : Type} {z : α} {h : α → Env → SR} : (R.ok z ρ).toS h = h z ρ := rfl
theorem ev_toS_ex {α : Type} {z : Str} {h : α → Env → SR} : (R.ex z ρ : R α).toS h = .ex z ρ := rfl
theorem ev_toS_no {α : Type} {h : α → Env → SR} : (R.no : R α).toS h = .no := rfl
theorem ev_bind_ok {α β : Type} {z : α} {h : α → Env → R β} : (R.ok z ρ).bind h = h z ρ := rfl
theorem ev_bind_ex {α β : Type} {z : Str} {h : α → Env → R β} : (R.ex z ρ : R α).bind h = .ex z ρ := rfl
theorem ev_bind_no {α β : Type} {h : α → Env → R β} : (R.no : R α).bind h = .no := rfl
theorem ev_it {α : Sort _} {p q : α} : (if (true : Bool) = true then p else q) = p := rfl
theorem ev_if_f {α : Sort _} {p q : α} : (if (false : Bool) = true then p else q) = q := rfl
theorem ev_C : mC d (s :: l) = .ok (.fz d) (s :: l) := rfl
def varR (i : Nat) (ρ : Env) : Option (Option Sl) → R Sl
  | some (some (.fz d)) => .ok (.fz d) ρ
  | some (some (.ow xs)) => .ok (.fz (.lst xs)) (ρ.set i (some (.fz (.lst xs))))
  | _ => .no
theorem ev_var : mVar i (s :: l) = varR i (s :: l) (s :: l)[i]? := rfl
theorem ev_var1 : varR i ρ (some (some (.fz d))) = .ok (.fz d) ρ := rfl
theorem ev_var2 {xs : List D} : varR i ρ (some (some (.ow xs))) = .ok (.fz (.lst xs)) (ρ.set i (some (.fz (.lst xs)))) := rfl
def movR (i : Nat) (ρ : Env) : Option (Option Sl) → R Sl
  | some (some (.fz d)) => .ok (.fz d) ρ
  | some (some (.ow xs)) => .ok (.ow xs) (ρ.set i none)
  | _ => .no
theorem ev_mov : mMove i (s :: l) = movR i (s :: l) (s :: l)[i]? := rfl
theorem ev_mov1 : movR i ρ (some (some (.fz d))) = .ok (.fz d) ρ := rfl
theorem ev_mov2 {xs : List D} : movR i ρ (some (some (.ow xs))) = .ok (.ow xs) (ρ.set i none) := rfl
def okO : Option (Option Sl) → Bool
  | some (some _) => true
  | _ => false
theorem ev_okV_e : okV (s :: l) (.e m) = true := rfl
theorem ev_okV_v : okV (s :: l) (.v i) = okO (s :: l)[i]? := rfl
theorem ev_okO : okO (some (some x)) = true := rfl
theorem ev_run_e : (Opd.e m).run (s :: l) = (m (s :: l)).bind fun x ρ1 => .ok (.d x.d) ρ1 := rfl
theorem ev_run_v : (Opd.v i).run (s :: l) = .ok (.i i) (s :: l) := rfl
def getO : Option (Option Sl) → Option D
  | some (some s) => some s.d
  | _ => none
theorem ev_get_d : (Pd.d d).get (s :: l) = some d := rfl
theorem ev_get_i : (Pd.i i).get (s :: l) = getO (s :: l)[i]? := rfl
theorem ev_getO : getO (some (some x)) = some x.d := rfl
theorem ev_d_fz : (Sl.fz d).d = d := rfl
theorem ev_d_ow {xs : List D} : (Sl.ow xs).d = .lst xs := rfl
theorem ev_d_io {xs : List D} : (Sl.io xs).d = .lst xs := rfl
theorem ev_op2 : mOp2 f oa ob (s :: l) = if okV (s :: l) oa && okV (s :: l) ob then (oa.run (s :: l)).bind fun p ρ1 => (ob.run ρ1).bind fun q ρ2 => mk (get2 f ρ2 p q) ρ2 else .no := rfl
def g2 (f : Op2) : Option D → Option D → Option Sl
  | some x, some y => f x y
  | _, _ => none
theorem ev_get2 {p q : Pd} : get2 f (s :: l) p q = g2 f (p.get (s :: l)) (q.get (s :: l)) := rfl
theorem ev_g2 : g2 f (some d) (some e) = f d e := rfl
theorem ev_op1 : mOp1 f1 oa (s :: l) = if okV (s :: l) oa then (oa.run (s :: l)).bind fun p ρ1 => mk (get1 f1 ρ1 p) ρ1 else .no := rfl
def g1 (f : Op1) : Option D → Option Sl
  | some x => f x
  | _ => none
theorem ev_get1 {p : Pd} : get1 f1 (s :: l) p = g1 f1 (p.get (s :: l)) := rfl
theorem ev_g1 : g1 f1 (some d) = f1 d := rfl
theorem ev_mk : mk (some x) ρ = .ok x ρ := rfl
theorem ev_mk0 : mk none ρ = .no := rfl
theorem ev_opN : mOpN fN os (s :: l) = if os.all (okV (s :: l)) then (runO os (s :: l)).bind fun ps ρ1 => mk (getN fN ρ1 ps) ρ1 else .no := rfl
theorem ev_all_nil {α : Type} {p : α → Bool} : ([] : List α).all p = true := rfl
theorem ev_all_cons {α : Type} {p : α → Bool} {z : α} {zs : List α} : (z :: zs).all p = (p z && zs.all p) := rfl
theorem ev_runO_nil : runO [] (s :: l) = .ok [] (s :: l) := rfl
theorem ev_runO_cons : runO (o :: os) (s :: l) = (o.run (s :: l)).bind fun p ρ1 => (runO os ρ1).bind fun ps ρ2 => .ok (p :: ps) ρ2 := rfl
def gN (f : OpN) : Option (List D) → Option Sl
  | some ds => f ds
  | none => none
theorem ev_getN {ps : List Pd} : getN fN (s :: l) ps = gN fN (getL (s :: l) ps) := rfl
theorem ev_gN {ds : List D} : gN fN (some ds) = fN ds := rfl
def gL : Option D → Option (List D) → Option (List D)
  | some d, some ds => some (d :: ds)
  | _, _ => none
theorem ev_getL_nil : getL (s :: l) [] = some [] := rfl
theorem ev_getL_cons {p : Pd} {ps : List Pd} : getL (s :: l) (p :: ps) = gL (p.get (s :: l)) (getL (s :: l) ps) := rfl
theorem ev_gL {ds : List D} : gL (some d) (some ds) = some (d :: ds) := rfl
theorem ev_runE_nil : runE [] (s :: l) = .ok [] (s :: l) := rfl
theorem ev_runE_cons : runE (m :: ms) (s :: l) = (m (s :: l)).bind fun x ρ1 => (runE ms ρ1).bind fun ds ρ2 => .ok (x.d :: ds) ρ2 := rfl
theorem ev_tup : mTup ms (s :: l) = (runE ms (s :: l)).bind fun ds ρ1 => if ds.length ≤ SZ then .ok (.fz (.tup ds)) ρ1 else .no := rfl
theorem ev_lst : mLst ms (s :: l) = (runE ms (s :: l)).bind fun ds ρ1 => if ds.length ≤ SZ then .ok (.ow ds) ρ1 else .no := rfl
theorem ev_mIf : mIf t a b (s :: l) = (t (s :: l)).bind fun c ρ1 => if c then a ρ1 else b ρ1 := rfl
def blR (k : Bool → Env → R Sl) (x : Sl) (ρ : Env) : R Sl := match x with
  | .fz (.bl c) => k c ρ
  | _ => .no
theorem ev_and : mAnd a b (s :: l) = (a (s :: l)).bind fun x ρ1 => blR (fun c ρ1 => if c then b ρ1 else .ok (okB false) ρ1) x ρ1 := by
  unfold mAnd
  congr 1
  funext x ρ1
  cases x with
  | fz d => cases d <;> first | rfl | (rename_i c; cases c <;> rfl)
  | ow xs => rfl
  | io xs => rfl
theorem ev_or : mOr a b (s :: l) = (a (s :: l)).bind fun x ρ1 => blR (fun c ρ1 => if c then .ok (okB true) ρ1 else b ρ1) x ρ1 := by
  unfold mOr
  congr 1
  funext x ρ1
  cases x with
  | fz d => cases d <;> first | rfl | (rename_i c; cases c <;> rfl)
  | ow xs => rfl
  | io xs => rfl
theorem ev_not : mNot a (s :: l) = (a (s :: l)).bind fun x ρ1 => blR (fun c ρ1 => .ok (okB !c) ρ1) x ρ1 := rfl
theorem ev_blR {h : Bool → Env → R Sl} {z : Bool} : blR h (.fz (.bl z)) ρ = h z ρ := rfl
def blT (x : Sl) (ρ : Env) : R Bool := match x with
  | .fz (.bl b) => .ok b ρ
  | _ => .no
theorem ev_toT : toT m (s :: l) = (m (s :: l)).bind fun r ρ1 => blT r ρ1 := rfl
theorem ev_blT {z : Bool} : blT (.fz (.bl z)) ρ = .ok z ρ := rfl
theorem ev_okI {z : Int} : okI z = .fz (.int z) := rfl
theorem ev_okB {z : Bool} : okB z = .fz (.bl z) := rfl
theorem ev_tru : mTru o (s :: l) = if okV (s :: l) o then (o.run (s :: l)).bind fun p ρ1 => mkT ((p.get ρ1).bind D.tru) ρ1 else .no := rfl
theorem ev_mkT {z : Bool} : mkT (some z) ρ = .ok z ρ := rfl
theorem ev_obind {α β : Type} {z : α} {h : α → Option β} : (some z).bind h = h z := rfl
theorem ev_tru_bl {z : Bool} : D.tru (.bl z) = some z := rfl
theorem ev_andT : mAndT t u (s :: l) = (t (s :: l)).bind fun c ρ1 => if c then u ρ1 else .ok false ρ1 := rfl
theorem ev_orT : mOrT t u (s :: l) = (t (s :: l)).bind fun c ρ1 => if c then .ok true ρ1 else u ρ1 := rfl
theorem ev_notT : mNotT t (s :: l) = (t (s :: l)).bind fun c ρ1 => .ok (!c) ρ1 := rfl
def chR (k : Env → R Sl) (x : Option Sl) (ρ : Env) : R Sl := match x with
  | some (.fz (.bl true)) => k ρ
  | some (.fz (.bl false)) => .ok (okB false) ρ
  | _ => .no
theorem ev_chain : mChain f g oa ob oc (s :: l) = if okV (s :: l) oa && okV (s :: l) ob && okV (s :: l) oc then (oa.run (s :: l)).bind fun p ρ1 => (ob.run ρ1).bind fun q ρ2 => chR (fun ρ2 => (oc.run ρ2).bind fun r ρ3 => mk (get2 g ρ3 q r) ρ3) (get2 f ρ2 p q) ρ2 else .no := rfl
theorem ev_chR {h : Env → R Sl} {z : Bool} : chR h (some (.fz (.bl z))) ρ = if z then h ρ else .ok (okB false) ρ := by cases z <;> rfl
/-! calls -/
theorem ev_fn {n k : Nat} {args : List Sl} : mkFn n k A args = if args.length = n then FR.of n (A (args.map some ++ List.replicate k none)) else .no := rfl
def outsL : Nat → Env → Env
  | 0, _ => []
  | n + 1, e :: l => ioE e :: outsL n l
  | n + 1, [] => none :: outsL n []
theorem outsL_eq : ∀ (n : Nat) (ρ : Env), outs n ρ = outsL n ρ := fun n => by
  have key : ∀ (n k : Nat) (ρ : Env), (List.range' k n).map (fun i => ioE (ρ[i]?).join) = outsL n (ρ.drop k) := fun n => by
    induction n with
    | zero => intro k ρ; rfl
    | succ n ih =>
      intro k ρ
      rw [List.range'_succ, List.map_cons, ih]
      cases e : ρ.drop k with
      | nil =>
        have h1 : ρ[k]? = none := by
          have := congrArg List.length e
          rw [List.length_drop, List.length_nil] at this
          exact List.getElem?_eq_none (by omega)
        have h2 : ρ.drop (k + 1) = [] := by
          have := congrArg List.length e
          rw [List.length_drop, List.length_nil] at this
          exact List.drop_eq_nil_of_le (by omega)
        rw [h1, h2]
        rfl
      | cons x l =>
        have h1 : ρ[k]? = some x := by
          have := congrArg (fun z : Env => z[0]?) e
          simpa using this
        have h2 : ρ.drop (k + 1) = l := by
          have := congrArg List.tail e
          simpa using this
        rw [h1, h2]
        rfl
  intro ρ
  have := key n 0 ρ
  rw [List.drop_zero] at this
  rw [← this, ← List.range_eq_range']
  rfl
theorem ev_of_nx {n : Nat} : FR.of n (.nx ρ) = .ret (.fz .non) (outsL n ρ) := by rw [← outsL_eq]; rfl
theorem ev_of_rt {n : Nat} : FR.of n (.rt x ρ) = .ret x (outsL n ρ) := by rw [← outsL_eq]; rfl
theorem ev_of_ex {n : Nat} {z : Str} : FR.of n (.ex z ρ) = .exc z (outsL n ρ) := by rw [← outsL_eq]; rfl
theorem ev_outs0 : outsL 0 ρ = [] := rfl
theorem ev_outs1 {n : Nat} : outsL (n + 1) (s :: l) = ioE s :: outsL n l := rfl
theorem ev_ioE_n : ioE none = none := rfl
theorem ev_ioE_f : ioE (some (.fz d)) = none := rfl
theorem ev_ioE_o {xs : List D} : ioE (some (.ow xs)) = none := rfl
theorem ev_ioE_i {xs : List D} : ioE (some (.io xs)) = some (.io xs) := rfl
def callR (f : Fn) (ρ : Env) (ps : List Pd) : Option (List Sl) → R Sl
  | some args => if apart ρ ps then ofF ρ ps (f args) else .no
  | none => .no
theorem ev_call {h : Fn} : mCall h os (s :: l) = if os.all (okV (s :: l)) then (runO os (s :: l)).bind fun ps ρ1 => callR h ρ1 ps (argsS ρ1 ps) else .no := rfl
theorem ev_callK {h : Fn} {pm : List Nat} {qs : List Opd} : mCallK h pm os qs (s :: l) = if os.all (okV (s :: l)) && qs.all (okV (s :: l)) then (runO os (s :: l)).bind fun ps ρ1 => (runO qs ρ1).bind fun rs ρ2 => callR h ρ2 (permL pm (ps ++ rs)) (argsS ρ2 (permL pm (ps ++ rs))) else .no := rfl
theorem ev_callR {h : Fn} {ps : List Pd} {args : List Sl} : callR h ρ ps (some args) = if apart ρ ps then ofF ρ ps (h args) else .no := rfl
def argC : Option Sl → Option (List Sl) → Option (List Sl)
  | some x, some xs => some (x :: xs)
  | _, _ => none
theorem ev_args_nil : argsS (s :: l) [] = some [] := rfl
theorem ev_args_cons {p : Pd} {ps : List Pd} : argsS (s :: l) (p :: ps) = argC (argS (s :: l) p) (argsS (s :: l) ps) := rfl
theorem ev_argC {xs : List Sl} : argC (some x) (some xs) = some (x :: xs) := rfl
theorem ev_arg_d : argS (s :: l) (.d d) = some (.fz d) := rfl
theorem ev_arg_i : argS (s :: l) (.i i) = argO (s :: l)[i]? := rfl
theorem ev_argO_f : argO (some (some (.fz d))) = some (.fz d) := rfl
theorem ev_argO_o {xs : List D} : argO (some (some (.ow xs))) = some (.io xs) := rfl
theorem ev_argO_i {xs : List D} : argO (some (some (.io xs))) = some (.io xs) := rfl
theorem ev_apart_nil : apart (s :: l) [] = true := rfl
theorem ev_apart_d {ps : List Pd} : apart (s :: l) (.d d :: ps) = apart (s :: l) ps := rfl
theorem ev_apart_i {ps : List Pd} : apart (s :: l) (.i i :: ps) = ((!isOwn (s :: l) i || !ps.any (Pd.at i)) && apart (s :: l) ps) := rfl
theorem ev_any_nil {α : Type} {p : α → Bool} : ([] : List α).any p = false := rfl
theorem ev_any_cons {α : Type} {p : α → Bool} {z : α} {zs : List α} : (z :: zs).any p = (p z || zs.any p) := rfl
theorem ev_at_d : Pd.at i (.d d) = false := rfl
theorem ev_at_i : Pd.at i (.i j) = (j == i) := rfl
theorem ev_ofF_ret {ps : List Pd} {w : Env} : ofF ρ ps (.ret x w) = .ok x (back ρ ps w) := rfl
theorem ev_ofF_exc {ps : List Pd} {w : Env} {z : Str} : ofF ρ ps (.exc z w) = .ex z (back ρ ps w) := rfl
def backG (n : Nat) (ps : List Pd) (w : Env) : Env → Env
  | [] => []
  | e :: l => back1 n e ps w :: backG (n + 1) ps w l
theorem back_eq {ps : List Pd} {w : Env} : back ρ ps w = backG 0 ps w ρ := by
  have key : ∀ (ρ : Env) (n : Nat), ρ.mapIdx (fun i e => back1 (n + i) e ps w) = backG n ps w ρ := fun ρ => by
    induction ρ with
    | nil => intro n; rfl
    | cons e l ih =>
      intro n
      rw [List.mapIdx_cons]
      show back1 (n + 0) e ps w :: _ = back1 n e ps w :: backG (n + 1) ps w l
      rw [← ih (n + 1)]
      congr 1
      congr 1
      funext i x
      rw [Nat.add_right_comm, Nat.add_assoc]
  have := key ρ 0
  rw [← this]
  unfold back
  congr 1
  funext i e
  rw [Nat.zero_add]
theorem ev_back0 {n : Nat} {ps : List Pd} {w : Env} : backG n ps w [] = [] := rfl
theorem ev_back1 {n : Nat} {ps : List Pd} {w : Env} : backG n ps w (s :: l) = back1 n s ps w :: backG (n + 1) ps w l := rfl
theorem ev_b1n {n : Nat} {ps : List Pd} {w : Env} : back1 n none ps w = none := rfl
theorem ev_b1f {n : Nat} {ps : List Pd} {w : Env} : back1 n (some (.fz d)) ps w = some (.fz d) := rfl
def bkO (xs : List D) : Option (Option Sl) → Option Sl
  | none => some (.ow xs)
  | some (some (.io ys)) => some (.ow ys)
  | some _ => none
def bkI (xs : List D) : Option (Option Sl) → Option Sl
  | none => some (.io xs)
  | some (some (.io ys)) => some (.io ys)
  | some _ => none
theorem ev_b1o {n : Nat} {ps : List Pd} {w : Env} {xs : List D} : back1 n (some (.ow xs)) ps w = bkO xs (look n ps w) := rfl
theorem ev_b1i {n : Nat} {ps : List Pd} {w : Env} {xs : List D} : back1 n (some (.io xs)) ps w = bkI xs (look n ps w) := rfl
theorem ev_bkO0 {xs : List D} : bkO xs none = some (.ow xs) := rfl
theorem ev_bkO1 {xs ys : List D} : bkO xs (some (some (.io ys))) = some (.ow ys) := rfl
theorem ev_bkI0 {xs : List D} : bkI xs none = some (.io xs) := rfl
theorem ev_bkI1 {xs ys : List D} : bkI xs (some (some (.io ys))) = some (.io ys) := rfl
theorem ev_look0 {n : Nat} {w : Env} : look n [] w = none := rfl
theorem ev_look_d {n : Nat} {ps : List Pd} {w : Env} : look n (.d d :: ps) w = look n ps w.tail := rfl
theorem ev_look_i {n : Nat} {ps : List Pd} {w : Env} : look n (.i j :: ps) w = if j = n then some (w.head?.join) else look n ps w.tail := rfl
theorem ev_join {α : Type} {z : Option α} : (some z).join = z := rfl
theorem ev_head {α : Type} {z : α} {zs : List α} : (z :: zs).head? = some z := rfl
theorem ev_tail {α : Type} {z : α} {zs : List α} : (z :: zs).tail = zs := rfl
theorem ev_call1 {h : Fn} : mCall1 h m (s :: l) = (m (s :: l)).bind fun r ρ1 => go1 h ρ1 r := rfl
theorem ev_go_o {h : Fn} {xs : List D} : go1 h ρ (.ow xs) = of1 ρ (h [.io xs]) := rfl
theorem ev_go_f {h : Fn} : go1 h ρ (.fz d) = of1 ρ (h [.fz d]) := rfl
theorem ev_of1_r {w : Env} : of1 ρ (.ret x w) = .ok x ρ := rfl
theorem ev_of1_e {w : Env} {z : Str} : of1 ρ (.exc z w) = .ex z ρ := rfl
end
end Mi

namespace Mi
open PySem PySem.Spec PyProof.Rows L2
/-! ### reckoning with data -/
theorem BIG_ge' : 2 ^ 600 ≤ BIG := BIG_ge (by decide)
theorem DVB_ge' : 2 ^ 600 ≤ DVB := DVB_ge (by decide)
theorem LIM_BIG {n : Nat} (h : n ≤ 1000000000000000000000000000000000000000000000000000000000000000000000000000000000000000000000000000000000000000000000000000000000000000000000000000000) : n < BIG := Nat.lt_of_lt_of_le (Nat.lt_of_le_of_lt h (show (1000000000000000000000000000000000000000000000000000000000000000000000000000000000000000000000000000000000000000000000000000000000000000000000000000000 : Nat) < 2 ^ 600 by decide)) BIG_ge'
theorem LIM_DVB {n : Nat} (h : n ≤ 1000000000000000000000000000000000000000000000000000000000000000000000000000000000000000000000000000000000000000000000000000000000000000000000000000000) : n < DVB := Nat.lt_of_lt_of_le (Nat.lt_of_le_of_lt h (show (1000000000000000000000000000000000000000000000000000000000000000000000000000000000000000000000000000000000000000000000000000000000000000000000000000000 : Nat) < 2 ^ 600 by decide)) DVB_ge'
section
variable {s : Option Sl} {l ρ : Env} {a b c m mi : Ex} {i j : Int} {xs ys : List D} {d e : D} {x y : Sl} {r : SR} {n k : Nat} {u v : Str}
theorem op_add_i : addD (.int i) (.int j) = some (.fz (.int (i + j))) := rfl
theorem op_sub_i : subD (.int i) (.int j) = some (.fz (.int (i - j))) := rfl
theorem op_iadd_i : iaddD (.int i) (.int j) = some (.fz (.int (i + j))) := rfl
theorem op_mul_i (h1 : i.natAbs ≤ 1000000000000000000000000000000000000000000000000000000000000000000000000000000000000000000000000000000000000000000000000000000000000000000000000000000) (h2 : j.natAbs ≤ 1000000000000000000000000000000000000000000000000000000000000000000000000000000000000000000000000000000000000000000000000000000000000000000000000000000) : mulD (.int i) (.int j) = some (.fz (.int (i * j))) := if_pos ⟨LIM_BIG h1, LIM_BIG h2⟩
theorem op_fdiv_i (h1 : 0 < j) (h2 : j.natAbs ≤ 1000000000000000000000000000000000000000000000000000000000000000000000000000000000000000000000000000000000000000000000000000000000000000000000000000000) : fdivD (.int i) (.int j) = some (.fz (.int (i / j))) := if_pos ⟨h1, LIM_DVB h2⟩
theorem op_mod_i (h1 : 0 < j) : modD (.int i) (.int j) = some (.fz (.int (i % j))) := if_pos h1
theorem op_pow8_i (h1 : i.natAbs ≤ 1000000000000000000000000000000000000000000000000000000000000000000000000000000000000000000000000000000000000000000000000000000000000000000000000000000) (h2 : 0 ≤ j) (h3 : j ≤ 8) : powD (.int i) (.int j) = some (.fz (.int (i ^ j.toNat))) := if_pos ⟨h2, .inl ⟨LIM_BIG h1, h3⟩⟩
theorem op_powL_i (h1 : i.natAbs < 65536) (h2 : 0 ≤ j) (h3 : j ≤ 100000) : powD (.int i) (.int j) = some (.fz (.int (i ^ j.toNat))) := if_pos ⟨h2, .inr ⟨h1, h3⟩⟩
theorem op_lt_i : ltD (.int i) (.int j) = some (.fz (.bl (decide (i < j)))) := rfl
theorem op_le_i : leD (.int i) (.int j) = some (.fz (.bl (decide (i ≤ j)))) := rfl
theorem op_gt_i : gtD (.int i) (.int j) = some (.fz (.bl (decide (j < i)))) := rfl
theorem op_ge_i : geD (.int i) (.int j) = some (.fz (.bl (decide (j ≤ i)))) := rfl
theorem op_neg_i : negD (.int i) = some (.fz (.int (-i))) := rfl
theorem op_eq_i : eqD (.int i) (.int j) = some (.fz (.bl (decide (i = j)))) := rfl
theorem op_ne_i : neD (.int i) (.int j) = some (.fz (.bl (!decide (i = j)))) := rfl
theorem op_eq_s (h1 : D.sh (.str u) = true) (h2 : D.sh (.str v) = true) : eqD (.str u) (.str v) = some (.fz (.bl (u == v))) := by
  unfold eqD
  rw [h1, h2]
  rfl
theorem op_ne_s (h1 : D.sh (.str u) = true) (h2 : D.sh (.str v) = true) : neD (.str u) (.str v) = some (.fz (.bl (!(u == v)))) := by
  unfold neD
  rw [h1, h2]
  rfl
theorem op_is_n : isD .non .non = some (.fz (.bl true)) := rfl
theorem op_len_l : lenD [.lst xs] = some (.fz (.int xs.length)) := rfl
theorem op_len_t : lenD [.tup xs] = some (.fz (.int xs.length)) := rfl
theorem op_len_s : lenD [.scr xs] = some (.fz (.int xs.length)) := rfl
theorem op_abs_i : absD [.int i] = some (.fz (.int (if i < 0 then -i else i))) := rfl
theorem op_max_i : max2D [.int i, .int j] = some (.fz (.int (if j > i then j else i))) := rfl
theorem op_min_i : min2D [.int i, .int j] = some (.fz (.int (if j < i then j else i))) := rfl
theorem op_int_i : intD [.int i] = some (.fz (.int i)) := rfl
theorem op_int_b {z : Bool} : intD [.bl z] = some (.fz (.int (if z then 1 else 0))) := rfl
theorem op_divmod_i (h1 : 0 < j) (h2 : j.natAbs ≤ 1000000000000000000000000000000000000000000000000000000000000000000000000000000000000000000000000000000000000000000000000000000000000000000000000000000) : divmodD [.int i, .int j] = some (.fz (.tup [.int (i / j), .int (i % j)])) := if_pos ⟨h1, LIM_DVB h2⟩
theorem op_tup_l : tupleD [.lst xs] = some (.fz (.tup xs)) := rfl
theorem op_tup_t : tupleD [.tup xs] = some (.fz (.tup xs)) := rfl
theorem op_list_l : listD [.lst xs] = some (.ow xs) := rfl
theorem op_list_t : listD [.tup xs] = some (.ow xs) := rfl
theorem op_rev_l : revD (.lst xs) = some (.ow xs.reverse) := rfl
theorem op_rev_t : revD (.tup xs) = some (.fz (.tup xs.reverse)) := rfl
theorem op_add_l (h : xs.length + ys.length ≤ SZ) : addD (.lst xs) (.lst ys) = some (.ow (xs ++ ys)) := if_pos h
def ownO : Option (Option Sl) → Option (Sl × List D)
  | some (some s) => s.own.map fun xs => (s, xs)
  | _ => none
theorem op_own_o : ownO (some (some (.ow xs))) = some (.ow xs, xs) := rfl
theorem op_own_i : ownO (some (some (.io xs))) = some (.io xs, xs) := rfl
def stN (ρ : Env) (i : Nat) (s : Sl) (xs : List D) (r : D) : Option Nat → SR
  | some n => .nx (ρ.set i (some (s.as (xs.set n r))))
  | none => .no
def setR (ρ : Env) (i : Nat) (r : D) : Option (Sl × List D) → D → SR
  | some (s, xs), .int j => stN ρ i s xs r (ixN xs.length j)
  | _, _ => .no
theorem op_setix {p : Nat} : sSetIx p mi m (s :: l) = (m (s :: l)).toS fun r ρ1 => if (ownO ρ1[p]?).isSome then (mi ρ1).toS fun k ρ2 => setR ρ2 p r.d (ownO ρ2[p]?) k.d else .no := rfl
theorem op_setR {p : Nat} : setR ρ p d (some (x, xs)) (.int j) = stN ρ p x xs d (ixN xs.length j) := rfl
theorem op_stN {p : Nat} : stN ρ p x xs d (some n) = .nx (ρ.set p (some (x.as (xs.set n d)))) := rfl
theorem op_as_o : (Sl.ow xs).as ys = .ow ys := rfl
theorem op_as_i : (Sl.io xs).as ys = .io ys := rfl
theorem op_isS {α : Type} {z : α} : (some z).isSome = true := rfl
def mutS (i : Nat) (ρ : Env) (s : Sl) : Option (D × List D) → R Sl
  | some (y, ys) => .ok (.fz y) (ρ.set i (some (s.as ys)))
  | none => .no
def mutR (f : List D → List D → Option (D × List D)) (i : Nat) (ρ : Env) (ds : List D) : Option (Sl × List D) → R Sl
  | some (s, xs) => mutS i ρ s (f xs ds)
  | none => .no
theorem op_mut {p : Nat} {f : List D → List D → Option (D × List D)} {es : List Ex} : mMut p f es (s :: l) = if (ownO (s :: l)[p]?).isSome then (runE es (s :: l)).bind fun ds ρ1 => mutR f p ρ1 ds (ownO ρ1[p]?) else .no := by
  unfold mMut
  congr 1
theorem op_mutR {p : Nat} {f : List D → List D → Option (D × List D)} : mutR f p ρ ys (some (x, xs)) = mutS p ρ x (f xs ys) := rfl
theorem op_mutS {p : Nat} : mutS p ρ x (some (d, ys)) = .ok (.fz d) (ρ.set p (some (x.as ys))) := rfl
theorem op_append (h : xs.length < SZ) : fAppend xs [d] = some (.non, xs ++ [d]) := if_pos h
theorem ix_l_nn (h0 : 0 ≤ j) (h1 : j < xs.length) : ixD (.lst xs) (.int j) = (xs[j.toNat]?).map .fz := by
  show ((ixN xs.length j).bind fun n => xs[n]?).map Sl.fz = _
  unfold ixN
  rw [if_pos h0, if_pos h1]
  rfl
theorem ix_s_nn (h0 : 0 ≤ j) (h1 : j < xs.length) : ixD (.scr xs) (.int j) = (xs[j.toNat]?).map .fz := by
  show ((ixN xs.length j).bind fun n => xs[n]?).map Sl.fz = _
  unfold ixN
  rw [if_pos h0, if_pos h1]
  rfl
theorem op_asg_seq {n : Nat} {g : Tgs} (h : xs.length = n) : gSeq n g (.tup xs) ρ = g xs ρ := if_pos h
theorem op_asg_seql {n : Nat} {g : Tgs} (h : xs.length = n) : gSeq n g (.lst xs) ρ = g xs ρ := if_pos h
theorem op_asg_cons {g : Tg} {r : Tgs} : gsCons g r (d :: xs) ρ = (g d ρ).bind fun ρ1 => r xs ρ1 := rfl
theorem op_asg_nil : gsNil [] ρ = some ρ := rfl
theorem op_asg_nm {p : Nat} : gNm p d ρ = some (ρ.set p (some (.fz d))) := rfl
def asgR : Option Env → SR
  | some ρ => .nx ρ
  | none => .no
theorem op_asg {g : Tg} : sAsg g m (s :: l) = (m (s :: l)).toS fun r ρ1 => asgR (g r.d ρ1) := by
  unfold sAsg
  congr 1
theorem op_asgR : asgR (some ρ) = .nx ρ := rfl
theorem ixN_1_0 : ixN 1 0 = some 0 := rfl
theorem ixN_1_m1 : ixN 1 (-1) = some 0 := rfl
theorem ixN_2_0 : ixN 2 0 = some 0 := rfl
theorem ixN_2_1 : ixN 2 1 = some 1 := rfl
theorem ixN_2_m1 : ixN 2 (-1) = some 1 := rfl
theorem ixN_3_0 : ixN 3 0 = some 0 := rfl
theorem ixN_3_1 : ixN 3 1 = some 1 := rfl
theorem ixN_3_2 : ixN 3 2 = some 2 := rfl
theorem ixN_3_m1 : ixN 3 (-1) = some 2 := rfl
theorem ixN_4_0 : ixN 4 0 = some 0 := rfl
theorem ixN_4_1 : ixN 4 1 = some 1 := rfl
theorem ixN_4_2 : ixN 4 2 = some 2 := rfl
theorem ixN_4_3 : ixN 4 3 = some 3 := rfl
theorem ixN_4_m1 : ixN 4 (-1) = some 3 := rfl
theorem ixN_5_0 : ixN 5 0 = some 0 := rfl
theorem ixN_5_1 : ixN 5 1 = some 1 := rfl
theorem ixN_5_2 : ixN 5 2 = some 2 := rfl
theorem ixN_5_3 : ixN 5 3 = some 3 := rfl
theorem ixN_5_4 : ixN 5 4 = some 4 := rfl
theorem ixN_5_m1 : ixN 5 (-1) = some 4 := rfl
theorem ixN_6_0 : ixN 6 0 = some 0 := rfl
theorem ixN_6_1 : ixN 6 1 = some 1 := rfl
theorem ixN_6_2 : ixN 6 2 = some 2 := rfl
theorem ixN_6_3 : ixN 6 3 = some 3 := rfl
theorem ixN_6_4 : ixN 6 4 = some 4 := rfl
theorem ixN_6_5 : ixN 6 5 = some 5 := rfl
theorem ixN_6_m1 : ixN 6 (-1) = some 5 := rfl
theorem ixN_7_0 : ixN 7 0 = some 0 := rfl
theorem ixN_7_1 : ixN 7 1 = some 1 := rfl
theorem ixN_7_2 : ixN 7 2 = some 2 := rfl
theorem ixN_7_3 : ixN 7 3 = some 3 := rfl
theorem ixN_7_4 : ixN 7 4 = some 4 := rfl
theorem ixN_7_5 : ixN 7 5 = some 5 := rfl
theorem ixN_7_6 : ixN 7 6 = some 6 := rfl
theorem ixN_7_m1 : ixN 7 (-1) = some 6 := rfl
theorem ixN_8_0 : ixN 8 0 = some 0 := rfl
theorem ixN_8_1 : ixN 8 1 = some 1 := rfl
theorem ixN_8_2 : ixN 8 2 = some 2 := rfl
theorem ixN_8_3 : ixN 8 3 = some 3 := rfl
theorem ixN_8_4 : ixN 8 4 = some 4 := rfl
theorem ixN_8_5 : ixN 8 5 = some 5 := rfl
theorem ixN_8_6 : ixN 8 6 = some 6 := rfl
theorem ixN_8_7 : ixN 8 7 = some 7 := rfl
theorem ixN_8_m1 : ixN 8 (-1) = some 7 := rfl
theorem ixN_9_0 : ixN 9 0 = some 0 := rfl
theorem ixN_9_1 : ixN 9 1 = some 1 := rfl
theorem ixN_9_2 : ixN 9 2 = some 2 := rfl
theorem ixN_9_3 : ixN 9 3 = some 3 := rfl
theorem ixN_9_4 : ixN 9 4 = some 4 := rfl
theorem ixN_9_5 : ixN 9 5 = some 5 := rfl
theorem ixN_9_6 : ixN 9 6 = some 6 := rfl
theorem ixN_9_7 : ixN 9 7 = some 7 := rfl
theorem ixN_9_8 : ixN 9 8 = some 8 := rfl
theorem ixN_9_m1 : ixN 9 (-1) = some 8 := rfl
theorem ixN_10_0 : ixN 10 0 = some 0 := rfl
theorem ixN_10_1 : ixN 10 1 = some 1 := rfl
theorem ixN_10_2 : ixN 10 2 = some 2 := rfl
theorem ixN_10_3 : ixN 10 3 = some 3 := rfl
theorem ixN_10_4 : ixN 10 4 = some 4 := rfl
theorem ixN_10_5 : ixN 10 5 = some 5 := rfl
theorem ixN_10_6 : ixN 10 6 = some 6 := rfl
theorem ixN_10_7 : ixN 10 7 = some 7 := rfl
theorem ixN_10_8 : ixN 10 8 = some 8 := rfl
theorem ixN_10_9 : ixN 10 9 = some 9 := rfl
theorem ixN_10_m1 : ixN 10 (-1) = some 9 := rfl
theorem ixN_11_0 : ixN 11 0 = some 0 := rfl
theorem ixN_11_1 : ixN 11 1 = some 1 := rfl
theorem ixN_11_2 : ixN 11 2 = some 2 := rfl
theorem ixN_11_3 : ixN 11 3 = some 3 := rfl
theorem ixN_11_4 : ixN 11 4 = some 4 := rfl
theorem ixN_11_5 : ixN 11 5 = some 5 := rfl
theorem ixN_11_6 : ixN 11 6 = some 6 := rfl
theorem ixN_11_7 : ixN 11 7 = some 7 := rfl
theorem ixN_11_8 : ixN 11 8 = some 8 := rfl
theorem ixN_11_9 : ixN 11 9 = some 9 := rfl
theorem ixN_11_10 : ixN 11 10 = some 10 := rfl
theorem ixN_11_m1 : ixN 11 (-1) = some 10 := rfl
theorem ixN_12_0 : ixN 12 0 = some 0 := rfl
theorem ixN_12_1 : ixN 12 1 = some 1 := rfl
theorem ixN_12_2 : ixN 12 2 = some 2 := rfl
theorem ixN_12_3 : ixN 12 3 = some 3 := rfl
theorem ixN_12_4 : ixN 12 4 = some 4 := rfl
theorem ixN_12_5 : ixN 12 5 = some 5 := rfl
theorem ixN_12_6 : ixN 12 6 = some 6 := rfl
theorem ixN_12_7 : ixN 12 7 = some 7 := rfl
theorem ixN_12_8 : ixN 12 8 = some 8 := rfl
theorem ixN_12_9 : ixN 12 9 = some 9 := rfl
theorem ixN_12_10 : ixN 12 10 = some 10 := rfl
theorem ixN_12_11 : ixN 12 11 = some 11 := rfl
theorem ixN_12_m1 : ixN 12 (-1) = some 11 := rfl
theorem ixN_13_0 : ixN 13 0 = some 0 := rfl
theorem ixN_13_1 : ixN 13 1 = some 1 := rfl
theorem ixN_13_2 : ixN 13 2 = some 2 := rfl
theorem ixN_13_3 : ixN 13 3 = some 3 := rfl
theorem ixN_13_4 : ixN 13 4 = some 4 := rfl
theorem ixN_13_5 : ixN 13 5 = some 5 := rfl
theorem ixN_13_6 : ixN 13 6 = some 6 := rfl
theorem ixN_13_7 : ixN 13 7 = some 7 := rfl
theorem ixN_13_8 : ixN 13 8 = some 8 := rfl
theorem ixN_13_9 : ixN 13 9 = some 9 := rfl
theorem ixN_13_10 : ixN 13 10 = some 10 := rfl
theorem ixN_13_11 : ixN 13 11 = some 11 := rfl
theorem ixN_13_12 : ixN 13 12 = some 12 := rfl
theorem ixN_13_m1 : ixN 13 (-1) = some 12 := rfl
theorem ixN_14_0 : ixN 14 0 = some 0 := rfl
theorem ixN_14_1 : ixN 14 1 = some 1 := rfl
theorem ixN_14_2 : ixN 14 2 = some 2 := rfl
theorem ixN_14_3 : ixN 14 3 = some 3 := rfl
theorem ixN_14_4 : ixN 14 4 = some 4 := rfl
theorem ixN_14_5 : ixN 14 5 = some 5 := rfl
theorem ixN_14_6 : ixN 14 6 = some 6 := rfl
theorem ixN_14_7 : ixN 14 7 = some 7 := rfl
theorem ixN_14_8 : ixN 14 8 = some 8 := rfl
theorem ixN_14_9 : ixN 14 9 = some 9 := rfl
theorem ixN_14_10 : ixN 14 10 = some 10 := rfl
theorem ixN_14_11 : ixN 14 11 = some 11 := rfl
theorem ixN_14_12 : ixN 14 12 = some 12 := rfl
theorem ixN_14_13 : ixN 14 13 = some 13 := rfl
theorem ixN_14_m1 : ixN 14 (-1) = some 13 := rfl
theorem ixN_15_0 : ixN 15 0 = some 0 := rfl
theorem ixN_15_1 : ixN 15 1 = some 1 := rfl
theorem ixN_15_2 : ixN 15 2 = some 2 := rfl
theorem ixN_15_3 : ixN 15 3 = some 3 := rfl
theorem ixN_15_4 : ixN 15 4 = some 4 := rfl
theorem ixN_15_5 : ixN 15 5 = some 5 := rfl
theorem ixN_15_6 : ixN 15 6 = some 6 := rfl
theorem ixN_15_7 : ixN 15 7 = some 7 := rfl
theorem ixN_15_8 : ixN 15 8 = some 8 := rfl
theorem ixN_15_9 : ixN 15 9 = some 9 := rfl
theorem ixN_15_10 : ixN 15 10 = some 10 := rfl
theorem ixN_15_11 : ixN 15 11 = some 11 := rfl
theorem ixN_15_12 : ixN 15 12 = some 12 := rfl
theorem ixN_15_13 : ixN 15 13 = some 13 := rfl
theorem ixN_15_14 : ixN 15 14 = some 14 := rfl
theorem ixN_15_m1 : ixN 15 (-1) = some 14 := rfl
theorem ix_l0 {x0 : D} : ixD (.lst (x0 :: xs)) (.int 0) = some (.fz x0) := by
  show ((ixN (x0 :: xs).length 0).bind fun n => (x0 :: xs)[n]?).map Sl.fz = _
  have e : ixN (x0 :: xs).length 0 = some 0 := by
    unfold ixN
    rw [if_pos (by decide), if_pos (by simp only [List.length_cons]; omega)]
    rfl
  rw [e]
  rfl
theorem ix_t0 {x0 : D} : ixD (.tup (x0 :: xs)) (.int 0) = some (.fz x0) := by
  show ((ixN (x0 :: xs).length 0).bind fun n => (x0 :: xs)[n]?).map Sl.fz = _
  have e : ixN (x0 :: xs).length 0 = some 0 := by
    unfold ixN
    rw [if_pos (by decide), if_pos (by simp only [List.length_cons]; omega)]
    rfl
  rw [e]
  rfl
theorem ix_l1 {x0 x1 : D} : ixD (.lst (x0 :: x1 :: xs)) (.int 1) = some (.fz x1) := by
  show ((ixN (x0 :: x1 :: xs).length 1).bind fun n => (x0 :: x1 :: xs)[n]?).map Sl.fz = _
  have e : ixN (x0 :: x1 :: xs).length 1 = some 1 := by
    unfold ixN
    rw [if_pos (by decide), if_pos (by simp only [List.length_cons]; omega)]
    rfl
  rw [e]
  rfl
theorem ix_t1 {x0 x1 : D} : ixD (.tup (x0 :: x1 :: xs)) (.int 1) = some (.fz x1) := by
  show ((ixN (x0 :: x1 :: xs).length 1).bind fun n => (x0 :: x1 :: xs)[n]?).map Sl.fz = _
  have e : ixN (x0 :: x1 :: xs).length 1 = some 1 := by
    unfold ixN
    rw [if_pos (by decide), if_pos (by simp only [List.length_cons]; omega)]
    rfl
  rw [e]
  rfl
theorem ix_l2 {x0 x1 x2 : D} : ixD (.lst (x0 :: x1 :: x2 :: xs)) (.int 2) = some (.fz x2) := by
  show ((ixN (x0 :: x1 :: x2 :: xs).length 2).bind fun n => (x0 :: x1 :: x2 :: xs)[n]?).map Sl.fz = _
  have e : ixN (x0 :: x1 :: x2 :: xs).length 2 = some 2 := by
    unfold ixN
    rw [if_pos (by decide), if_pos (by simp only [List.length_cons]; omega)]
    rfl
  rw [e]
  rfl
theorem ix_t2 {x0 x1 x2 : D} : ixD (.tup (x0 :: x1 :: x2 :: xs)) (.int 2) = some (.fz x2) := by
  show ((ixN (x0 :: x1 :: x2 :: xs).length 2).bind fun n => (x0 :: x1 :: x2 :: xs)[n]?).map Sl.fz = _
  have e : ixN (x0 :: x1 :: x2 :: xs).length 2 = some 2 := by
    unfold ixN
    rw [if_pos (by decide), if_pos (by simp only [List.length_cons]; omega)]
    rfl
  rw [e]
  rfl
theorem ix_l3 {x0 x1 x2 x3 : D} : ixD (.lst (x0 :: x1 :: x2 :: x3 :: xs)) (.int 3) = some (.fz x3) := by
  show ((ixN (x0 :: x1 :: x2 :: x3 :: xs).length 3).bind fun n => (x0 :: x1 :: x2 :: x3 :: xs)[n]?).map Sl.fz = _
  have e : ixN (x0 :: x1 :: x2 :: x3 :: xs).length 3 = some 3 := by
    unfold ixN
    rw [if_pos (by decide), if_pos (by simp only [List.length_cons]; omega)]
    rfl
  rw [e]
  rfl
theorem ix_t3 {x0 x1 x2 x3 : D} : ixD (.tup (x0 :: x1 :: x2 :: x3 :: xs)) (.int 3) = some (.fz x3) := by
  show ((ixN (x0 :: x1 :: x2 :: x3 :: xs).length 3).bind fun n => (x0 :: x1 :: x2 :: x3 :: xs)[n]?).map Sl.fz = _
  have e : ixN (x0 :: x1 :: x2 :: x3 :: xs).length 3 = some 3 := by
    unfold ixN
    rw [if_pos (by decide), if_pos (by simp only [List.length_cons]; omega)]
    rfl
  rw [e]
  rfl
theorem ix_l4 {x0 x1 x2 x3 x4 : D} : ixD (.lst (x0 :: x1 :: x2 :: x3 :: x4 :: xs)) (.int 4) = some (.fz x4) := by
  show ((ixN (x0 :: x1 :: x2 :: x3 :: x4 :: xs).length 4).bind fun n => (x0 :: x1 :: x2 :: x3 :: x4 :: xs)[n]?).map Sl.fz = _
  have e : ixN (x0 :: x1 :: x2 :: x3 :: x4 :: xs).length 4 = some 4 := by
    unfold ixN
    rw [if_pos (by decide), if_pos (by simp only [List.length_cons]; omega)]
    rfl
  rw [e]
  rfl
theorem ix_t4 {x0 x1 x2 x3 x4 : D} : ixD (.tup (x0 :: x1 :: x2 :: x3 :: x4 :: xs)) (.int 4) = some (.fz x4) := by
  show ((ixN (x0 :: x1 :: x2 :: x3 :: x4 :: xs).length 4).bind fun n => (x0 :: x1 :: x2 :: x3 :: x4 :: xs)[n]?).map Sl.fz = _
  have e : ixN (x0 :: x1 :: x2 :: x3 :: x4 :: xs).length 4 = some 4 := by
    unfold ixN
    rw [if_pos (by decide), if_pos (by simp only [List.length_cons]; omega)]
    rfl
  rw [e]
  rfl
theorem ix_l5 {x0 x1 x2 x3 x4 x5 : D} : ixD (.lst (x0 :: x1 :: x2 :: x3 :: x4 :: x5 :: xs)) (.int 5) = some (.fz x5) := by
  show ((ixN (x0 :: x1 :: x2 :: x3 :: x4 :: x5 :: xs).length 5).bind fun n => (x0 :: x1 :: x2 :: x3 :: x4 :: x5 :: xs)[n]?).map Sl.fz = _
  have e : ixN (x0 :: x1 :: x2 :: x3 :: x4 :: x5 :: xs).length 5 = some 5 := by
    unfold ixN
    rw [if_pos (by decide), if_pos (by simp only [List.length_cons]; omega)]
    rfl
  rw [e]
  rfl
theorem ix_t5 {x0 x1 x2 x3 x4 x5 : D} : ixD (.tup (x0 :: x1 :: x2 :: x3 :: x4 :: x5 :: xs)) (.int 5) = some (.fz x5) := by
  show ((ixN (x0 :: x1 :: x2 :: x3 :: x4 :: x5 :: xs).length 5).bind fun n => (x0 :: x1 :: x2 :: x3 :: x4 :: x5 :: xs)[n]?).map Sl.fz = _
  have e : ixN (x0 :: x1 :: x2 :: x3 :: x4 :: x5 :: xs).length 5 = some 5 := by
    unfold ixN
    rw [if_pos (by decide), if_pos (by simp only [List.length_cons]; omega)]
    rfl
  rw [e]
  rfl
theorem ix_l6 {x0 x1 x2 x3 x4 x5 x6 : D} : ixD (.lst (x0 :: x1 :: x2 :: x3 :: x4 :: x5 :: x6 :: xs)) (.int 6) = some (.fz x6) := by
  show ((ixN (x0 :: x1 :: x2 :: x3 :: x4 :: x5 :: x6 :: xs).length 6).bind fun n => (x0 :: x1 :: x2 :: x3 :: x4 :: x5 :: x6 :: xs)[n]?).map Sl.fz = _
  have e : ixN (x0 :: x1 :: x2 :: x3 :: x4 :: x5 :: x6 :: xs).length 6 = some 6 := by
    unfold ixN
    rw [if_pos (by decide), if_pos (by simp only [List.length_cons]; omega)]
    rfl
  rw [e]
  rfl
theorem ix_t6 {x0 x1 x2 x3 x4 x5 x6 : D} : ixD (.tup (x0 :: x1 :: x2 :: x3 :: x4 :: x5 :: x6 :: xs)) (.int 6) = some (.fz x6) := by
  show ((ixN (x0 :: x1 :: x2 :: x3 :: x4 :: x5 :: x6 :: xs).length 6).bind fun n => (x0 :: x1 :: x2 :: x3 :: x4 :: x5 :: x6 :: xs)[n]?).map Sl.fz = _
  have e : ixN (x0 :: x1 :: x2 :: x3 :: x4 :: x5 :: x6 :: xs).length 6 = some 6 := by
    unfold ixN
    rw [if_pos (by decide), if_pos (by simp only [List.length_cons]; omega)]
    rfl
  rw [e]
  rfl
theorem ix_l7 {x0 x1 x2 x3 x4 x5 x6 x7 : D} : ixD (.lst (x0 :: x1 :: x2 :: x3 :: x4 :: x5 :: x6 :: x7 :: xs)) (.int 7) = some (.fz x7) := by
  show ((ixN (x0 :: x1 :: x2 :: x3 :: x4 :: x5 :: x6 :: x7 :: xs).length 7).bind fun n => (x0 :: x1 :: x2 :: x3 :: x4 :: x5 :: x6 :: x7 :: xs)[n]?).map Sl.fz = _
  have e : ixN (x0 :: x1 :: x2 :: x3 :: x4 :: x5 :: x6 :: x7 :: xs).length 7 = some 7 := by
    unfold ixN
    rw [if_pos (by decide), if_pos (by simp only [List.length_cons]; omega)]
    rfl
  rw [e]
  rfl
theorem ix_t7 {x0 x1 x2 x3 x4 x5 x6 x7 : D} : ixD (.tup (x0 :: x1 :: x2 :: x3 :: x4 :: x5 :: x6 :: x7 :: xs)) (.int 7) = some (.fz x7) := by
  show ((ixN (x0 :: x1 :: x2 :: x3 :: x4 :: x5 :: x6 :: x7 :: xs).length 7).bind fun n => (x0 :: x1 :: x2 :: x3 :: x4 :: x5 :: x6 :: x7 :: xs)[n]?).map Sl.fz = _
  have e : ixN (x0 :: x1 :: x2 :: x3 :: x4 :: x5 :: x6 :: x7 :: xs).length 7 = some 7 := by
    unfold ixN
    rw [if_pos (by decide), if_pos (by simp only [List.length_cons]; omega)]
    rfl
  rw [e]
  rfl
theorem ix_l8 {x0 x1 x2 x3 x4 x5 x6 x7 x8 : D} : ixD (.lst (x0 :: x1 :: x2 :: x3 :: x4 :: x5 :: x6 :: x7 :: x8 :: xs)) (.int 8) = some (.fz x8) := by
  show ((ixN (x0 :: x1 :: x2 :: x3 :: x4 :: x5 :: x6 :: x7 :: x8 :: xs).length 8).bind fun n => (x0 :: x1 :: x2 :: x3 :: x4 :: x5 :: x6 :: x7 :: x8 :: xs)[n]?).map Sl.fz = _
  have e : ixN (x0 :: x1 :: x2 :: x3 :: x4 :: x5 :: x6 :: x7 :: x8 :: xs).length 8 = some 8 := by
    unfold ixN
    rw [if_pos (by decide), if_pos (by simp only [List.length_cons]; omega)]
    rfl
  rw [e]
  rfl
theorem ix_t8 {x0 x1 x2 x3 x4 x5 x6 x7 x8 : D} : ixD (.tup (x0 :: x1 :: x2 :: x3 :: x4 :: x5 :: x6 :: x7 :: x8 :: xs)) (.int 8) = some (.fz x8) := by
  show ((ixN (x0 :: x1 :: x2 :: x3 :: x4 :: x5 :: x6 :: x7 :: x8 :: xs).length 8).bind fun n => (x0 :: x1 :: x2 :: x3 :: x4 :: x5 :: x6 :: x7 :: x8 :: xs)[n]?).map Sl.fz = _
  have e : ixN (x0 :: x1 :: x2 :: x3 :: x4 :: x5 :: x6 :: x7 :: x8 :: xs).length 8 = some 8 := by
    unfold ixN
    rw [if_pos (by decide), if_pos (by simp only [List.length_cons]; omega)]
    rfl
  rw [e]
  rfl
theorem ix_l9 {x0 x1 x2 x3 x4 x5 x6 x7 x8 x9 : D} : ixD (.lst (x0 :: x1 :: x2 :: x3 :: x4 :: x5 :: x6 :: x7 :: x8 :: x9 :: xs)) (.int 9) = some (.fz x9) := by
  show ((ixN (x0 :: x1 :: x2 :: x3 :: x4 :: x5 :: x6 :: x7 :: x8 :: x9 :: xs).length 9).bind fun n => (x0 :: x1 :: x2 :: x3 :: x4 :: x5 :: x6 :: x7 :: x8 :: x9 :: xs)[n]?).map Sl.fz = _
  have e : ixN (x0 :: x1 :: x2 :: x3 :: x4 :: x5 :: x6 :: x7 :: x8 :: x9 :: xs).length 9 = some 9 := by
    unfold ixN
    rw [if_pos (by decide), if_pos (by simp only [List.length_cons]; omega)]
    rfl
  rw [e]
  rfl
theorem ix_t9 {x0 x1 x2 x3 x4 x5 x6 x7 x8 x9 : D} : ixD (.tup (x0 :: x1 :: x2 :: x3 :: x4 :: x5 :: x6 :: x7 :: x8 :: x9 :: xs)) (.int 9) = some (.fz x9) := by
  show ((ixN (x0 :: x1 :: x2 :: x3 :: x4 :: x5 :: x6 :: x7 :: x8 :: x9 :: xs).length 9).bind fun n => (x0 :: x1 :: x2 :: x3 :: x4 :: x5 :: x6 :: x7 :: x8 :: x9 :: xs)[n]?).map Sl.fz = _
  have e : ixN (x0 :: x1 :: x2 :: x3 :: x4 :: x5 :: x6 :: x7 :: x8 :: x9 :: xs).length 9 = some 9 := by
    unfold ixN
    rw [if_pos (by decide), if_pos (by simp only [List.length_cons]; omega)]
    rfl
  rw [e]
  rfl
theorem ix_l10 {x0 x1 x2 x3 x4 x5 x6 x7 x8 x9 x10 : D} : ixD (.lst (x0 :: x1 :: x2 :: x3 :: x4 :: x5 :: x6 :: x7 :: x8 :: x9 :: x10 :: xs)) (.int 10) = some (.fz x10) := by
  show ((ixN (x0 :: x1 :: x2 :: x3 :: x4 :: x5 :: x6 :: x7 :: x8 :: x9 :: x10 :: xs).length 10).bind fun n => (x0 :: x1 :: x2 :: x3 :: x4 :: x5 :: x6 :: x7 :: x8 :: x9 :: x10 :: xs)[n]?).map Sl.fz = _
  have e : ixN (x0 :: x1 :: x2 :: x3 :: x4 :: x5 :: x6 :: x7 :: x8 :: x9 :: x10 :: xs).length 10 = some 10 := by
    unfold ixN
    rw [if_pos (by decide), if_pos (by simp only [List.length_cons]; omega)]
    rfl
  rw [e]
  rfl
theorem ix_t10 {x0 x1 x2 x3 x4 x5 x6 x7 x8 x9 x10 : D} : ixD (.tup (x0 :: x1 :: x2 :: x3 :: x4 :: x5 :: x6 :: x7 :: x8 :: x9 :: x10 :: xs)) (.int 10) = some (.fz x10) := by
  show ((ixN (x0 :: x1 :: x2 :: x3 :: x4 :: x5 :: x6 :: x7 :: x8 :: x9 :: x10 :: xs).length 10).bind fun n => (x0 :: x1 :: x2 :: x3 :: x4 :: x5 :: x6 :: x7 :: x8 :: x9 :: x10 :: xs)[n]?).map Sl.fz = _
  have e : ixN (x0 :: x1 :: x2 :: x3 :: x4 :: x5 :: x6 :: x7 :: x8 :: x9 :: x10 :: xs).length 10 = some 10 := by
    unfold ixN
    rw [if_pos (by decide), if_pos (by simp only [List.length_cons]; omega)]
    rfl
  rw [e]
  rfl
theorem ix_l11 {x0 x1 x2 x3 x4 x5 x6 x7 x8 x9 x10 x11 : D} : ixD (.lst (x0 :: x1 :: x2 :: x3 :: x4 :: x5 :: x6 :: x7 :: x8 :: x9 :: x10 :: x11 :: xs)) (.int 11) = some (.fz x11) := by
  show ((ixN (x0 :: x1 :: x2 :: x3 :: x4 :: x5 :: x6 :: x7 :: x8 :: x9 :: x10 :: x11 :: xs).length 11).bind fun n => (x0 :: x1 :: x2 :: x3 :: x4 :: x5 :: x6 :: x7 :: x8 :: x9 :: x10 :: x11 :: xs)[n]?).map Sl.fz = _
  have e : ixN (x0 :: x1 :: x2 :: x3 :: x4 :: x5 :: x6 :: x7 :: x8 :: x9 :: x10 :: x11 :: xs).length 11 = some 11 := by
    unfold ixN
    rw [if_pos (by decide), if_pos (by simp only [List.length_cons]; omega)]
    rfl
  rw [e]
  rfl
theorem ix_t11 {x0 x1 x2 x3 x4 x5 x6 x7 x8 x9 x10 x11 : D} : ixD (.tup (x0 :: x1 :: x2 :: x3 :: x4 :: x5 :: x6 :: x7 :: x8 :: x9 :: x10 :: x11 :: xs)) (.int 11) = some (.fz x11) := by
  show ((ixN (x0 :: x1 :: x2 :: x3 :: x4 :: x5 :: x6 :: x7 :: x8 :: x9 :: x10 :: x11 :: xs).length 11).bind fun n => (x0 :: x1 :: x2 :: x3 :: x4 :: x5 :: x6 :: x7 :: x8 :: x9 :: x10 :: x11 :: xs)[n]?).map Sl.fz = _
  have e : ixN (x0 :: x1 :: x2 :: x3 :: x4 :: x5 :: x6 :: x7 :: x8 :: x9 :: x10 :: x11 :: xs).length 11 = some 11 := by
    unfold ixN
    rw [if_pos (by decide), if_pos (by simp only [List.length_cons]; omega)]
    rfl
  rw [e]
  rfl
theorem ix_l12 {x0 x1 x2 x3 x4 x5 x6 x7 x8 x9 x10 x11 x12 : D} : ixD (.lst (x0 :: x1 :: x2 :: x3 :: x4 :: x5 :: x6 :: x7 :: x8 :: x9 :: x10 :: x11 :: x12 :: xs)) (.int 12) = some (.fz x12) := by
  show ((ixN (x0 :: x1 :: x2 :: x3 :: x4 :: x5 :: x6 :: x7 :: x8 :: x9 :: x10 :: x11 :: x12 :: xs).length 12).bind fun n => (x0 :: x1 :: x2 :: x3 :: x4 :: x5 :: x6 :: x7 :: x8 :: x9 :: x10 :: x11 :: x12 :: xs)[n]?).map Sl.fz = _
  have e : ixN (x0 :: x1 :: x2 :: x3 :: x4 :: x5 :: x6 :: x7 :: x8 :: x9 :: x10 :: x11 :: x12 :: xs).length 12 = some 12 := by
    unfold ixN
    rw [if_pos (by decide), if_pos (by simp only [List.length_cons]; omega)]
    rfl
  rw [e]
  rfl
theorem ix_t12 {x0 x1 x2 x3 x4 x5 x6 x7 x8 x9 x10 x11 x12 : D} : ixD (.tup (x0 :: x1 :: x2 :: x3 :: x4 :: x5 :: x6 :: x7 :: x8 :: x9 :: x10 :: x11 :: x12 :: xs)) (.int 12) = some (.fz x12) := by
  show ((ixN (x0 :: x1 :: x2 :: x3 :: x4 :: x5 :: x6 :: x7 :: x8 :: x9 :: x10 :: x11 :: x12 :: xs).length 12).bind fun n => (x0 :: x1 :: x2 :: x3 :: x4 :: x5 :: x6 :: x7 :: x8 :: x9 :: x10 :: x11 :: x12 :: xs)[n]?).map Sl.fz = _
  have e : ixN (x0 :: x1 :: x2 :: x3 :: x4 :: x5 :: x6 :: x7 :: x8 :: x9 :: x10 :: x11 :: x12 :: xs).length 12 = some 12 := by
    unfold ixN
    rw [if_pos (by decide), if_pos (by simp only [List.length_cons]; omega)]
    rfl
  rw [e]
  rfl
theorem ix_l13 {x0 x1 x2 x3 x4 x5 x6 x7 x8 x9 x10 x11 x12 x13 : D} : ixD (.lst (x0 :: x1 :: x2 :: x3 :: x4 :: x5 :: x6 :: x7 :: x8 :: x9 :: x10 :: x11 :: x12 :: x13 :: xs)) (.int 13) = some (.fz x13) := by
  show ((ixN (x0 :: x1 :: x2 :: x3 :: x4 :: x5 :: x6 :: x7 :: x8 :: x9 :: x10 :: x11 :: x12 :: x13 :: xs).length 13).bind fun n => (x0 :: x1 :: x2 :: x3 :: x4 :: x5 :: x6 :: x7 :: x8 :: x9 :: x10 :: x11 :: x12 :: x13 :: xs)[n]?).map Sl.fz = _
  have e : ixN (x0 :: x1 :: x2 :: x3 :: x4 :: x5 :: x6 :: x7 :: x8 :: x9 :: x10 :: x11 :: x12 :: x13 :: xs).length 13 = some 13 := by
    unfold ixN
    rw [if_pos (by decide), if_pos (by simp only [List.length_cons]; omega)]
    rfl
  rw [e]
  rfl
theorem ix_t13 {x0 x1 x2 x3 x4 x5 x6 x7 x8 x9 x10 x11 x12 x13 : D} : ixD (.tup (x0 :: x1 :: x2 :: x3 :: x4 :: x5 :: x6 :: x7 :: x8 :: x9 :: x10 :: x11 :: x12 :: x13 :: xs)) (.int 13) = some (.fz x13) := by
  show ((ixN (x0 :: x1 :: x2 :: x3 :: x4 :: x5 :: x6 :: x7 :: x8 :: x9 :: x10 :: x11 :: x12 :: x13 :: xs).length 13).bind fun n => (x0 :: x1 :: x2 :: x3 :: x4 :: x5 :: x6 :: x7 :: x8 :: x9 :: x10 :: x11 :: x12 :: x13 :: xs)[n]?).map Sl.fz = _
  have e : ixN (x0 :: x1 :: x2 :: x3 :: x4 :: x5 :: x6 :: x7 :: x8 :: x9 :: x10 :: x11 :: x12 :: x13 :: xs).length 13 = some 13 := by
    unfold ixN
    rw [if_pos (by decide), if_pos (by simp only [List.length_cons]; omega)]
    rfl
  rw [e]
  rfl
end
end Mi

namespace Mi
open PySem PySem.Spec PyProof.Rows L2
/-! ### reckoning with loops, comprehensions, try -/
section
variable {s : Option Sl} {l ρ : Env} {a b c m : Ex} {t : Te} {A B : Sm} {g : Tg} {mi : Mi'} {d : D} {ds xs : List D} {x : Sl} {r : SR} {k : Env → SR} {ws : List Nat} {i : Nat}
theorem ev_for : sFor mi g B (s :: l) = (mi (s :: l)).toS fun ds ρ1 => loopF g B ds ρ1 := rfl
theorem ev_iSeq : iSeq m (s :: l) = (m (s :: l)).bind fun r ρ1 => mkI r.d.iter ρ1 := rfl
theorem ev_mkI : mkI (some ds) ρ = .ok ds ρ := rfl
theorem ev_iter_l : D.iter (.lst ds) = some ds := rfl
theorem ev_iter_t : D.iter (.tup ds) = some ds := rfl
theorem ev_iter_s : D.iter (.scr ds) = some ds := rfl
theorem ev_turn_nx : turned (.nx ρ) k = k ρ := rfl
theorem ev_turn_ct : turned (.ct ρ) k = k ρ := rfl
theorem ev_turn_bk : turned (.bk ρ) k = .nx ρ := rfl
theorem ev_turn_rt : turned (.rt x ρ) k = .rt x ρ := rfl
theorem ev_turn_ex {z : Str} : turned (.ex z ρ) k = .ex z ρ := rfl
theorem ev_loop0 : loopF g B [] ρ = .nx ρ := rfl
def forR (B : Sm) (k : Env → SR) : Option Env → SR
  | some ρ => turned (B ρ) k
  | none => .no
theorem loop_cons : loopF g B (d :: ds) ρ = forR B (loopF g B ds) (g d ρ) := by
  show (match g d ρ with
    | some ρ1 => turned (B ρ1) (loopF g B ds)
    | none => .no) = _
  cases g d ρ <;> rfl
theorem ev_forR : forR B k (some ρ) = turned (B ρ) k := rfl
theorem ev_range1 : iRange1 m (s :: l) = (runE [m] (s :: l)).bind fun ds ρ1 => mkI (range1D ds) ρ1 := rfl
theorem ev_range2 : iRange2 a b (s :: l) = (runE [a, b] (s :: l)).bind fun ds ρ1 => mkI (range2D ds) ρ1 := rfl
theorem ev_range1D {n : Int} (h0 : -1000000000 ≤ n) (h : n ≤ 1000000000) : range1D [.int n] = some (rangeL 0 n.toNat) := by
  show (if -RB ≤ n ∧ n ≤ RB then some (rangeL 0 n.toNat) else none) = _
  unfold RB
  exact if_pos ⟨h0, h⟩
theorem ev_enum {ms : List Ex} : iEnumE ms (s :: l) = (runE ms (s :: l)).bind fun ds ρ1 => mkI (enumI ds) ρ1 := rfl
theorem ev_enumI : enumI [.lst ds] = some (enumD ds) := rfl
theorem ev_zip {ms : List Ex} : iZipE ms (s :: l) = (runE ms (s :: l)).bind fun ds ρ1 => mkI (zipI ds) ρ1 := rfl
def wipeG (ws : List Nat) : Nat → Env → Env
  | _, [] => []
  | n, e :: l => (if ws.contains n then none else e) :: wipeG ws (n + 1) l
theorem wipe_eq : wipeE ρ ws = wipeG ws 0 ρ := by
  have key : ∀ (ρ : Env) (n : Nat), ρ.mapIdx (fun i e => if ws.contains (n + i) then none else e) = wipeG ws n ρ := fun ρ => by
    induction ρ with
    | nil => intro n; rfl
    | cons e l ih =>
      intro n
      rw [List.mapIdx_cons]
      show (if ws.contains (n + 0) then none else e) :: _ = _ :: wipeG ws (n + 1) l
      rw [← ih (n + 1), Nat.add_zero]
      congr 1
      congr 1
      funext i x
      rw [Nat.add_right_comm, Nat.add_assoc]
  have := key ρ 0
  rw [← this]
  unfold wipeE
  congr 1
  funext i e
  rw [Nat.zero_add]
theorem ev_wipe0 {n : Nat} : wipeG ws n [] = [] := rfl
theorem ev_wipe1 {n : Nat} : wipeG ws n (s :: l) = (if ws.contains n then none else s) :: wipeG ws (n + 1) l := rfl
def unO (e : Option Sl) : Option (Option Sl) → Option Sl
  | some (some (.fz d)) => some (.fz d)
  | _ => none
def unG (ws : List Nat) (ρ1 : Env) : Nat → Env → Env
  | _, [] => []
  | n, e :: l => (if ws.contains n then unO e ρ1[n]? else e) :: unG ws ρ1 (n + 1) l
theorem unwipe_eq {ρ1 : Env} : unwipe ws ρ1 ρ = unG ws ρ1 0 ρ := by
  have key : ∀ (ρ : Env) (n : Nat), ρ.mapIdx (fun i e => if ws.contains (n + i) then unO e ρ1[n + i]? else e) = unG ws ρ1 n ρ := fun ρ => by
    induction ρ with
    | nil => intro n; rfl
    | cons e l ih =>
      intro n
      rw [List.mapIdx_cons]
      show (if ws.contains (n + 0) then unO e ρ1[n + 0]? else e) :: _ = _ :: unG ws ρ1 (n + 1) l
      rw [← ih (n + 1), Nat.add_zero]
      congr 1
      congr 1
      funext i x
      rw [Nat.add_right_comm, Nat.add_assoc]
  have := key ρ 0
  rw [← this]
  unfold unwipe
  congr 1
  funext i e
  rw [Nat.zero_add]
  rfl
theorem ev_un0 {n : Nat} {ρ1 : Env} : unG ws ρ1 n [] = [] := rfl
theorem ev_un1 {n : Nat} {ρ1 : Env} : unG ws ρ1 n (s :: l) = (if ws.contains n then unO s ρ1[n]? else s) :: unG ws ρ1 (n + 1) l := rfl
theorem ev_unO_f {e : Option Sl} : unO e (some (some (.fz d))) = some (.fz d) := rfl
theorem ev_unO_n {e : Option Sl} : unO e (some none) = none := rfl
theorem ev_comp {te : Ex} : mComp mi g t te ws (s :: l) = (mi (s :: l)).bind fun ds ρ1 => (loopC (turnC g t te ws) ds (wipeE ρ1 ws) []).bind fun acc ρ2 => .ok (.ow acc) (unwipe ws ρ1 ρ2) := rfl
theorem ev_lc0 {f : D → Env → R (Option D)} : loopC f [] ρ xs = .ok xs ρ := rfl
def lcR (k : Env → List D → R (List D)) (acc : List D) : R (Option D) → R (List D)
  | .ok (some x) ρ => if acc.length < SZ then k ρ (acc ++ [x]) else .no
  | .ok none ρ => k ρ acc
  | _ => .no
theorem lc_cons {f : D → Env → R (Option D)} : loopC f (d :: ds) ρ xs = lcR (loopC f ds) xs (f d ρ) := by
  show (match f d ρ with
    | .ok (some x) ρ1 => if xs.length < SZ then loopC f ds ρ1 (xs ++ [x]) else .no
    | .ok none ρ1 => loopC f ds ρ1 xs
    | _ => .no) = _
  cases f d ρ with
  | ok o ρ1 => cases o <;> rfl
  | ex c ρ1 => rfl
  | no => rfl
theorem ev_lcR1 {k : Env → List D → R (List D)} (h : xs.length < SZ) : lcR k xs (.ok (some d) ρ) = k ρ (xs ++ [d]) := if_pos h
theorem ev_lcR0 {k : Env → List D → R (List D)} : lcR k xs (.ok none ρ) = k ρ xs := rfl
def tcR (t : Te) (te : Ex) (ws : List Nat) : Option Env → R (Option D)
  | none => .no
  | some ρ1 => (t ρ1).bind fun b ρ2 => if b then (te ρ2).bind fun r ρ3 => .ok (some r.d) (wipeE ρ3 ws) else .ok none (wipeE ρ2 ws)
theorem ev_turnC {te : Ex} : turnC g t te ws d (s :: l) = tcR t te ws (g d (s :: l)) := by
  unfold turnC tcR
  cases g d (s :: l) <;> rfl
theorem ev_tcR {te : Ex} : tcR t te ws (some ρ) = (t ρ).bind fun b ρ2 => if b then (te ρ2).bind fun r ρ3 => .ok (some r.d) (wipeE ρ3 ws) else .ok none (wipeE ρ2 ws) := rfl
theorem ev_yes : tYesE (s :: l) = .ok true (s :: l) := rfl
def tryR (i : Nat) (su : Sm) (c : Str) (ρ : Env) : Option Bool → SR
  | some true => goneR i (su (ρ.set i (some (.fz (.exo c)))))
  | some false => .ex c ρ
  | none => .no
def tryS (tab : List (Str × Bool)) (i : Nat) (su : Sm) : SR → SR
  | .ex c ρ => tryR i su c ρ (tab.lookup c)
  | r => r
theorem ev_tryAs {tab : List (Str × Bool)} : sTryAs tab i A B (s :: l) = tryS tab i B (A (s :: l)) := by
  unfold sTryAs
  cases A (s :: l) <;> rfl
theorem ev_tryS_ex {tab : List (Str × Bool)} {z : Str} : tryS tab i B (.ex z ρ) = tryR i B z ρ (tab.lookup z) := rfl
theorem ev_tryS_nx {tab : List (Str × Bool)} : tryS tab i B (.nx ρ) = .nx ρ := rfl
theorem ev_tryS_rt {tab : List (Str × Bool)} : tryS tab i B (.rt x ρ) = .rt x ρ := rfl
theorem ev_tryR {z : Str} : tryR i B z ρ (some true) = goneR i (B (ρ.set i (some (.fz (.exo z))))) := rfl
theorem ev_gone_nx : goneR i (.nx ρ) = .nx (ρ.set i none) := rfl
theorem ev_gone_rt : goneR i (.rt x ρ) = .rt x ρ := rfl
theorem ev_nest {ms ns : List Ex} : sNest i ms ns m (s :: l) = if i < (s :: l).length then (runE ms (s :: l)).toS fun ds ρ1 => if ds.length ≤ SZ then (runE ns ρ1).toS fun es ρ2 => if es.length < SZ then (m (ρ2.set i none)).toS fun r ρ3 => .nx (ρ3.set i (some (.fz (.lst [.lst ds, .lst (es ++ [r.d])])))) else .no else .no else .no := rfl
theorem ev_isE {tab : List (Str × Bool)} {z : Str} : isE tab (.exo z) = (tab.lookup z).map okB := rfl
end
end Mi

namespace Mi
open PySem PySem.Spec PyProof.Rows L2
/-! ### what may be compared -/
def Flt (k : Nat) (d : D) : Prop := d.py.canLay0 = true ∧ d.py.depth ≤ k
theorem pyL_flt {k : Nat} : ∀ {xs : List D}, (∀ x ∈ xs, Flt k x) → PyData.canLayAll0 (pyL xs) = true ∧ PyData.depthAll (pyL xs) ≤ k
  | [], _ => ⟨rfl, Nat.zero_le _⟩
  | x :: xs, h => by
    obtain ⟨h1, h2⟩ := h x (List.mem_cons_self ..)
    obtain ⟨h3, h4⟩ := pyL_flt fun y hy => h y (List.mem_cons_of_mem _ hy)
    refine ⟨?_, ?_⟩
    · show (PyData.canLay0 x.py && PyData.canLayAll0 (pyL xs)) = true
      rw [h1, h3]
      rfl
    · show max (PyData.depth x.py) (PyData.depthAll (pyL xs)) ≤ k
      omega
theorem flt_lst {k : Nat} {xs : List D} (h : ∀ x ∈ xs, Flt k x) : Flt (k + 1) (.lst xs) := ⟨(pyL_flt h).1, Nat.succ_le_succ (pyL_flt h).2⟩
theorem flt_tup {k : Nat} {xs : List D} (h : ∀ x ∈ xs, Flt k x) : Flt (k + 1) (.tup xs) := ⟨(pyL_flt h).1, Nat.succ_le_succ (pyL_flt h).2⟩
theorem flt_int {k : Nat} {i : Int} : Flt k (.int i) := ⟨rfl, Nat.zero_le _⟩
theorem flt_str {k : Nat} {z : Str} (h : PySem.PyData.strOk z = true) : Flt k (.str z) := ⟨h, Nat.zero_le _⟩
theorem sh_flt {k : Nat} {d : D} (h : Flt k d) (hk : k ≤ 64) : D.sh d = true := by
  show (d.py.canLay0 && decide (d.py.depth ≤ 64)) = true
  rw [h.1, decide_eq_true (Nat.le_trans h.2 hk)]
  rfl
/-- L and R -/
def sideS (q : Bool) : Str := if q then "L" else "R"
def runD (r : Bool × Int) : D := .tup [.str (sideS r.1), .int r.2]
theorem flt_run (r : Bool × Int) : Flt 1 (runD r) := flt_tup fun x hx => by
  simp only [List.mem_cons, List.not_mem_nil, or_false] at hx
  rcases hx with rfl | rfl
  · refine flt_str ?_
    cases r.1 <;> decide +kernel
  · exact flt_int
theorem flt_runs (l : List (Bool × Int)) : Flt 2 (.lst (l.map runD)) := flt_lst fun x hx => by
  obtain ⟨r, _, rfl⟩ := List.mem_map.mp hx
  exact flt_run r
theorem sh_runs (l : List (Bool × Int)) : D.sh (.lst (l.map runD)) = true := sh_flt (flt_runs l) (by decide)
theorem sh_side (q : Bool) : D.sh (.str (sideS q)) = true := by cases q <;> decide +kernel
theorem side_eq (p q : Bool) : (sideS p == sideS q) = (p == q) := by cases p <;> cases q <;> decide +kernel
theorem ne_nil (l : List (Bool × Int)) : neD (.lst (l.map runD)) (.lst []) = some (.fz (.bl !l.isEmpty)) := by
  unfold neD
  rw [sh_runs, show D.sh (.lst []) = true by decide +kernel]
  cases l <;> rfl
theorem ix_last {xs : List D} {d : D} : ixD (.lst (xs ++ [d])) (.int (-1)) = some (.fz d) := by
  show ((ixN (xs ++ [d]).length (-1)).bind fun n => (xs ++ [d])[n]?).map Sl.fz = _
  have e : ixN (xs ++ [d]).length (-1) = some xs.length := by
    unfold ixN
    rw [if_neg (by decide), if_pos (by rw [List.length_append]; simp; omega)]
    congr 1
    rw [List.length_append, List.length_cons, List.length_nil]
    omega
  rw [e]
  simp
theorem ixN_last {xs : List D} {d : D} : ixN (xs ++ [d]).length (-1) = some xs.length := by
  unfold ixN
  rw [if_neg (by decide), if_pos (by rw [List.length_append]; simp; omega)]
  congr 1
  rw [List.length_append, List.length_cons, List.length_nil]
  omega
theorem set_last {xs : List D} {d e : D} : (xs ++ [d]).set xs.length e = xs ++ [e] := by
  induction xs with
  | nil => rfl
  | cons x xs ih => simp [ih]
end Mi

namespace Mi
open PySem PySem.Spec PyProof.Rows L2
/-! ### reckoning with slices, zip, isinstance, in -/
section
variable {s : Option Sl} {l ρ : Env} {o : Opd} {lo hi : Part} {d : D} {ds es : List D} {i : Int}
theorem ev_sl : mSl o lo hi (s :: l) = if okV (s :: l) o then (o.run (s :: l)).bind fun p ρ1 => (lo.run ρ1).bind fun l ρ2 => (hi.run ρ2).bind fun h ρ3 => mk (get1 (sliceD l h) ρ3 p) ρ3 else .no := rfl
def partR (ρ : Env) : Option D → R (Option Int)
  | some (.int i) => .ok (some i) ρ
  | _ => .no
theorem ev_part0 : Part.run ρ .no = .ok none ρ := rfl
theorem ev_part1 : Part.run (s :: l) (.e o) = if okV (s :: l) o then (o.run (s :: l)).bind fun p ρ1 => partR ρ1 (p.get ρ1) else .no := by
  unfold Part.run
  congr 1
theorem ev_partR : partR ρ (some (.int i)) = .ok (some i) ρ := rfl
theorem ev_sl_t {a b : Option Int} : sliceD a b (.tup ds) = some (.fz (.tup (cutG ds a b))) := rfl
theorem ev_sl_l {a b : Option Int} : sliceD a b (.lst ds) = some (.ow (cutG ds a b)) := rfl
theorem cut1 {α : Type} : ∀ (ds : List α), cutG ds (some 1) none = ds.drop 1
  | [] => rfl
  | x :: ds => by
    have e : HT.sIx (x :: ds).length 0 (some 1) = 1 := by
      show (if (1 : Int) < 0 then ((1 : Int) + ((x :: ds).length : Int)).toNat else min (1 : Int).toNat (x :: ds).length) = 1
      rw [if_neg (by decide)]
      show min 1 (ds.length + 1) = 1
      omega
    unfold cutG
    rw [e]
    apply List.take_of_length_le
    rw [List.length_drop]
    exact Nat.le_refl _
theorem ev_cast0 : ((0 : Nat) : Int) = 0 := rfl
theorem ev_cast1 : ((1 : Nat) : Int) = 1 := rfl
theorem ev_cast2 : ((2 : Nat) : Int) = 2 := rfl
theorem ev_cast3 : ((3 : Nat) : Int) = 3 := rfl
theorem ev_cast4 : ((4 : Nat) : Int) = 4 := rfl
theorem ev_cast5 : ((5 : Nat) : Int) = 5 := rfl
theorem ev_cast6 : ((6 : Nat) : Int) = 6 := rfl
theorem ev_cast7 : ((7 : Nat) : Int) = 7 := rfl
theorem ev_cast8 : ((8 : Nat) : Int) = 8 := rfl
theorem ev_cast9 : ((9 : Nat) : Int) = 9 := rfl
theorem ev_cast10 : ((10 : Nat) : Int) = 10 := rfl
theorem ev_cast11 : ((11 : Nat) : Int) = 11 := rfl
theorem ev_cast12 : ((12 : Nat) : Int) = 12 := rfl
theorem ev_cast13 : ((13 : Nat) : Int) = 13 := rfl
theorem ev_cast14 : ((14 : Nat) : Int) = 14 := rfl
theorem ev_cast15 : ((15 : Nat) : Int) = 15 := rfl
theorem ev_cast16 : ((16 : Nat) : Int) = 16 := rfl
theorem ev_cast17 : ((17 : Nat) : Int) = 17 := rfl
theorem ev_cast18 : ((18 : Nat) : Int) = 18 := rfl
theorem ev_cast19 : ((19 : Nat) : Int) = 19 := rfl
theorem ev_cast20 : ((20 : Nat) : Int) = 20 := rfl
theorem ev_add_t (h : ds.length + es.length ≤ SZ) : addD (.tup ds) (.tup es) = some (.fz (.tup (ds ++ es))) := if_pos h
theorem ev_isi_tt : isiD "tuple" (.tup ds) = some (.fz (.bl true)) := by kernel_rfl
theorem ev_isi_ti : isiD "tuple" (.int i) = some (.fz (.bl false)) := by kernel_rfl
theorem ev_is_t : isD (.tup ds) .non = some (.fz (.bl false)) := rfl
theorem ev_isnot_t : isNotD (.tup ds) .non = some (.fz (.bl true)) := rfl
theorem ev_isnot_n : isNotD .non .non = some (.fz (.bl false)) := rfl
theorem ev_zip_tt : zipI [.tup ds, .tup es] = some (zipD ds es) := rfl
theorem ev_zip_ll : zipI [.lst ds, .lst es] = some (zipD ds es) := rfl
end
end Mi

namespace Mi
open PySem PySem.Spec PyProof.Rows L2

/-! ### dict displays and d[k] -/
def valD (kvs : List (Key × D)) (k : Key) : Option D := (kvs.find? fun kv => decide (kv.1 = k)).map (·.2)
def dgetD : Op2
  | .dic kvs, .int i => (valD kvs (.inl i)).map .fz
  | .dic kvs, .str s => (valD kvs (.inr s)).map .fz
  | _, _ => none
theorem FzK.val {K : PySem.W.Frag} {F : Hp} {k : Key} {d : D} : ∀ {kvs : List (Key × D)} {ws : List (Key × V)}, FzK K F kvs ws → valD kvs k = some d → ∃ v, valV ws k = some v ∧ Fz K F d v
  | [], _, _, h => by cases h
  | (q, x) :: r, ws, ⟨v, w2, e, hx, hr⟩, h => by
    subst e
    by_cases hk : q = k
    · have : valD ((q, x) :: r) k = some x := by simp [valD, List.find?_cons, hk]
      rw [this] at h
      cases h
      exact ⟨v, valV_pos hk, hx⟩
    · have : valD ((q, x) :: r) k = valD r k := by simp [valD, List.find?_cons, hk]
      rw [this] at h
      obtain ⟨u, h1, h2⟩ := FzK.val hr h
      exact ⟨u, by rw [valV_neg hk]; exact h1, h2⟩
def rDGet : R2 := fun x y H Q => ∃ a v, x = .ref a ∧ DGet H a y (some v) ∧ Q v H
theorem ok_dget {K : PySem.W.Frag} : OpOk K rDGet dgetD := by
  intro F H x y dx dy z Q e qx qy h w
  cases dx <;> cases dy <;> first | (simp [dgetD] at h; done) | skip
  · rename_i kvs i
    obtain ⟨a, ws, rfl, h1, h2⟩ := qx.dic
    cases qy.int
    have h : (valD kvs (.inl i)).map Sl.fz = some z := h
    cases hd : valD kvs (.inl i) with
    | none => rw [hd] at h; cases h
    | some d =>
      rw [hd] at h; cases h
      obtain ⟨v, e1, e2⟩ := h2.val hd
      exact ⟨a, v, rfl, .inl ⟨ws, .inl i, .inl (e _ _ h1), rfl, e1.symm⟩, w.fz e e2⟩
  · rename_i kvs i
    obtain ⟨a, ws, rfl, h1, h2⟩ := qx.dic
    cases qy.str
    have h : (valD kvs (.inr i)).map Sl.fz = some z := h
    cases hd : valD kvs (.inr i) with
    | none => rw [hd] at h; cases h
    | some d =>
      rw [hd] at h; cases h
      obtain ⟨v, e1, e2⟩ := h2.val hd
      exact ⟨a, v, rfl, .inl ⟨ws, .inr i, .inl (e _ _ h1), rfl, e1.symm⟩, w.fz e e2⟩
section
variable {X : Cx} {W : WX} {io : Nat → Option Addr} {a b : Expr} {oa ob : Opd} {pos : Pos}
theorem je_dget (hu : X.A.units + 64 < cLine) (ha : JO X W io a oa) (hb : JO X W io b ob) (hs : NoSl b := by exact fun _ _ => rfl) : JE X W io (.Subscript a b pos) (mOp2 dgetD oa ob) :=
  ⟨pei (pe_dget (by omega) ha.pe hb.pe hs) fun _ _ _ h => op2_core ok_dget h⟩
end

section
variable {K : PySem.W.Frag} {W : WX} {io : Nat → Option Addr} {P P' F F' : Hp} {σ : L2.St} {Q : VK} {H : Hp} {ρ : Env}
/-- less to be left alone -/
theorem St.less (S : St K io P' F ρ σ H) (pp : Same P P') : St K io P F ρ σ H where
  fh := S.fh
  ph := pp.trans S.ph
  pf := fun a o q => S.pf a o (pp _ _ q)
  len := S.len
  fz := S.fz
  ow := fun i xs q => by
    obtain ⟨a, vs, h1, h2, h3, h4, h5⟩ := S.ow i xs q
    refine ⟨a, vs, h1, h2, h3, h4, ?_⟩
    cases z : P a with
    | none => rfl
    | some u => rw [pp _ _ z] at h5; cases h5
  ia := S.ia
  ds := S.ds
theorem tJ_bindP {m : Ex} {f : Sl → Env → R Sl} {Q' : VK} (pp : Same P P') (S : St K io P' F ρ σ H) (h : ToE K W io P F σ Q ((m ρ).bind f))
    (k : ∀ r ρ1 v H1 F1, Same F F1 → St K io P' F1 ρ1 σ H1 → Rel K P' F1 ρ1 σ H1 v r → ToE K W io P F1 σ Q (f r ρ1) → Q' v H1) : tJ K W io m σ H Q' := by
  refine ⟨P', F, ρ, S, ?_⟩
  cases e : m ρ with
  | ok r ρ1 => rw [e] at h; exact fun v H' F' s S' R' => k r ρ1 v H' F' s S' R' (ToE.up s h)
  | ex c ρ1 => rw [e] at h; exact fun H' F' s S' => h H' F' s (S'.less pp)
  | no => rw [e] at h; exact h.elim
def trD (K : PySem.W.Frag) (W : WX) (io : Nat → Option Addr) : List Key → List Ex → List (TE × TE)
  | q :: qs, m :: ms => (tC (kV q), tJ K W io m) :: trD K W io qs ms
  | _, _ => []
theorem tD_bind (pp : Same P P') : ∀ (qs : List Key) (ms : List Ex) {f : List D → Env → R Sl} {Q' : List (V × V) → Hp → Prop} {F : Hp} {ρ : Env} {H : Hp}, qs.length = ms.length → St K io P' F ρ σ H → ToE K W io P F σ Q ((runE ms ρ).bind f) →
    (∀ ds ρ1 (ws : List (Key × V)) H1 F1, Same F F1 → St K io P' F1 ρ1 σ H1 → FzK K F1 (qs.zip ds) ws → ds.length = ms.length → ToE K W io P F1 σ Q (f ds ρ1) → Q' (ws.map fun kv => (kV kv.1, kv.2)) H1) → tPairs (trD K W io qs ms) σ H Q'
  | [], [], f, Q', F, ρ, H, _, S, h, k => k [] ρ [] H F (Same.refl _) S rfl rfl h
  | q :: qs, m :: ms, f, Q', F, ρ, H, hl, S, h, k => by
    have e : (runE (m :: ms) ρ).bind f = (m ρ).bind fun x ρ1 => (runE ms ρ1).bind fun ds ρ2 => f (x.d :: ds) ρ2 := by
      show R.bind ((m ρ).bind fun x ρ1 => (runE ms ρ1).bind fun ds ρ2 => .ok (x.d :: ds) ρ2) f = _
      rw [R.bind_assoc]
      congr 1
      funext p ρ1
      rw [R.bind_assoc]
      rfl
    rw [e] at h
    show tJ K W io m σ H _
    refine tJ_bindP pp S h fun x ρ1 v H1 F1 s1 S1 R1 h1 => ?_
    obtain ⟨F1', s1', S1', q1⟩ := S1.cool R1
    exact tD_bind pp qs ms (by simpa using hl) S1' (h1.up s1') fun ds ρ2 ws H2 F2 s2 S2 R2 hd h2 => k (x.d :: ds) ρ2 ((q, v) :: ws) H2 F2 ((s1.trans s1').trans s2) S2 ⟨v, ws, rfl, q1.mono s2, R2⟩ (by simp [hd]) h2
  | [], _ :: _, _, _, _, _, _, hl, _, _, _ => by simp at hl
  | _ :: _, [], _, _, _, _, _, hl, _, _, _ => by simp at hl
end

def mDisp (ks : List Key) (ms : List Ex) : Ex := fun ρ => (runE ms ρ).bind fun ds ρ1 => .ok (.fz (.dic (ks.zip ds))) ρ1
section
variable {X : Cx} {W : WX} {io : Nat → Option Addr} {pos : Pos}
def JDs (X : Cx) (W : WX) (io : Nat → Option Addr) : List (Option Expr) → List Expr → List Key → List Ex → Prop
  | [], [], [], [] => True
  | some k :: ks, v :: vs, q :: qs, m :: ms => PE X k (tC (kV q)) ∧ JE X W io v m ∧ JDs X W io ks vs qs ms
  | _, _, _, _ => False
theorem jds_nil : JDs X W io [] [] [] [] := trivial
theorem jds_str {z : Str} {j : Nat} {p : Pos} {v : Expr} {m : Ex} {ks : List (Option Expr)} {vs : List Expr} {qs : List Key} {ms : List Ex} (h : JE X W io v m) (r : JDs X W io ks vs qs ms) :
    JDs X W io (some (.Constant (.str z) j p) :: ks) (v :: vs) (.inr z :: qs) (m :: ms) := ⟨pe_str, h, r⟩
theorem jds_int {z : Int} {j : Nat} {p : Pos} {v : Expr} {m : Ex} {ks : List (Option Expr)} {vs : List Expr} {qs : List Key} {ms : List Ex} (h : JE X W io v m) (r : JDs X W io ks vs qs ms) :
    JDs X W io (some (.Constant (.int z) j p) :: ks) (v :: vs) (.inl z :: qs) (m :: ms) := ⟨pe_int, h, r⟩
theorem JDs.pps : ∀ {ks : List (Option Expr)} {vs : List Expr} {qs : List Key} {ms : List Ex}, JDs X W io ks vs qs ms → PPs X pos ks vs (trD X.K W io qs ms) ∧ ks.all (·.isSome) = true ∧ ks.length = vs.length ∧ qs.length = ms.length ∧ qs.length = ks.length
  | [], [], [], [], _ => ⟨pps_nil, rfl, rfl, rfl, rfl⟩
  | some k :: ks, v :: vs, q :: qs, m :: ms, ⟨h1, h2, h3⟩ => by
    obtain ⟨g1, g2, g3, g4, g5⟩ := JDs.pps h3
    exact ⟨pps_cons h1 h2.pe g1, by simpa using g2, by simp [g3], by simp [g4], by simp [g5]⟩
theorem FzK.fst {K : PySem.W.Frag} {F : Hp} : ∀ {kvs : List (Key × D)} {ws : List (Key × V)}, FzK K F kvs ws → ws.map (·.1) = kvs.map (·.1)
  | [], _, h => by
    have h : _ = [] := h
    rw [h]; rfl
  | (q, x) :: r, ws, ⟨v, w2, e, hx, hr⟩ => by subst e; simp [FzK.fst hr]
theorem mergeK_nodup : ∀ (ws acc : List (Key × V)), ((acc ++ ws).map (·.1)).Nodup → mergeK acc ws = acc ++ ws
  | [], acc, _ => by simp [mergeK]
  | p :: r, acc, h => by
    have e : mergeK acc (p :: r) = mergeK (putK acc p.1 p.2) r := rfl
    have h2 : putK acc p.1 p.2 = acc ++ [p] := by
      unfold putK
      rw [if_neg]
      intro hh
      rw [List.any_eq_true] at hh
      obtain ⟨x, hx, hx2⟩ := hh
      have hx2 : x.1 = p.1 := by simpa using hx2
      rw [List.map_append, List.nodup_append] at h
      exact h.2.2 x.1 (List.mem_map_of_mem hx) p.1 (by simp) hx2
    rw [e, h2, mergeK_nodup r (acc ++ [p]) (by simpa using h)]
    simp
theorem zip_fst : ∀ {qs : List Key} {ds : List D}, qs.length = ds.length → (qs.zip ds).map (·.1) = qs
  | [], [], _ => rfl
  | q :: qs, d :: ds, h => by simp [zip_fst (qs := qs) (ds := ds) (by simpa using h)]
  | [], _ :: _, h => by simp at h
  | _ :: _, [], h => by simp at h
theorem je_disp {ks : List (Option Expr)} {vs : List Expr} {qs : List Key} {ms : List Ex} (h : JDs X W io ks vs qs ms) (nd : qs.Nodup := by decide) (h0 : ks ≠ [] := by exact List.cons_ne_nil _ _) (h15 : ks.length ≤ 15 := by decide) : JE X W io (.Dict ks vs pos) (mDisp qs ms) := by
  obtain ⟨g1, g2, g3, g4, g5⟩ := h.pps (pos := pos)
  refine ⟨pei (pe_disp g1 g2 g3 h0 h15) fun σ H Q q => ?_⟩
  obtain ⟨P, F, ρ, S, q⟩ := q
  intro p hp
  have hP : P p = none := by
    cases z : P p with
    | none => rfl
    | some u => rw [S.ph _ _ z] at hp; cases hp
  have hF : F p = none := by
    cases z : F p with
    | none => rfl
    | some u => rw [S.fh _ _ z] at hp; cases hp
  have pp : Same P (upd P p (.dK [])) := fun b x e => by rw [upd_ne (ne_of_none e hP)]; exact e
  have S0 : St X.K io P F ρ σ (upd H p (.dK [])) := S.ext (Ext.laid S.fh hp)
  have S1 : St X.K io (upd P p (.dK [])) F ρ σ (upd H p (.dK [])) := by
    refine ⟨S0.fh, fun b x e => ?_, fun b x e => ?_, S0.len, S0.fz, fun i xs o => ?_, S0.ia, S0.ds⟩
    · by_cases hb : b = p
      · subst hb; rw [upd_same] at e ⊢; exact e
      · rw [upd_ne hb] at e; exact S0.ph _ _ e
    · by_cases hb : b = p
      · subst hb; exact hF
      · rw [upd_ne hb] at e; exact S0.pf _ _ e
    · obtain ⟨a, us, e1, e2, e3, e4, e5⟩ := S.ow i xs o
      have ha : a ≠ p := ne_of_none e2 hp
      exact ⟨a, us, e1, by rw [upd_ne ha]; exact e2, e3, e4, by rw [upd_ne ha]; exact e5⟩
  refine tD_bind pp qs ms g4 S1 q fun ds ρ1 ws H2 F2 s2 S2 R2 hd h2 => ?_
  have hH2 : H2 p = some (.dK []) := S2.ph _ _ upd_same
  have hF2 : F2 p = none := S2.pf _ _ upd_same
  have hw : ws.map (·.1) = qs := by rw [R2.fst]; exact zip_fst (by rw [g4, hd])
  have hm : mergeK [] ws = ws := mergeK_nodup ws [] (by rw [List.nil_append, hw]; exact nd)
  refine ⟨hH2, ws, rfl, ?_, ?_⟩
  · have : ws.length = qs.length := by rw [← hw]; simp
    rw [this, g5]; exact h15
  rw [hm]
  have sm : Same F2 (upd F2 p (.dK ws)) := fun b x e => by rw [upd_ne (ne_of_none e hF2)]; exact e
  refine h2 (.ref p) _ (upd F2 p (.dK ws)) sm ?_ ⟨p, ws, rfl, upd_same, ?_⟩
  · have S3 := S2.less pp
    refine ⟨fun b x e => ?_, fun b x e => ?_, fun b x e => ?_, S3.len, fun i d e => ?_, fun i xs o => ?_, S3.ia, S3.ds⟩
    · by_cases hb : b = p
      · subst hb; rw [upd_same] at e ⊢; exact e
      · rw [upd_ne hb] at e ⊢; exact S3.fh _ _ e
    · have hb : b ≠ p := ne_of_none e hP
      rw [upd_ne hb]; exact S3.ph _ _ e
    · have hb : b ≠ p := ne_of_none e hP
      rw [upd_ne hb]; exact S3.pf _ _ e
    · obtain ⟨v, e1, e2⟩ := S3.fz i d e
      exact ⟨v, e1, e2.mono sm⟩
    · obtain ⟨a, us, e1, e2, e3, e4, e5⟩ := S2.ow i xs o
      have ha : a ≠ p := fun z => by subst z; rw [upd_same] at e5; cases e5
      exact ⟨a, us, e1, by rw [upd_ne ha]; exact e2, e3.mono sm, by rw [upd_ne ha]; exact e4, by rw [upd_ne ha] at e5; exact e5⟩
  · exact FzK.mono sm R2
end
end Mi

namespace Mi
open PySem PySem.Spec PyProof.Rows L2

/-! ### repr of lists and tuples; two texts compared -/
def D.isSeq : D → Bool
  | .lst _ | .tup _ => true
  | _ => false
def reprD : OpN
  | [d] => if d.isSeq && d.sh && d.py.showable && decide (d.py.shown.length ≤ sizeLine) then some (.fz (.str d.py.shown)) else none
  | _ => none
def rRepr (K : PySem.W.Frag) : List V → Hp → VK → Prop := fun xs H Q => ∃ a d, xs = [V.ref a] ∧ Dp K H (.ref a) d ∧ SeqAt.shaped d = true ∧ d.showable = true ∧ d.shown.length ≤ sizeLine ∧ Q (.str d.shown) H
theorem u66 {lev : Nat} {A : Around} (h : RoomG lev A) : A.units + 66 < cLine := by
  have := h.room.un
  omega
section
variable {X : Cx}
theorem call_reprG (hg : X.A.guards = some []) (hu : X.A.units + 66 < cLine) : CallR X (.builtin "repr") (rRepr X.K) := by
  intro pins s σ H xs us Q I r h
  obtain ⟨a, d, rfl, hd, sh, sw, sz, q⟩ := h
  rw [Vals.ref1 r]
  obtain ⟨as, rd⟩ := Dp.reads I d (.ref a) (.ref a) hd rfl
  have hdep : d.depth ≤ 64 := by
    have z : (d.canLay0 && decide (d.depth ≤ 64)) = true := sh
    rw [Bool.and_eq_true, decide_eq_true_eq] at z
    exact z.2
  exact repr_of_reads' rd sw (PyData.noDict_hsm (PyData.hasDict_of_canLay d (SeqAt.canLay_of_shaped sh))) hg (by omega) (fun _ _ e => e) (fun h' u tk hk => ⟨.str _, H, I.kept hk, ⟨u, rfl⟩, q⟩) sz
end
section
variable {K : PySem.W.Frag}
theorem ok_repr : CallOk K (rRepr K) reprD := by
  intro F H vs ds z Q e q h w
  match ds, h with
  | [d], h =>
    obtain ⟨v, rfl, q1⟩ := q.one
    obtain ⟨h1, rfl⟩ := ifs h
    simp only [Bool.and_eq_true, decide_eq_true_eq] at h1
    obtain ⟨⟨⟨h2, h3⟩, h4⟩, h5⟩ := h1
    have hv : ∃ a, v = .ref a := by
      cases d <;> first | (simp [D.isSeq] at h2; done) | skip
      · obtain ⟨a, us, rfl, _⟩ := q1.tup
        exact ⟨a, rfl⟩
      · obtain ⟨a, us, rfl, _⟩ := q1.lst e
        exact ⟨a, rfl⟩
    obtain ⟨a, rfl⟩ := hv
    exact ⟨a, d.py, rfl, q1.dp e (sh_lay h3), h3, h4, h5, w.fz e rfl⟩
def eqsD : Op2
  | .str a, .str b => some (okB (decide (a = b)))
  | _, _ => none
def nesD : Op2
  | .str a, .str b => some (okB (!decide (a = b)))
  | _, _ => none
theorem dec_vstr {a b : Str} : decide (V.str a = V.str b) = decide (a = b) := by
  by_cases h : a = b <;> simp [h]
theorem ok_eqs : OpOk K rEq eqsD := by
  intro F H x y dx dy z Q e qx qy h w
  cases dx <;> cases dy <;> first | (simp [eqsD] at h; done) | skip
  cases qx.str; cases qy.str; cases h
  exact ⟨rfl, by rw [dec_vstr]; exact w.fz e rfl⟩
theorem ok_nes : OpOk K rNe nesD := by
  intro F H x y dx dy z Q e qx qy h w
  cases dx <;> cases dy <;> first | (simp [nesD] at h; done) | skip
  cases qx.str; cases qy.str; cases h
  exact ⟨rfl, by rw [dec_vstr]; exact w.fz e rfl⟩
theorem op_eqs {a b : Str} : eqsD (.str a) (.str b) = some (.fz (.bl (decide (a = b)))) := rfl
theorem op_nes {a b : Str} : nesD (.str a) (.str b) = some (.fz (.bl (!decide (a = b)))) := rfl
/-! ### max, min of a list of ints -/
def maxL : List Int → Int
  | [] => 0
  | [n] => n
  | n :: m :: r => if n < maxL (m :: r) then maxL (m :: r) else n
def minL : List Int → Int
  | [] => 0
  | [n] => n
  | n :: m :: r => if minL (m :: r) < n then minL (m :: r) else n
theorem maxL_spec : ∀ {l : List Int}, l ≠ [] → maxL l ∈ l ∧ ∀ y ∈ l, y ≤ maxL l
  | [], h => absurd rfl h
  | [n], _ => ⟨List.mem_cons_self .., fun y hy => by simp at hy; subst hy; exact Int.le_refl _⟩
  | n :: m :: r, _ => by
    obtain ⟨h1, h2⟩ := maxL_spec (l := m :: r) (by simp)
    unfold maxL
    split
    · exact ⟨List.mem_cons_of_mem _ h1, fun y hy => by
        rcases List.mem_cons.mp hy with rfl | hy
        · omega
        · exact h2 y hy⟩
    · exact ⟨List.mem_cons_self .., fun y hy => by
        rcases List.mem_cons.mp hy with rfl | hy
        · omega
        · have := h2 y hy
          omega⟩
theorem minL_spec : ∀ {l : List Int}, l ≠ [] → minL l ∈ l ∧ ∀ y ∈ l, minL l ≤ y
  | [], h => absurd rfl h
  | [n], _ => ⟨List.mem_cons_self .., fun y hy => by simp at hy; subst hy; exact Int.le_refl _⟩
  | n :: m :: r, _ => by
    obtain ⟨h1, h2⟩ := minL_spec (l := m :: r) (by simp)
    unfold minL
    split
    · exact ⟨List.mem_cons_of_mem _ h1, fun y hy => by
        rcases List.mem_cons.mp hy with rfl | hy
        · omega
        · exact h2 y hy⟩
    · exact ⟨List.mem_cons_self .., fun y hy => by
        rcases List.mem_cons.mp hy with rfl | hy
        · omega
        · have := h2 y hy
          omega⟩
def maxlD : OpN
  | [.lst xs] => match intsOf xs with
    | some (n :: ns) => some (okI (maxL (n :: ns)))
    | _ => none
  | _ => none
def minlD : OpN
  | [.lst xs] => match intsOf xs with
    | some (n :: ns) => some (okI (minL (n :: ns)))
    | _ => none
  | _ => none
theorem ok_maxl : CallOk K (rMax K) maxlD := by
  intro F H vs ds z Q e q h w
  match ds, h with
  | [.lst xs], h =>
    obtain ⟨v, rfl, q1⟩ := q.one
    obtain ⟨a, us, rfl, ha, ra⟩ := q1.lst e
    cases e1 : intsOf xs with
    | none => simp [maxlD, e1] at h
    | some l =>
      cases l with
      | nil => simp [maxlD, e1] at h
      | cons n ns =>
        have h : some (okI (maxL (n :: ns))) = some z := by simpa [maxlD, e1] using h
        cases h
        have e2 := ints_rel ra e1
        subst e2
        obtain ⟨h1, h2⟩ := maxL_spec (l := n :: ns) (by simp)
        refine ⟨a, n :: ns, rfl, .inl (.inl ha), by simp, fun m hm hle => ?_⟩
        have : m = maxL (n :: ns) := Int.le_antisymm (h2 m hm) (hle _ h1)
        subst this
        exact w.fz e rfl
theorem ok_minl : CallOk K (rMin K) minlD := by
  intro F H vs ds z Q e q h w
  match ds, h with
  | [.lst xs], h =>
    obtain ⟨v, rfl, q1⟩ := q.one
    obtain ⟨a, us, rfl, ha, ra⟩ := q1.lst e
    cases e1 : intsOf xs with
    | none => simp [minlD, e1] at h
    | some l =>
      cases l with
      | nil => simp [minlD, e1] at h
      | cons n ns =>
        have h : some (okI (minL (n :: ns))) = some z := by simpa [minlD, e1] using h
        cases h
        have e2 := ints_rel ra e1
        subst e2
        obtain ⟨h1, h2⟩ := minL_spec (l := n :: ns) (by simp)
        refine ⟨a, n :: ns, rfl, .inl (.inl ha), by simp, fun m hm hle => ?_⟩
        have : m = minL (n :: ns) := Int.le_antisymm (hle _ h1) (h2 m hm)
        subst this
        exact w.fz e rfl
theorem ints_map : ∀ l : List Int, intsOf (l.map .int) = some l
  | [] => rfl
  | n :: l => by
    show (intsOf (l.map .int)).map (fun r => n :: r) = _
    rw [ints_map l]
    rfl
theorem sum_ints (l : List Int) : sumD [.lst (l.map .int)] = some (.fz (.int l.sum)) := by
  show (intsOf (l.map .int)).map (fun r => okI r.sum) = _
  rw [ints_map]
  rfl
end
section
variable {n m : Nat} {e : Option Sl} {a b c d : D} {ps : List Pd} {w : Mi.Env}
theorem bk_of (h : look n ps w = none) : back1 n e ps w = e := by
  cases e with
  | none => rfl
  | some s =>
    cases s with
    | fz x => rfl
    | ow xs => unfold back1; simp only [h]
    | io xs => unfold back1; simp only [h]
theorem bk_d0 : back1 n e [] w = e := bk_of rfl
theorem bk_d1 : back1 n e [.d a] w = e := bk_of rfl
theorem bk_d2 : back1 n e [.d a, .d b] w = e := bk_of rfl
theorem bk_d3 : back1 n e [.d a, .d b, .d c] w = e := bk_of rfl
theorem bk_d4 : back1 n e [.d a, .d b, .d c, .d d] w = e := bk_of rfl
theorem bk_i0 (h : m ≠ n) : back1 n e [.i m] w = e := bk_of (by
  unfold look
  rw [if_neg h]
  rfl)
theorem bk_i1 (h : m ≠ n) : back1 n e [.i m, .d a] w = e := bk_of (by
  unfold look
  rw [if_neg h]
  rfl)
theorem bk_i2 (h : m ≠ n) : back1 n e [.i m, .d a, .d b] w = e := bk_of (by
  unfold look
  rw [if_neg h]
  rfl)
theorem bk_i3 (h : m ≠ n) : back1 n e [.i m, .d a, .d b, .d c] w = e := bk_of (by
  unfold look
  rw [if_neg h]
  rfl)
end
/-! ### ranges -/
def rb1 (x : R (List D)) : R (List D) := x.bind fun ds ρ1 => mkI (range1D ds) ρ1
theorem rg1_eq {s : Option Sl} {l : Env} {a : Ex} : iRange1 a (s :: l) = rb1 (runE [a] (s :: l)) := rfl
theorem rb1_ok {ρ : Env} {j : Int} (h2 : -1000000000 ≤ j) (h3 : j ≤ 1000000000) : rb1 (.ok [.int j] ρ) = .ok (rangeL 0 j.toNat) ρ := by
  unfold rb1
  rw [ev_bind_ok, ev_range1D h2 h3, ev_mkI]
theorem range2_ok {i j : Int} (h0 : -1000000000 ≤ i) (h1 : i ≤ 1000000000) (h2 : -1000000000 ≤ j) (h3 : j ≤ 1000000000) : range2D [.int i, .int j] = some (rangeL i (j - i).toNat) := by
  show (if -RB ≤ i ∧ i ≤ RB ∧ -RB ≤ j ∧ j ≤ RB then some (rangeL i (j - i).toNat) else none) = _
  unfold RB
  exact if_pos ⟨h0, h1, h2, h3⟩
def rb2 (x : R (List D)) : R (List D) := x.bind fun ds ρ1 => mkI (range2D ds) ρ1
theorem rg2_eq {s : Option Sl} {l : Env} {a b : Ex} : iRange2 a b (s :: l) = rb2 (runE [a, b] (s :: l)) := rfl
theorem rb2_ok {ρ : Env} {i j : Int} (h0 : -1000000000 ≤ i) (h1 : i ≤ 1000000000) (h2 : -1000000000 ≤ j) (h3 : j ≤ 1000000000) : rb2 (.ok [.int i, .int j] ρ) = .ok (rangeL i (j - i).toNat) ρ := by
  unfold rb2
  rw [ev_bind_ok, range2_ok h0 h1 h2 h3, ev_mkI]
theorem rangeL_succ (lo : Int) (n : Nat) : rangeL lo (n + 1) = .int lo :: rangeL (lo + 1) n := by
  unfold rangeL
  rw [List.range_succ_eq_map, List.map_cons, List.map_map]
  congr 1
  · show D.int (lo + ((0 : Nat) : Int)) = _
    congr 1
    exact Int.add_zero lo
  · apply List.map_congr_left
    intro a _
    show D.int (lo + ((a + 1 : Nat) : Int)) = .int (lo + 1 + (a : Nat))
    congr 1
    omega
/-! ### rows: x op= e, try -/
section
variable {s : Option Sl} {l ρ : Env} {i : Nat} {f : Op2} {m : Ex} {d : D} {x z : Sl} {A B : Sm} {tab : List (Str × Bool)} {c : Str}
def augS (i : Nat) (ρ : Env) : Option Sl → SR
  | some z => .nx (ρ.set i (some z))
  | none => .no
def augR (i : Nat) (f : Op2) (m : Ex) (ρ : Env) : Option (Option Sl) → SR
  | some (some (.fz d)) => (m ρ).toS fun y ρ1 => augS i ρ1 (f d y.d)
  | _ => .no
theorem ev_aug : sAug i f m (s :: l) = augR i f m (s :: l) (s :: l)[i]? := by
  unfold sAug augR
  rcases (s :: l)[i]? with _ | _ | (d | xs | xs) <;> rfl
theorem ev_augR : augR i f m ρ (some (some (.fz d))) = (m ρ).toS fun y ρ1 => augS i ρ1 (f d y.d) := rfl
theorem ev_augS : augS i ρ (some z) = .nx (ρ.set i (some z)) := rfl
def tryU (B : Sm) (c : Str) (ρ : Env) : Option Bool → SR
  | some true => coldR (B ρ)
  | some false => .ex c ρ
  | none => .no
def tryT (tab : List (Str × Bool)) (B : Sm) : SR → SR
  | .ex c ρ => tryU B c ρ (tab.lookup c)
  | r => r
theorem ev_try : sTry tab A B (s :: l) = tryT tab B (A (s :: l)) := by
  unfold sTry tryT
  cases A (s :: l) with
  | ex c ρ =>
    show (match tab.lookup c with
      | some true => coldR (B ρ)
      | some false => .ex c ρ
      | none => .no) = tryU B c ρ (tab.lookup c)
    cases tab.lookup c with
    | none => rfl
    | some b => cases b <;> rfl
  | _ => rfl
theorem ev_tryT_ex : tryT tab B (.ex c ρ) = tryU B c ρ (tab.lookup c) := rfl
theorem ev_tryT_nx : tryT tab B (.nx ρ) = .nx ρ := rfl
theorem ev_tryT_rt : tryT tab B (.rt x ρ) = .rt x ρ := rfl
theorem ev_tryT_bk : tryT tab B (.bk ρ) = .bk ρ := rfl
theorem ev_tryT_ct : tryT tab B (.ct ρ) = .ct ρ := rfl
theorem ev_tryU : tryU B c ρ (some true) = coldR (B ρ) := rfl
theorem ev_tryU0 : tryU B c ρ (some false) = .ex c ρ := rfl
theorem ev_cold_nx : coldR (.nx ρ) = .nx ρ := rfl
theorem ev_cold_rt : coldR (.rt x ρ) = .rt x ρ := rfl
theorem ev_reprD (h1 : d.isSeq = true) (h2 : d.sh = true) (h3 : d.py.showable = true) (h4 : d.py.shown.length ≤ sizeLine) : reprD [d] = some (.fz (.str d.py.shown)) := by
  unfold reprD
  simp only [h1, h2, h3, Bool.and_true, decide_eq_true h4, if_true]
end
end Mi

namespace Mi
open PySem PySem.Spec PyProof.Rows L2
/-! ### xs.count(text) -/
def strsOf : List D → Option (List Str)
  | [] => some []
  | .str i :: r => (strsOf r).map fun l => i :: l
  | _ => none
def eqS (k : Str) : Value → Bool
  | .str a _ => a == k
  | _ => false
theorem strs_at {k : Str} {t : Tok} : ∀ {ss : List Str} {us : List Value}, Vals (ss.map V.str) us → (∀ y ∈ us, ∀ (A : Around) (s : Shared), SeqAt.EqAt A s y (.str k t) (eqS k y)) ∧ us.countP (eqS k) = ss.count k
  | [], _, .nil => ⟨fun y hy => (nomatch hy), rfl⟩
  | a :: ss, _, .cons r rs => by
    obtain ⟨h1, h2⟩ := strs_at (k := k) (t := t) rs
    obtain ⟨u, rfl⟩ := r
    constructor
    · intro y hy A s
      rcases List.mem_cons.mp hy with rfl | hy
      · exact SeqAt.EqAt.str_str a u k t
      · exact h1 y hy A s
    · rw [List.countP_cons, List.count_cons, h2]
      rfl
def rCntS (K : PySem.W.Frag) : V → List V → Hp → VK → Prop := fun x xs H Q => ∃ (p : Addr) (ss : List Str) (k : Str), x = .ref p ∧ xs = [.str k] ∧ SqL K H p (ss.map V.str) ∧ Q (.int (ss.count k : Nat)) H
section
variable {X : Cx}
theorem mt_scount : MtR X "list.count" (rCntS X.K) := by
  intro pins s σ H x xs v us Q I rx rxs h
  obtain ⟨p, ss, k, rfl, rfl, hs, q⟩ := h
  cases rx
  obtain ⟨u, rfl, t, rfl⟩ := rxs.one
  obtain ⟨its, rv, ⟨⟨cls, dd, data, sl⟩, n, ho, hc, hdn, hd⟩, hlen⟩ := I.list hs
  simp only at hc hd
  subst hc hd
  obtain ⟨h1, h2⟩ := strs_at (k := k) (t := t) rv
  refine call_meets PySem.F.slot_list_count ⟨_, ho, rfl⟩ PySem.F.entry_list_count (PySem.F.args_list_count_2 _ _) (SeqAt.list_countAt p its.toArray n dd sl (.str k t) (eqS k)) ⟨ho, ?_, ?_⟩
  · intro y hy
    exact h1 y (by simpa using hy) _ _
  · have ec : its.toArray.toList.countP (eqS k) = ss.count k := h2
    refine ⟨.int (ss.count k : Nat), H, I.tok _, ⟨s.toks, ?_⟩, q⟩
    rw [ec]
end
/-- e.count(text) -/
def cntD : Op2
  | .lst xs, .str z => (strsOf xs).map fun l => okI (l.count z : Nat)
  | _, _ => none
def isL : Option D → Bool
  | some (.lst _) => true
  | _ => false
def mCnt (oa : Opd) (mb : Ex) : Ex := fun ρ => if okV ρ oa then (oa.run ρ).bind fun p ρ1 => if isL (p.get ρ1) then (mb ρ1).bind fun y ρ2 => mk (get1 (fun x => cntD x y.d) ρ2 p) ρ2 else .no else .no
section
variable {K : PySem.W.Frag}
theorem strs_rel {F : Hp} : ∀ {xs : List D} {vs : List V} {l : List Str}, FzL K F xs vs → strsOf xs = some l → vs = l.map V.str
  | [], _, _, q, h => by
    have q : _ = [] := q
    cases h
    exact q
  | x :: xs, _, l, ⟨v, ws, e, q, r⟩, h => by
    cases x <;> first | (simp [strsOf] at h; done) | skip
    rename_i i
    obtain ⟨l', h1, rfl⟩ := Option.map_eq_some_iff.mp h
    cases (show v = .str i from q)
    rw [e, strs_rel r h1]
    rfl
theorem ok_cnt : OpOk K (fun x y H Q => rCntS K x [y] H Q) cntD := by
  intro F H x y dx dy z Q e qx qy h w
  cases dx <;> cases dy <;> first | (simp [cntD] at h; done) | skip
  rename_i xs z
  obtain ⟨l, h1, rfl⟩ := Option.map_eq_some_iff.mp h
  obtain ⟨a, us, rfl, ha, ra⟩ := qx.lst e
  cases qy.str
  have e2 := strs_rel ra h1
  subst e2
  exact ⟨a, l, z, rfl, rfl, .inl (.inl ha), w.fz e rfl⟩
end
section
variable {X : Cx} {W : WX} {io : Nat → Option Addr} {o e : Expr} {oa : Opd} {mb : Ex} {apos cpos : Pos}
theorem je_cnt (ho : JO X W io o oa) (he : JE X W io e mb) (hbase : attributeBase o "count" X.env (eval o X.env) = eval o X.env := by rfl)
    (hfew : ((backTo cpos (starEach [e] X.env)).all (fun x => !x.1) && (backToKw cpos (keywordEach [] X.env)).all (fun x => x.1.isSome)
      && decide (([e] : List Expr).length + ([] : List Keyword).length + (if ([] : List Keyword).isEmpty then 0 else 1) < 30)) = true := by rfl)
    (hline : (apos.endLine == cpos.line) = true := by rfl) (hs : starEach [e] X.env = (false, eval e X.env) :: starEach [] X.env := by rfl) (hplain : (backTo cpos (starEach [] X.env)).any (·.1) = false := by rfl) :
    JE X W io (.Call (.Attribute o "count" apos) [e] [] cpos) (mCnt oa mb) := by
  refine ⟨pei (pe_bm PySem.F.plainAttrs_list PySem.F.slot_list_count PySem.F.type_list_count mt_scount ho.pe (pa_cons he.pe pa_nil hs) hbase hfew hline hs hplain) fun σ H Q h => ?_⟩
  obtain ⟨P, F, ρ, S, h⟩ := h
  obtain ⟨hc, h⟩ := toE_if h
  refine tO_bind S h (fun _ _ _ _ => trivial) (fun p ρ1 v H1 F1 s1 S1 R1 h1 => ?_) (okV_v S hc)
  obtain ⟨hl, h1⟩ := toE_if h1
  cases e0 : p.get ρ1 with
  | none => rw [e0] at hl; cases hl
  | some d0 =>
    rw [e0] at hl
    cases d0 <;> first | (simp [isL] at hl; done) | skip
    rename_i ys
    obtain ⟨a0, us0, ev, ha0, ra0⟩ := (R1.pk S1 e0).lst S1.fh
    subst ev
    refine ⟨.inl ⟨rfl, us0, .inl (.inl ha0)⟩, ?_⟩
    refine tJ_bind S1 h1 fun y ρ2 w H2 F2 s2 S2 R2 h2 => ?_
    obtain ⟨F3, s3, S3, q3⟩ := S2.cool R2
    have h3 : ToE X.K W io P F3 σ Q (mk (get1 (fun x => cntD x y.d) ρ2 p) ρ2) := h2.up s3
    obtain ⟨z, ez, h4⟩ := mk_some h3
    unfold get1 at ez
    cases e1 : p.get ρ2 with
    | none => rw [e1] at ez; cases ez
    | some dx =>
      rw [e1] at ez
      exact ok_cnt F3 H2 _ w dx y.d z Q S3.fh ((R1.mono (s2.trans s3)).pk S3 e1) (.inl q3) ez (h4.want S3)
end
/-! ### sorted(list of ints) -/
def insI (n : Int) : List Int → List Int
  | [] => [n]
  | m :: l => if n ≤ m then n :: m :: l else m :: insI n l
def sortI : List Int → List Int
  | [] => []
  | n :: l => insI n (sortI l)
theorem insI_perm (n : Int) : ∀ l : List Int, (insI n l).Perm (n :: l)
  | [] => List.Perm.refl _
  | m :: l => by
    unfold insI
    split
    · exact List.Perm.refl _
    · exact ((insI_perm n l).cons m).trans (List.Perm.swap n m l)
theorem sortI_perm : ∀ l : List Int, (sortI l).Perm l
  | [] => List.Perm.refl _
  | n :: l => (insI_perm n (sortI l)).trans ((sortI_perm l).cons n)
theorem insI_pw (n : Int) : ∀ {l : List Int}, l.Pairwise (· ≤ ·) → (insI n l).Pairwise (· ≤ ·)
  | [], _ => List.pairwise_singleton _ _
  | m :: l, h => by
    obtain ⟨h1, h2⟩ := List.pairwise_cons.mp h
    unfold insI
    split
    · rename_i hn
      refine List.pairwise_cons.mpr ⟨fun y hy => ?_, h⟩
      rcases List.mem_cons.mp hy with rfl | hy
      · exact hn
      · exact Int.le_trans hn (h1 y hy)
    · rename_i hn
      refine List.pairwise_cons.mpr ⟨fun y hy => ?_, insI_pw n h2⟩
      rcases List.mem_cons.mp ((insI_perm n l).mem_iff.mp hy) with rfl | hy
      · omega
      · exact h1 y hy
theorem sortI_pw : ∀ l : List Int, (sortI l).Pairwise (· ≤ ·)
  | [] => List.Pairwise.nil
  | n :: l => insI_pw n (sortI_pw l)
theorem sorted_uniq : ∀ {a b : List Int}, a.Perm b → a.Pairwise (· ≤ ·) → b.Pairwise (· ≤ ·) → a = b
  | [], b, p, _, _ => (List.nil_perm.mp p).symm
  | x :: a, [], p, _, _ => absurd (List.perm_nil.mp p) (by simp)
  | x :: a, y :: b, p, h1, h2 => by
    obtain ⟨h3, h4⟩ := List.pairwise_cons.mp h1
    obtain ⟨h5, h6⟩ := List.pairwise_cons.mp h2
    have e : x = y := by
      have k1 : x ≤ y := by
        rcases List.mem_cons.mp (p.mem_iff.mpr (List.mem_cons_self ..)) with k | k
        · omega
        · exact h3 y k
      have k2 : y ≤ x := by
        rcases List.mem_cons.mp (p.mem_iff.mp (List.mem_cons_self ..)) with k | k
        · omega
        · exact h5 x k
      omega
    subst e
    rw [sorted_uniq (List.Perm.cons_inv p) h4 h6]
def sortD : OpN
  | [.lst xs] => (intsOf xs).map fun l => .ow ((sortI l).map .int)
  | _ => none
theorem FzL.ints2 {K : PySem.W.Frag} {F : Hp} : ∀ (ns : List Int), FzL K F (ns.map D.int) (ns.map V.int)
  | [] => rfl
  | n :: ns => ⟨.int n, ns.map V.int, rfl, rfl, FzL.ints2 ns⟩
theorem ok_sort {K : PySem.W.Frag} : CallOk K (rSortedI K) sortD := by
  intro F H vs ds z Q e q h w
  match ds, h with
  | [.lst xs], h =>
    obtain ⟨l, h1, rfl⟩ := Option.map_eq_some_iff.mp h
    obtain ⟨v, rfl, q1⟩ := q.one
    obtain ⟨a, us, rfl, ha, ra⟩ := q1.lst e
    have e2 := ints_rel ra h1
    subst e2
    refine ⟨a, l, rfl, .inl (.inl ha), fun ns' p hp hs hn => ?_⟩
    have := sorted_uniq (hp.trans (sortI_perm l).symm) hs (sortI_pw l)
    subst this
    exact w.lst e hn (FzL.ints2 _)
/-! ### list(range(a, b)) -/
def rLR : List V → Hp → VK → Prop := fun xs H Q => ∃ (p : Addr) (i j : Int), xs = [.ref p] ∧ H p = some (.rng i j) ∧ -RB ≤ i ∧ i ≤ RB ∧ -RB ≤ j ∧ j ≤ RB ∧ (j - i).toNat ≤ SZ ∧ ∀ l, H l = none → Q (.ref l) (upd H l (.lst ((List.range (j - i).toNat).map fun k => V.int (i + (k : Nat)))))
def mLR (a b : Ex) : Ex := fun ρ => (runE [a, b] ρ).bind fun ds ρ1 => match range2D ds with
  | some xs => if xs.length ≤ SZ then .ok (.ow xs) ρ1 else .no
  | none => .no
theorem vals_rng : ∀ (l : List Value) (lo : Int), (∀ (k : Nat) (v : Value), l[k]? = some v → ∃ t, v = .int (lo + (k : Nat)) t) → Vals ((List.range l.length).map fun k => V.int (lo + (k : Nat))) l
  | [], _, _ => .nil
  | x :: l, lo, h => by
    have ih := vals_rng l (lo + 1) fun k v hk => by
      obtain ⟨t, e⟩ := h (k + 1) v (by simpa using hk)
      refine ⟨t, ?_⟩
      rw [e]
      congr 1
      omega
    obtain ⟨t, e⟩ := h 0 x rfl
    subst e
    rw [List.length_cons, List.range_succ_eq_map, List.map_cons, List.map_map]
    refine .cons ⟨t, rfl⟩ ?_
    have e2 : ((fun k : Nat => V.int (lo + (k : Nat))) ∘ Nat.succ) = fun k : Nat => V.int (lo + 1 + (k : Nat)) := by
      funext k
      show V.int (lo + ((k + 1 : Nat) : Int)) = _
      congr 1
      omega
    rw [e2]
    exact ih
section
variable {X : Cx}
theorem call_list_rng (hc : X.calm = true) : CallR X (.type "list") rLR := by
  intro pins s σ H xs us Q I r h
  obtain ⟨p, i, j, rfl, hp, b1, b2, b3, b4, hz, q⟩ := h
  unfold RB at b1 b2 b3 b4
  rw [Vals.ref1 r]
  obtain ⟨t, u, v, ho⟩ := I.hok p _ hp
  have hsz : Builtin.Range.rangeSize i j 1 = ((j - i).toNat : Int) := by
    rw [rangeSize_one]
    split <;> omega
  have hz2 := SZ_le
  rw [sizeLine_eq] at hz2
  refine call_list_range (I.ok.hd hc) (a := i) (b := j) (c := 1) ho (small_one (by omega) (by omega) (by omega) (by omega)) hsz (by omega) fun h' tk acc c' hk hS hi => ?_
  obtain ⟨h1, h2⟩ := hi
  have hv : Vals ((List.range (j - i).toNat).map fun k => V.int (i + (k : Nat))) acc.toList := by
    have e : acc.toList.length = (j - i).toNat := by simpa using h1
    rw [← e]
    refine vals_rng _ i fun k v hk => ?_
    obtain ⟨t, e⟩ := h2 k v (by simpa using hk)
    exact ⟨t, by rw [e, Int.mul_one]⟩
  refine ⟨.ref s.heap.objs.size, upd H s.heap.objs.size (.lst ((List.range (j - i).toNat).map fun k => V.int (i + (k : Nat)))), I.laid (t' := tk) hk (Nat.le_refl _) ?_, rfl, q _ (I.hok.fresh (Nat.le_refl _))⟩
  exact ⟨by rw [List.length_map, List.length_range, sizeLine_eq]; omega, acc.toList, c', hv, by simpa using hS⟩
end
theorem fz_rng {K : PySem.W.Frag} {F : Hp} (i : Int) : ∀ l : List Nat, FzL K F (l.map fun k => D.int (i + (k : Nat))) (l.map fun k => V.int (i + (k : Nat)))
  | [] => rfl
  | k :: l => ⟨_, _, rfl, rfl, fz_rng i l⟩
section
variable {X : Cx} {W : WX} {io : Nat → Option Addr} {a b : Expr} {ma mb : Ex} {p p2 pos pos2 : Pos}
theorem je_lr (hcalm : X.calm = true) (hm : X.mg "list" = none) (hm2 : X.mg "range" = none) (ha : JEs X W io [a, b] [ma, mb]) (hg : Gl X "list" := by rfl) (hg2 : Gl X "range" := by rfl)
    (hs : starEach [.Call (.Name "range" p2) [a, b] [] pos2] X.env = (false, eval (.Call (.Name "range" p2) [a, b] [] pos2) X.env) :: starEach [] X.env := by rfl)
    (he : starEach [a, b] X.env = (false, eval a X.env) :: starEach [b] X.env := by rfl) (hpl2 : (backTo pos2 (starEach [b] X.env)).any (·.1) = false := by rfl) (hpl : (backTo pos (starEach [] X.env)).any (·.1) = false := by rfl) :
    JE X W io (.Call (.Name "list" p) [.Call (.Name "range" p2) [a, b] [] pos2] [] pos) (mLR ma mb) := by
  refine ⟨pei (pe_callTy (call_list_rng hcalm) hg hm (by decide +kernel) (pa_cons (pe_callTy cr_range2 hg2 hm2 (by decide +kernel) ha.pa (by decide) (by decide) he hpl2) pa_nil hs) (by decide) (by decide) hs hpl) fun σ H Q h => ?_⟩
  obtain ⟨P, F, ρ, S, h⟩ := h
  show tEs X.K W io [ma, mb] σ H fun vs H1 => ∃ i j, vs = [V.int i, V.int j] ∧ ∀ p : Addr, H1 p = none → rLR [V.ref p] (upd H1 p (.rng i j)) Q
  refine tEs_bind [ma, mb] S h fun ds ρ1 vs H1 F1 s1 S1 q1 h1 => ?_
  have h1 : ToE X.K W io P F1 σ Q (match range2D ds with
    | some xs => if xs.length ≤ SZ then .ok (.ow xs) ρ1 else .no
    | none => .no) := h1
  cases er : range2D ds with
  | none =>
    rw [er] at h1
    exact h1.elim
  | some xs =>
    rw [er] at h1
    match ds, er with
    | [.int i, .int j], er =>
      obtain ⟨v, ws, rfl, e1, w, ws2, rfl, e2, e4⟩ := q1
      have e4 : ws2 = [] := e4
      subst e4
      cases (show v = .int i from e1)
      cases (show w = .int j from e2)
      have er : (if -RB ≤ i ∧ i ≤ RB ∧ -RB ≤ j ∧ j ≤ RB then some (rangeL i (j - i).toNat) else none) = some xs := er
      by_cases hb : -RB ≤ i ∧ i ≤ RB ∧ -RB ≤ j ∧ j ≤ RB
      · rw [if_pos hb] at er
        obtain rfl := Option.some.inj er
        obtain ⟨hl, h2⟩ := toE_ifp h1
        refine ⟨i, j, rfl, fun p hp => ?_⟩
        have S2 := S1.ext (Ext.laid (o := .rng i j) S1.fh hp)
        refine ⟨p, i, j, rfl, upd_same, hb.1, hb.2.1, hb.2.2.1, hb.2.2.2, by unfold rangeL at hl; rw [List.length_map, List.length_range] at hl; exact hl, fun l hl2 => ?_⟩
        exact (h2.want S2).lst S2.fh hl2 (fz_rng i _)
      · rw [if_neg hb] at er
        cases er
end
/-! ### rows -/
section
variable {s : Option Sl} {l : Env} {a b m : Ex} {oa : Opd}
def lrR (x : R (List D)) : R Sl := x.bind fun ds ρ1 => match range2D ds with
  | some xs => if xs.length ≤ SZ then .ok (.ow xs) ρ1 else .no
  | none => .no
theorem ev_lr : mLR a b (s :: l) = lrR (runE [a, b] (s :: l)) := rfl
theorem lr_ok {ρ : Env} {i j : Int} (h0 : -1000000000 ≤ i) (h1 : i ≤ 1000000000) (h2 : -1000000000 ≤ j) (h3 : j ≤ 1000000000) (h4 : (j - i).toNat ≤ 100000) : lrR (.ok [.int i, .int j] ρ) = .ok (.ow (rangeL i (j - i).toNat)) ρ := by
  unfold lrR
  rw [ev_bind_ok, range2_ok h0 h1 h2 h3]
  have : (rangeL i (j - i).toNat).length ≤ SZ := by
    unfold rangeL SZ
    rw [List.length_map, List.length_range]
    omega
  show (if (rangeL i (j - i).toNat).length ≤ SZ then R.ok (Sl.ow (rangeL i (j - i).toNat)) ρ else .no) = _
  rw [if_pos this]
theorem ev_cnt : mCnt oa m (s :: l) = if okV (s :: l) oa then (oa.run (s :: l)).bind fun p ρ1 => if isL (p.get ρ1) then (m ρ1).bind fun y ρ2 => mk (get1 (fun x => cntD x y.d) ρ2 p) ρ2 else .no else .no := rfl
theorem ev_isL {xs : List D} : isL (some (.lst xs)) = true := rfl
end
end Mi

namespace Mi
/-! ### rows of runs (true: left) -/
abbrev Runs := List (Bool × Int)
def amt : Runs → Int
  | [] => 0
  | r :: l => r.2 + amt l
def amtR : Runs → Int
  | [] => 0
  | r :: l => (if r.1 then 0 else r.2) + amtR l
def amtL : Runs → Int
  | [] => 0
  | r :: l => (if r.1 then r.2 else 0) + amtL l
/-- no run is negative -/
def Nn : Runs → Prop
  | [] => True
  | r :: l => 0 ≤ r.2 ∧ Nn l
/-- each run has something -/
def Ps : Runs → Prop
  | [] => True
  | r :: l => 1 ≤ r.2 ∧ Ps l
/-- sides alternate -/
def Alt : Runs → Prop
  | [] => True
  | [_] => True
  | a :: b :: l => a.1 ≠ b.1 ∧ Alt (b :: l)
/-- twice the sum of the places of the first k left ones, behind o places -/
def S2 : Int → Runs → Int → Int
  | _, [], _ => 0
  | o, (q, c) :: l, k => if q then (if k < c then k * (2 * o + k + 1) else c * (2 * o + c + 1) + S2 (o + c) l (k - c)) else S2 (o + c) l k
theorem amt_append : ∀ (a b : Runs), amt (a ++ b) = amt a + amt b
  | [], b => by simp [amt]
  | r :: a, b => by
    simp only [List.cons_append, amt, amt_append a b]
    omega
theorem amtR_append : ∀ (a b : Runs), amtR (a ++ b) = amtR a + amtR b
  | [], b => by simp [amtR]
  | r :: a, b => by
    simp only [List.cons_append, amtR, amtR_append a b]
    omega
theorem nn_append : ∀ {a b : Runs}, Nn (a ++ b) ↔ Nn a ∧ Nn b
  | [], b => by simp [Nn]
  | r :: a, b => by
    simp only [List.cons_append, Nn, nn_append (a := a)]
    exact ⟨fun ⟨h1, h2, h3⟩ => ⟨⟨h1, h2⟩, h3⟩, fun ⟨⟨h1, h2⟩, h3⟩ => ⟨h1, h2, h3⟩⟩
theorem S2_l {c : Int} {l : Runs} {o k : Int} : S2 o ((true, c) :: l) k = if k < c then k * (2 * o + k + 1) else c * (2 * o + c + 1) + S2 (o + c) l (k - c) := rfl
theorem S2_r {c : Int} {l : Runs} {o k : Int} : S2 o ((false, c) :: l) k = S2 (o + c) l k := rfl
/-- a run of nothing changes nothing -/
theorem S2_zero {q : Bool} {l : Runs} {o k : Int} (hk : 0 ≤ k) : S2 o ((q, 0) :: l) k = S2 o l k := by
  cases q with
  | false => rw [S2_r, Int.add_zero]
  | true => rw [S2_l, if_neg (by omega), Int.sub_zero, Int.zero_mul, Int.zero_add, Int.add_zero]
/-- two runs of one side are one -/
theorem S2_merge {q : Bool} {n c : Int} {l : Runs} {o k : Int} (hn : 0 ≤ n) (hc : 0 ≤ c) : S2 o ((q, n) :: (q, c) :: l) k = S2 o ((q, n + c) :: l) k := by
  cases q with
  | false => rw [S2_r, S2_r, S2_r, Int.add_assoc]
  | true =>
    rw [S2_l, S2_l, S2_l]
    by_cases h1 : k < n
    · rw [if_pos h1, if_pos (by omega)]
    · rw [if_neg h1]
      by_cases h2 : k - n < c
      · rw [if_pos h2, if_pos (by omega)]
        grind
      · rw [if_neg h2, if_neg (by omega)]
        have e1 : o + n + c = o + (n + c) := by omega
        have e2 : k - n - c = k - (n + c) := by omega
        rw [e1, e2]
        grind
/-- what stands ahead alike -/
theorem S2_front : ∀ {a l l' : Runs} , (∀ o k : Int, 0 ≤ k → S2 o l k = S2 o l' k) → Nn a → ∀ {o k : Int}, 0 ≤ k → S2 o (a ++ l) k = S2 o (a ++ l') k
  | [], l, l', h, _, o, k, hk => h o k hk
  | (q, c) :: a, l, l', h, hn, o, k, hk => by
    obtain ⟨h1, h2⟩ := hn
    simp only [List.cons_append, S2]
    cases q with
    | false =>
      simp only [Bool.false_eq_true, if_false]
      exact S2_front h h2 hk
    | true =>
      simp only [if_true]
      by_cases hc : k < c
      · rw [if_pos hc, if_pos hc]
      · rw [if_neg hc, if_neg hc, S2_front h h2 (by omega)]
/-! ### joined -/
def altS : List Bool → Prop
  | [] => True
  | [_] => True
  | a :: b :: l => a ≠ b ∧ altS (b :: l)
theorem alt_snoc : ∀ {a : List Bool} {p q : Bool}, altS (a ++ [p]) → p ≠ q → altS (a ++ [p, q])
  | [], p, q, _, h => ⟨h, trivial⟩
  | [x], p, q, h1, h => ⟨h1.1, h, trivial⟩
  | x :: y :: a, p, q, h1, h => ⟨h1.1, alt_snoc (a := y :: a) h1.2 h⟩
def jstep (fs : Runs) (r : Bool × Int) : Runs := if 0 < r.2 then (match fs.getLast? with
  | some pn => if pn.1 == r.1 then fs.dropLast ++ [(r.1, pn.2 + r.2)] else fs ++ [r]
  | none => [r]) else fs
def jn (fs : Runs) (l : Runs) : Runs := l.foldl jstep fs
theorem jstep_0 {fs : Runs} {q : Bool} {c : Int} (h : ¬ 0 < c) : jstep fs (q, c) = fs := if_neg h
theorem jstep_nil {q : Bool} {c : Int} (h : 0 < c) : jstep [] (q, c) = [(q, c)] := if_pos h
theorem jstep_eq {gs : Runs} {q : Bool} {n c : Int} (h : 0 < c) : jstep (gs ++ [(q, n)]) (q, c) = gs ++ [(q, n + c)] := by
  unfold jstep
  rw [if_pos h, List.getLast?_append]
  simp
theorem jstep_ne {gs : Runs} {p q : Bool} {n c : Int} (h : 0 < c) (hp : (p == q) = false) : jstep (gs ++ [(p, n)]) (q, c) = gs ++ [(p, n)] ++ [(q, c)] := by
  unfold jstep
  rw [if_pos h, List.getLast?_append]
  simp [hp]
theorem ps_nn : ∀ {l : Runs}, Ps l → Nn l
  | [], _ => trivial
  | r :: l, h => ⟨by have := h.1; omega, ps_nn h.2⟩
theorem ps_append : ∀ {a b : Runs}, Ps (a ++ b) ↔ Ps a ∧ Ps b
  | [], b => by simp [Ps]
  | r :: a, b => by
    simp only [List.cons_append, Ps, ps_append (a := a)]
    exact ⟨fun ⟨h1, h2, h3⟩ => ⟨⟨h1, h2⟩, h3⟩, fun ⟨⟨h1, h2⟩, h3⟩ => ⟨h1, h2, h3⟩⟩
structure Good (fs : Runs) : Prop where
  ps : Ps fs
  al : altS (fs.map (·.1))
theorem jstep_good {fs : Runs} {r : Bool × Int} (h : Good fs) : Good (jstep fs r) := by
  obtain ⟨q, c⟩ := r
  by_cases hc : 0 < c
  · rcases List.eq_nil_or_concat fs with rfl | ⟨gs, ⟨p, n⟩, rfl⟩
    · rw [jstep_nil hc]
      exact ⟨⟨by show (1 : Int) ≤ c; omega, trivial⟩, trivial⟩
    · rw [List.concat_eq_append] at h ⊢
      obtain ⟨h1, h2⟩ := h
      have h1' := ps_append.mp h1
      have hn : 1 ≤ n := h1'.2.1
      rw [List.map_append] at h2
      cases hpq : p == q with
      | true =>
        have e : p = q := by simpa using hpq
        subst e
        rw [jstep_eq hc]
        refine ⟨ps_append.mpr ⟨h1'.1, by show (1 : Int) ≤ n + c; omega, trivial⟩, ?_⟩
        rw [List.map_append]
        exact h2
      | false =>
        rw [jstep_ne hc hpq]
        have ne : p ≠ q := by simpa using hpq
        refine ⟨ps_append.mpr ⟨h1, by show (1 : Int) ≤ c; omega, trivial⟩, ?_⟩
        rw [List.map_append, List.map_append, List.append_assoc]
        exact alt_snoc h2 ne
  · rw [jstep_0 hc]
    exact h
theorem jstep_amt {fs : Runs} {q : Bool} {c : Int} (hc : 0 ≤ c) : amt (jstep fs (q, c)) = amt fs + c ∧ amtR (jstep fs (q, c)) = amtR fs + (if q then 0 else c) := by
  by_cases h : 0 < c
  · rcases List.eq_nil_or_concat fs with rfl | ⟨gs, ⟨p, n⟩, rfl⟩
    · rw [jstep_nil h]
      simp [amt, amtR]
    · rw [List.concat_eq_append]
      cases hpq : p == q with
      | true =>
        have e : p = q := by simpa using hpq
        subst e
        rw [jstep_eq h]
        simp only [amt_append, amtR_append, amt, amtR]
        cases p <;> simp <;> omega
      | false =>
        rw [jstep_ne h hpq]
        simp only [amt_append, amtR_append, amt, amtR]
        constructor <;> omega
  · rw [jstep_0 h]
    have : c = 0 := by omega
    subst this
    cases q <;> simp
theorem jstep_S2 {fs : Runs} {q : Bool} {c : Int} (hf : Ps fs) (hc : 0 ≤ c) {l : Runs} {o k : Int} (hk : 0 ≤ k) : S2 o (jstep fs (q, c) ++ l) k = S2 o (fs ++ (q, c) :: l) k := by
  by_cases h : 0 < c
  · rcases List.eq_nil_or_concat fs with rfl | ⟨gs, ⟨p, n⟩, rfl⟩
    · rw [jstep_nil h]
      rfl
    · rw [List.concat_eq_append] at hf ⊢
      have h1' := ps_append.mp hf
      cases hpq : p == q with
      | true =>
        have e : p = q := by simpa using hpq
        subst e
        rw [jstep_eq h, List.append_assoc, List.append_assoc]
        exact S2_front (fun o k _ => (S2_merge (by have := h1'.2.1; omega) hc).symm) (ps_nn h1'.1) hk
      | false =>
        rw [jstep_ne h hpq, List.append_assoc, List.append_assoc, List.append_assoc]
        rfl
  · rw [jstep_0 h]
    have : c = 0 := by omega
    subst this
    exact S2_front (fun o k hk => (S2_zero hk).symm) (ps_nn hf) hk
theorem jn_good : ∀ {l fs : Runs}, Good fs → Good (jn fs l)
  | [], fs, h => h
  | r :: l, fs, h => jn_good (l := l) (jstep_good h)
theorem jn_amt : ∀ {l fs : Runs}, Nn l → amt (jn fs l) = amt fs + amt l ∧ amtR (jn fs l) = amtR fs + amtR l
  | [], fs, _ => by simp [jn, amt, amtR]
  | (q, c) :: l, fs, h => by
    obtain ⟨h1, h2⟩ := jstep_amt (fs := fs) (q := q) h.1
    obtain ⟨h3, h4⟩ := jn_amt (l := l) (fs := jstep fs (q, c)) h.2
    have e : jn fs ((q, c) :: l) = jn (jstep fs (q, c)) l := rfl
    have h1 : amt (jstep fs (q, c)) = amt fs + c := h1
    rw [e, h3, h4, h1, h2]
    simp only [amt, amtR]
    constructor <;> omega
theorem jn_S2 : ∀ {l fs : Runs}, Good fs → Nn l → ∀ {o k : Int}, 0 ≤ k → S2 o (jn fs l) k = S2 o (fs ++ l) k
  | [], fs, _, _, o, k, _ => by rw [List.append_nil]; rfl
  | (q, c) :: l, fs, h, hn, o, k, hk => by
    have e : jn fs ((q, c) :: l) = jn (jstep fs (q, c)) l := rfl
    rw [e, jn_S2 (jstep_good h) hn.2 hk]
    exact jstep_S2 h.ps hn.1 hk
theorem good_nil : Good [] := ⟨trivial, trivial⟩
/-! ### the other end -/
def flipR (r : Bool × Int) : Bool × Int := (!r.1, r.2)
def mir (l : Runs) : Runs := l.reverse.map flipR
end Mi

namespace Mi
open PySem PySem.Spec PyProof.Rows L2
/-! ### rows of runs: places, sums of places -/
def adj : Runs → List D
  | a :: b :: l => .tup [runD a, runD b] :: adj (b :: l)
  | _ => []
theorem zip_adj : ∀ l : Runs, zipD (l.map runD) ((l.map runD).drop 1) = adj l
  | [] => rfl
  | [a] => rfl
  | a :: b :: l => by
    have ih := zip_adj (b :: l)
    show D.tup [runD a, runD b] :: zipD ((b :: l).map runD) (((b :: l).map runD).drop 1) = _
    rw [ih]
    rfl
theorem all_trues : ∀ n : Nat, allD [.lst (List.replicate n (.bl true))] = some (.fz (.bl true)) := by
  have h : ∀ n : Nat, boolsOf (List.replicate n (.bl true)) = some (List.replicate n true) := by
    intro n
    induction n with
    | zero => rfl
    | succ n ih =>
      show (boolsOf (List.replicate n (.bl true))).map (fun l => true :: l) = _
      rw [ih]
      rfl
  intro n
  show (boolsOf (List.replicate n (.bl true))).map (fun l => okB (l.all id)) = _
  rw [h]
  have : (List.replicate n true).all id = true := by
    rw [List.all_eq_true]
    intro x hx
    rw [List.eq_of_mem_replicate hx]
    rfl
  show some (okB ((List.replicate n true).all id)) = _
  rw [this]
  rfl
theorem amt_sum : ∀ l : Runs, (l.map (·.2)).sum = amt l
  | [] => rfl
  | r :: l => by
    have := amt_sum l
    simp only [List.map_cons, List.sum_cons, amt]
    omega
theorem amtR_sum : ∀ l : Runs, ((l.filter fun r => !r.1).map (·.2)).sum = amtR l
  | [] => rfl
  | (q, c) :: l => by
    have ih := amtR_sum l
    cases q with
    | true => simpa [List.filter_cons, amtR] using ih
    | false => simp only [List.filter_cons, Bool.not_false, if_true, List.map_cons, List.sum_cons, amtR, Bool.false_eq_true, if_false]; omega
theorem amt_nn : ∀ {l : Runs}, Ps l → 0 ≤ amt l ∧ (l.length : Int) ≤ amt l
  | [], _ => ⟨Int.le_refl _, Int.le_refl _⟩
  | r :: l, h => by
    have := amt_nn h.2
    have := h.1
    simp only [amt, List.length_cons]
    omega
theorem amtR_le : ∀ {l : Runs}, Ps l → 0 ≤ amtR l ∧ amtR l ≤ amt l
  | [], _ => ⟨Int.le_refl _, Int.le_refl _⟩
  | r :: l, h => by
    have := amtR_le h.2
    have := h.1
    simp only [amt, amtR]
    split <;> omega
/-- first, last and side of each run -/
def bnds : Int → Runs → List (Int × Int × Bool)
  | _, [] => []
  | o, (q, c) :: l => (o + 1, o + c, q) :: bnds (o + c) l
def sideAt (p : Int) : Int → Runs → Option Bool
  | _, [] => none
  | o, (q, c) :: l => if p ≤ o + c then some q else sideAt p (o + c) l
def flt (p : Int) : Int → Runs → List Bool
  | _, [] => []
  | o, (q, c) :: l => if o + 1 ≤ p ∧ p ≤ o + c then q :: flt p (o + c) l else flt p (o + c) l
theorem flt_low (p : Int) : ∀ {l : Runs} {o : Int}, Ps l → p ≤ o → flt p o l = []
  | [], _, _, _ => rfl
  | (q, c) :: l, o, h, hp => by
    have h1 : 1 ≤ c := h.1
    unfold flt
    rw [if_neg (by omega)]
    exact flt_low p h.2 (by omega)
theorem flt_high (p : Int) : ∀ {l : Runs} {o : Int}, Ps l → o + amt l < p → flt p o l = []
  | [], _, _, _ => rfl
  | (q, c) :: l, o, h, hp => by
    have h1 : 1 ≤ c := h.1
    have := amt_nn h.2
    have hp : o + (c + amt l) < p := hp
    unfold flt
    rw [if_neg (by omega)]
    exact flt_high p h.2 (by omega)
theorem flt_at (p : Int) : ∀ {l : Runs} {o : Int}, Ps l → o < p → p ≤ o + amt l → ∃ q, sideAt p o l = some q ∧ flt p o l = [q]
  | [], o, _, h1, h2 => by simp only [amt] at h2; omega
  | (q, c) :: l, o, h, h1, h2 => by
    have h3 : 1 ≤ c := h.1
    have h2 : p ≤ o + (c + amt l) := h2
    unfold flt sideAt
    by_cases hc : p ≤ o + c
    · rw [if_pos hc, if_pos (by omega), flt_low p h.2 hc]
      exact ⟨q, rfl, rfl⟩
    · rw [if_neg hc, if_neg (by omega)]
      exact flt_at p h.2 (by omega) (by omega)
/-- the sum of the places that point right, behind o places -/
def sumR : Int → Runs → Int
  | _, [] => 0
  | o, (q, c) :: l => (if q then 0 else c * (2 * o + c + 1) / 2) + sumR (o + c) l
def SR2 : Int → Runs → Int
  | _, [] => 0
  | o, (q, c) :: l => (if q then 0 else c * (2 * o + c + 1)) + SR2 (o + c) l
theorem tri_even (o c : Int) : ∃ k, c * (2 * o + c + 1) = 2 * k := by
  rcases (show c % 2 = 0 ∨ c % 2 = 1 by omega) with h | h
  · obtain ⟨k, hk⟩ : ∃ k, c = 2 * k := ⟨c / 2, by omega⟩
    exact ⟨k * (2 * o + c + 1), by subst hk; rw [Int.mul_assoc]⟩
  · obtain ⟨k, hk⟩ : ∃ k, c = 2 * k + 1 := ⟨c / 2, by omega⟩
    refine ⟨c * (o + k + 1), ?_⟩
    subst hk
    have : 2 * o + (2 * k + 1) + 1 = 2 * (o + k + 1) := by omega
    rw [this, ← Int.mul_assoc, Int.mul_comm _ 2, Int.mul_assoc]
theorem sumR_2 : ∀ (l : Runs) (o : Int), 2 * sumR o l = SR2 o l
  | [], _ => rfl
  | (q, c) :: l, o => by
    have ih := sumR_2 l (o + c)
    obtain ⟨k, hk⟩ := tri_even o c
    unfold sumR SR2
    cases q with
    | true => simp only [if_true]; omega
    | false =>
      simp only [Bool.false_eq_true, if_false]
      omega
theorem SR2_merge {q : Bool} {n c : Int} {l : Runs} {o : Int} : SR2 o ((q, n) :: (q, c) :: l) = SR2 o ((q, n + c) :: l) := by
  have e1 : o + n + c = o + (n + c) := by omega
  cases q with
  | true => simp only [SR2, if_true, e1]; omega
  | false =>
    simp only [SR2, Bool.false_eq_true, if_false, e1]
    grind
theorem SR2_front : ∀ {a l l' : Runs}, (∀ o : Int, SR2 o l = SR2 o l') → ∀ {o : Int}, SR2 o (a ++ l) = SR2 o (a ++ l')
  | [], _, _, h, o => h o
  | (q, c) :: a, l, l', h, o => by
    simp only [List.cons_append, SR2]
    rw [SR2_front (a := a) h]
theorem SR2_jstep {fs : Runs} {q : Bool} {c : Int} (hc : 0 ≤ c) {l : Runs} {o : Int} : SR2 o (jstep fs (q, c) ++ l) = SR2 o (fs ++ (q, c) :: l) := by
  by_cases h : 0 < c
  · rcases List.eq_nil_or_concat fs with rfl | ⟨gs, ⟨p, n⟩, rfl⟩
    · rw [jstep_nil h]
      rfl
    · rw [List.concat_eq_append]
      cases hpq : p == q with
      | true =>
        have e : p = q := by simpa using hpq
        subst e
        rw [jstep_eq h, List.append_assoc, List.append_assoc]
        exact SR2_front fun o => SR2_merge.symm
      | false =>
        rw [jstep_ne h hpq, List.append_assoc, List.append_assoc, List.append_assoc]
        rfl
  · rw [jstep_0 h]
    have : c = 0 := by omega
    subst this
    refine SR2_front fun o => ?_
    cases q <;> simp [SR2]
theorem SR2_jn : ∀ {l fs : Runs}, Nn l → ∀ {o : Int}, SR2 o (jn fs l) = SR2 o (fs ++ l)
  | [], fs, _, o => by rw [List.append_nil]; rfl
  | (q, c) :: l, fs, h, o => by
    have e : jn fs ((q, c) :: l) = jn (jstep fs (q, c)) l := rfl
    rw [e, SR2_jn h.2]
    exact SR2_jstep h.1
theorem sideAt_merge {p : Int} {q : Bool} {n c : Int} {l : Runs} {o : Int} (hn : 0 ≤ n) (hc : 0 ≤ c) : sideAt p o ((q, n) :: (q, c) :: l) = sideAt p o ((q, n + c) :: l) := by
  have e1 : o + n + c = o + (n + c) := by omega
  simp only [sideAt, e1]
  by_cases h1 : p ≤ o + n
  · rw [if_pos h1, if_pos (by omega)]
  · rw [if_neg h1]
theorem sideAt_front {p : Int} : ∀ {a l l' : Runs}, Ps a → (∀ o : Int, o < p → sideAt p o l = sideAt p o l') → ∀ {o : Int}, o < p → sideAt p o (a ++ l) = sideAt p o (a ++ l')
  | [], _, _, _, h, o, ho => h o ho
  | (q, c) :: a, l, l', hp, h, o, ho => by
    simp only [List.cons_append, sideAt]
    by_cases h1 : p ≤ o + c
    · rw [if_pos h1, if_pos h1]
    · rw [if_neg h1, if_neg h1]
      exact sideAt_front hp.2 h (by omega)
theorem sideAt_jstep {p : Int} {fs : Runs} {q : Bool} {c : Int} (hf : Ps fs) (hc : 0 ≤ c) {l : Runs} {o : Int} (ho : o < p) : sideAt p o (jstep fs (q, c) ++ l) = sideAt p o (fs ++ (q, c) :: l) := by
  by_cases h : 0 < c
  · rcases List.eq_nil_or_concat fs with rfl | ⟨gs, ⟨p', n⟩, rfl⟩
    · rw [jstep_nil h]
      rfl
    · rw [List.concat_eq_append] at hf ⊢
      have hf' := ps_append.mp hf
      have hn : 1 ≤ n := hf'.2.1
      cases hpq : p' == q with
      | true =>
        have e : p' = q := by simpa using hpq
        subst e
        rw [jstep_eq h, List.append_assoc, List.append_assoc]
        exact sideAt_front hf'.1 (fun o _ => (sideAt_merge (by omega) hc).symm) ho
      | false =>
        rw [jstep_ne h hpq, List.append_assoc, List.append_assoc, List.append_assoc]
        rfl
  · rw [jstep_0 h]
    have : c = 0 := by omega
    subst this
    refine sideAt_front hf (fun o ho => ?_) ho
    unfold sideAt
    rw [if_neg (by omega), Int.add_zero]
    cases l <;> rfl
theorem sideAt_jn {p : Int} : ∀ {l fs : Runs}, Good fs → Nn l → ∀ {o : Int}, o < p → sideAt p o (jn fs l) = sideAt p o (fs ++ l)
  | [], fs, _, _, o, _ => by rw [List.append_nil]; rfl
  | (q, c) :: l, fs, hg, h, o, ho => by
    have e : jn fs ((q, c) :: l) = jn (jstep fs (q, c)) l := rfl
    rw [e, sideAt_jn (jstep_good hg) h.2 ho]
    exact sideAt_jstep hg.ps h.1 ho
/-! ### a row of sides, packed -/
def ones (s : List Bool) : Runs := s.map fun q => (q, 1)
def pk (s : List Bool) : Runs := jn [] (ones s)
theorem ones_nn : ∀ s : List Bool, Nn (ones s)
  | [] => trivial
  | _ :: s => ⟨Int.zero_le_ofNat 1, ones_nn s⟩
theorem ones_amt : ∀ s : List Bool, amt (ones s) = s.length
  | [] => rfl
  | _ :: s => by
    have := ones_amt s
    show 1 + amt (ones s) = ((s.length + 1 : Nat) : Int)
    omega
theorem pk_good (s : List Bool) : Good (pk s) := jn_good good_nil
theorem pk_amt (s : List Bool) : amt (pk s) = s.length := by
  have := (jn_amt (fs := []) (ones_nn s)).1
  rw [ones_amt] at this
  have e : amt ([] : Runs) = 0 := rfl
  rw [e, Int.zero_add] at this
  exact this
theorem ones_side : ∀ (s : List Bool) (k : Nat) (o : Int), sideAt (o + k + 1) o (ones s) = s[k]?
  | [], k, o => by simp [ones, sideAt]
  | q :: s, 0, o => by
    show (if o + (0 : Nat) + 1 ≤ o + 1 then some q else _) = _
    rw [if_pos (by omega)]
    rfl
  | q :: s, k + 1, o => by
    show (if o + (k + 1 : Nat) + 1 ≤ o + 1 then some q else sideAt (o + (k + 1 : Nat) + 1) (o + 1) (ones s)) = _
    rw [if_neg (by omega)]
    have e : o + (k + 1 : Nat) + 1 = (o + 1) + (k : Nat) + 1 := by omega
    rw [e, ones_side s k (o + 1)]
    rfl
theorem pk_side (s : List Bool) (k : Nat) : sideAt (k + 1) 0 (pk s) = s[k]? := by
  have h := sideAt_jn (p := (k : Int) + 1) good_nil (ones_nn s) (o := 0) (by omega)
  rw [List.nil_append] at h
  have h2 := ones_side s k 0
  rw [Int.zero_add] at h2
  exact h.trans h2
/-- the places that point right -/
def spotsR : Nat → List Bool → List Int
  | _, [] => []
  | k, q :: s => if q then spotsR (k + 1) s else ((k : Int) + 1) :: spotsR (k + 1) s
theorem spotsR_l (k : Nat) (s : List Bool) : spotsR k (true :: s) = spotsR (k + 1) s := rfl
theorem spotsR_r (k : Nat) (s : List Bool) : spotsR k (false :: s) = ((k : Int) + 1) :: spotsR (k + 1) s := rfl
theorem ones_SR : ∀ (s : List Bool) (k : Nat), SR2 k (ones s) = 2 * (spotsR k s).sum
  | [], _ => rfl
  | q :: s, k => by
    have ih := ones_SR s (k + 1)
    have e : (k : Int) + 1 = ((k + 1 : Nat) : Int) := by omega
    show (if q then 0 else 1 * (2 * (k : Int) + 1 + 1)) + SR2 ((k : Int) + 1) (ones s) = _
    rw [e, ih]
    cases q with
    | true => rw [spotsR_l]; simp
    | false => rw [spotsR_r]; simp only [Bool.false_eq_true, if_false, List.sum_cons]; omega
theorem pk_sumR (s : List Bool) : sumR 0 (pk s) = (spotsR 0 s).sum := by
  have h := SR2_jn (fs := []) (ones_nn s) (o := 0)
  have h2 := ones_SR s 0
  have h3 := sumR_2 (pk s) 0
  have h4 : SR2 0 (pk s) = SR2 0 ([] ++ ones s) := h
  rw [List.nil_append] at h4
  have h5 : SR2 0 (ones s) = 2 * (spotsR 0 s).sum := h2
  omega
theorem ones_R : ∀ (s : List Bool) (k : Nat), amtR (ones s) = (spotsR k s).length
  | [], _ => rfl
  | q :: s, k => by
    have ih := ones_R s (k + 1)
    show (if q then 0 else 1) + amtR (ones s) = _
    cases q with
    | true => rw [spotsR_l]; simpa using ih
    | false => rw [spotsR_r]; simp only [Bool.false_eq_true, if_false, List.length_cons]; omega
theorem pk_R (s : List Bool) : amtR (pk s) = (spotsR 0 s).length := by
  have h := (jn_amt (fs := []) (ones_nn s)).2
  rw [ones_R s 0] at h
  have e : amtR ([] : Runs) = 0 := rfl
  rw [e, Int.zero_add] at h
  exact h
theorem pk_ne {s : List Bool} (h : s ≠ []) : pk s ≠ [] := by
  intro e
  have h1 := pk_amt s
  rw [e] at h1
  cases s with
  | nil => exact h rfl
  | cons q s => simp [amt] at h1; omega
end Mi

namespace Mi
open PySem PySem.Spec PyProof.Rows L2
/-! ### what repr can show -/
structure Shw (b : Nat) (d : D) : Prop where
  lv : d.py.leavesShort 200 = true
  sw : d.py.showable = true
  bk : d.py.bulk ≤ b
theorem shw_int {b : Nat} {i : Int} (h : i.natAbs < 10 ^ 190) : Shw b (.int i) := by
  refine ⟨?_, ?_, Nat.zero_le _⟩
  · show decide ((PyData.shown (.int i)).length ≤ 200) = true
    apply decide_eq_true
    have e := int_text_length_le10 (k := 190) (by decide) h
    have e2 : (PyData.shown (.int i)).length = (toString i).length := by
      show (Str.ofString (toString i)).length = _
      rw [PySem.ofString_length]
    omega
  · show decide (i.natAbs.log2 < 1920) = true
    apply decide_eq_true
    have h2 : i.natAbs < 2 ^ 1920 := Nat.lt_of_lt_of_le h (by decide +kernel)
    by_cases h0 : i.natAbs = 0
    · rw [h0]; decide
    · exact (Nat.log2_lt h0).mpr h2
theorem shw_side {q : Bool} : Shw 1 (.str (sideS q)) := by
  cases q <;> exact ⟨by decide +kernel, rfl, by decide +kernel⟩
theorem shw_all {b : Nat} : ∀ {xs : List D}, (∀ x ∈ xs, Shw b x) → PyData.leavesShortAll 200 (pyL xs) = true ∧ PyData.showableAll (pyL xs) = true ∧ PyData.bulkAll (pyL xs) ≤ (b + 1) * xs.length
  | [], _ => ⟨rfl, rfl, Nat.zero_le _⟩
  | x :: xs, h => by
    have h1 := h x (List.mem_cons_self ..)
    obtain ⟨h2, h3, h4⟩ := shw_all fun y hy => h y (List.mem_cons_of_mem _ hy)
    refine ⟨?_, ?_, ?_⟩
    · show (PyData.leavesShort 200 x.py && PyData.leavesShortAll 200 (pyL xs)) = true
      rw [h1.lv, h2]; rfl
    · show (PyData.showable x.py && PyData.showableAll (pyL xs)) = true
      rw [h1.sw, h3]; rfl
    · show PyData.bulk x.py + 1 + PyData.bulkAll (pyL xs) ≤ _
      have := h1.bk
      rw [List.length_cons, Nat.mul_add, Nat.mul_one]
      omega
theorem shw_tup {b c : Nat} {xs : List D} (h : ∀ x ∈ xs, Shw b x) (hc : (b + 1) * xs.length ≤ c) : Shw c (.tup xs) :=
  ⟨(shw_all h).1, (shw_all h).2.1, Nat.le_trans (shw_all h).2.2 hc⟩
theorem shw_lst {b c : Nat} {xs : List D} (h : ∀ x ∈ xs, Shw b x) (hc : (b + 1) * xs.length ≤ c) : Shw c (.lst xs) :=
  ⟨(shw_all h).1, (shw_all h).2.1, Nat.le_trans (shw_all h).2.2 hc⟩
theorem repr_ok {b k : Nat} {d : D} (h : Shw b d) (f : Flt k d) (hq : d.isSeq = true) (hb : b ≤ 80000) (hk : k ≤ 64) : reprD [d] = some (.fz (.str d.py.shown)) := by
  refine ev_reprD hq (sh_flt f hk) h.sw ?_
  have h1 := PyData.shown_le_bulk 200 (by decide) d.py h.lv
  have h2 := h.bk
  rw [sizeLine_eq]
  have h3 : (200 + 2) * d.py.bulk ≤ 202 * b := Nat.mul_le_mul_left _ h2
  omega
theorem shw_run {r : Bool × Int} (h : r.2.natAbs < 10 ^ 190) : Shw 4 (runD r) := by
  refine shw_tup (b := 1) (fun x hx => ?_) (Nat.le_refl _)
  simp only [List.mem_cons, List.not_mem_nil, or_false] at hx
  rcases hx with rfl | rfl
  · exact shw_side
  · exact shw_int h
theorem repr_line {l : Runs} (h : ∀ r ∈ l, r.2.natAbs < 10 ^ 190) (hl : l.length < 1000) : reprD [.tup (l.map runD)] = some (.fz (.str (D.tup (l.map runD)).py.shown)) := by
  refine repr_ok (b := 5 * l.length) (k := 2) (shw_tup (b := 4) (fun x hx => ?_) (by rw [List.length_map]; exact Nat.le_refl _)) (flt_tup fun x hx => ?_) rfl (by omega) (by decide)
  · obtain ⟨r, hr, rfl⟩ := List.mem_map.mp hx
    exact shw_run (h r hr)
  · obtain ⟨r, _, rfl⟩ := List.mem_map.mp hx
    exact flt_run r
/-! ### rows of ints, rows of sides: equal ones -/
theorem sh_ints (l : List Int) : D.sh (.lst (l.map .int)) = true := by
  refine sh_flt (k := 1) (flt_lst fun x hx => ?_) (by decide)
  obtain ⟨i, _, rfl⟩ := List.mem_map.mp hx
  exact flt_int
theorem eq_ints : ∀ (l : List Int), D.eq (.lst (l.map .int)) (.lst (l.map .int)) = true
  | [] => rfl
  | x :: xs => by
    have ih := eq_ints xs
    have e : D.eq (.lst ((x :: xs).map .int)) (.lst ((x :: xs).map .int)) = (D.eq (.int x) (.int x) && D.eq (.lst (xs.map .int)) (.lst (xs.map .int))) := rfl
    have e2 : D.eq (.int x) (.int x) = true := by
      show (x == x) = true
      exact beq_self_eq_true x
    rw [e, ih, e2]
    rfl
theorem neD_ints (l : List Int) : neD (.lst (l.map .int)) (.lst (l.map .int)) = some (.fz (.bl false)) := by
  unfold neD
  rw [sh_ints, eq_ints]
  rfl
theorem neD_3 (a b c : Int) : neD (.lst [.int a, .int b, .int c]) (.lst [.int a, .int b, .int c]) = some (.fz (.bl false)) := neD_ints [a, b, c]
def sdD (q : Bool) : D := .str (sideS q)
theorem sh_sds (l : List Bool) : D.sh (.lst (l.map sdD)) = true := by
  refine sh_flt (k := 1) (flt_lst fun x hx => ?_) (by decide)
  obtain ⟨q, _, rfl⟩ := List.mem_map.mp hx
  exact flt_str (by cases q <;> decide +kernel)
theorem eq_sds : ∀ (l s : List Bool), D.eq (.lst (l.map sdD)) (.lst (s.map sdD)) = decide (l = s)
  | [], [] => rfl
  | [], _ :: _ => rfl
  | _ :: _, [] => rfl
  | x :: xs, y :: ys => by
    have ih := eq_sds xs ys
    have e : D.eq (.lst ((x :: xs).map sdD)) (.lst ((y :: ys).map sdD)) = (D.eq (sdD x) (sdD y) && D.eq (.lst (xs.map sdD)) (.lst (ys.map sdD))) := rfl
    have e2 : D.eq (sdD x) (sdD y) = (x == y) := by cases x <;> cases y <;> decide +kernel
    rw [e, ih, e2]
    by_cases h : x = y <;> by_cases h2 : xs = ys <;> simp [h, h2]
theorem eqD_sds (l s : List Bool) : eqD (.lst (l.map sdD)) (.lst (s.map sdD)) = some (.fz (.bl (decide (l = s)))) := by
  unfold eqD
  rw [sh_sds, sh_sds, eq_sds]
  rfl
theorem ix_LR (t : Int) : ixD (.str "LR") (.int (t % 2)) = some (.fz (.str (sideS (decide (t % 2 = 0))))) := by
  rcases (show t % 2 = 0 ∨ t % 2 = 1 by omega) with h | h
  · rw [h]; kernel_rfl
  · rw [h]; kernel_rfl
/-- sides in turn, from a place of parity t -/
def altB : Int → Nat → List Bool
  | _, 0 => []
  | t, n + 1 => decide (t % 2 = 0) :: altB (t + 1) n
theorem altB_alt : ∀ (n : Nat) (t : Int), altS (altB t n)
  | 0, _ => trivial
  | 1, _ => trivial
  | n + 2, t => by
    have ih := altB_alt (n + 1) (t + 1)
    refine ⟨?_, ih⟩
    intro h
    rw [decide_eq_decide] at h
    omega
theorem pick3i (x y z r : Int) (h1 : 0 ≤ r) (h2 : r < 3) : ∃ w, ixD (.lst [.int x, .int y, .int z]) (.int r) = some (.fz (.int w)) ∧ (w = x ∨ w = y ∨ w = z) := by
  rcases (show r = 0 ∨ r = 1 ∨ r = 2 by omega) with rfl | rfl | rfl
  · exact ⟨x, rfl, .inl rfl⟩
  · exact ⟨y, rfl, .inr (.inl rfl)⟩
  · exact ⟨z, rfl, .inr (.inr rfl)⟩
theorem pick2i (x y r : Int) (h1 : 0 ≤ r) (h2 : r < 2) : ∃ w, ixD (.lst [.int x, .int y]) (.int r) = some (.fz (.int w)) ∧ (w = x ∨ w = y) := by
  rcases (show r = 0 ∨ r = 1 by omega) with rfl | rfl
  · exact ⟨x, rfl, .inl rfl⟩
  · exact ⟨y, rfl, .inr rfl⟩
theorem pick4i (x y z u r : Int) (h1 : 0 ≤ r) (h2 : r < 4) : ∃ w, ixD (.lst [.int x, .int y, .int z, .int u]) (.int r) = some (.fz (.int w)) ∧ (w = x ∨ w = y ∨ w = z ∨ w = u) := by
  rcases (show r = 0 ∨ r = 1 ∨ r = 2 ∨ r = 3 by omega) with rfl | rfl | rfl | rfl
  · exact ⟨x, rfl, .inl rfl⟩
  · exact ⟨y, rfl, .inr (.inl rfl)⟩
  · exact ⟨z, rfl, .inr (.inr (.inl rfl))⟩
  · exact ⟨u, rfl, .inr (.inr (.inr rfl))⟩
end Mi

namespace Mi
open PySem PySem.Spec PyProof.Rows L2
/-! ### places by side -/
/-- the place of the i-th post of a side, o posts being ahead -/
def posQ (q : Bool) : Int → Int → Runs → Option Int
  | _, _, [] => none
  | o, i, (r, c) :: l => if r = q then (if i < c then some (o + 1 + i) else posQ q (o + c) (i - c) l) else posQ q (o + c) i l
/-- the runs of a side: how many of the side are ahead, the first place, how many -/
def rws (q : Bool) : Int → Int → Runs → List (Int × Int × Int)
  | _, _, [] => []
  | o, b, (r, c) :: l => if r = q then (b, o + 1, c) :: rws q (o + c) (b + c) l else rws q (o + c) b l
/-- what is due for a number -/
def duL (n : Int) : List (Int × Int × Int) → List Int
  | [] => []
  | (b, f, c) :: l => if b ≤ n ∧ n < b + c then (f + n - b) :: duL n l else duL n l
theorem du_low (q : Bool) (n : Int) : ∀ {l : Runs} {o b : Int}, Ps l → n < b → duL n (rws q o b l) = []
  | [], _, _, _, _ => rfl
  | (r, c) :: l, o, b, hp, h => by
    have hc : 1 ≤ c := hp.1
    unfold rws
    by_cases hr : r = q
    · rw [if_pos hr]
      unfold duL
      rw [if_neg (by omega)]
      exact du_low q n hp.2 (by omega)
    · rw [if_neg hr]
      exact du_low q n hp.2 h
theorem du_pos (q : Bool) (n : Int) : ∀ {l : Runs} {o b : Int}, Ps l → b ≤ n → duL n (rws q o b l) = (posQ q o (n - b) l).toList
  | [], _, _, _, _ => rfl
  | (r, c) :: l, o, b, hp, h => by
    have hc : 1 ≤ c := hp.1
    unfold rws posQ
    by_cases hr : r = q
    · rw [if_pos hr, if_pos hr]
      unfold duL
      by_cases hn : n - b < c
      · rw [if_pos (by omega), if_pos hn, du_low q n hp.2 (by omega)]
        show [o + 1 + n - b] = [o + 1 + (n - b)]
        congr 1
        omega
      · rw [if_neg (by omega), if_neg hn, du_pos q n hp.2 (by omega)]
        congr 2
        omega
    · rw [if_neg hr, if_neg hr]
      exact du_pos q n hp.2 h
theorem posQ_at (q : Bool) : ∀ {l : Runs} {o i p : Int}, Ps l → 0 ≤ i → posQ q o i l = some p → o < p ∧ p ≤ o + amt l ∧ sideAt p o l = some q
  | [], _, _, _, _, _, h => by cases h
  | (r, c) :: l, o, i, p, hp, hi, h => by
    have hc : 1 ≤ c := hp.1
    have ha := amt_nn hp.2
    unfold posQ at h
    show o < p ∧ p ≤ o + (c + amt l) ∧ (if p ≤ o + c then some r else sideAt p (o + c) l) = some q
    by_cases hr : r = q
    · rw [if_pos hr] at h
      by_cases hn : i < c
      · rw [if_pos hn] at h
        have := Option.some.inj h
        refine ⟨by omega, by omega, ?_⟩
        rw [if_pos (by omega), hr]
      · rw [if_neg hn] at h
        obtain ⟨h1, h2, h3⟩ := posQ_at q hp.2 (by omega) h
        refine ⟨by omega, by omega, ?_⟩
        rw [if_neg (by omega)]
        exact h3
    · rw [if_neg hr] at h
      obtain ⟨h1, h2, h3⟩ := posQ_at q hp.2 hi h
      refine ⟨by omega, by omega, ?_⟩
      rw [if_neg (by omega)]
      exact h3
theorem posQ_front (q : Bool) : ∀ {a l l' : Runs}, Ps a → (∀ o i : Int, 0 ≤ i → posQ q o i l = posQ q o i l') → ∀ {o i : Int}, 0 ≤ i → posQ q o i (a ++ l) = posQ q o i (a ++ l')
  | [], _, _, _, h, o, i, hi => h o i hi
  | (r, c) :: a, l, l', hp, h, o, i, hi => by
    simp only [List.cons_append, posQ]
    rw [posQ_front q hp.2 h hi]
    by_cases hn : i < c
    · rw [if_pos hn, if_pos hn]
    · rw [posQ_front q hp.2 h (show 0 ≤ i - c by omega)]
theorem posQ_merge (q p : Bool) {n c : Int} {l : Runs} {o i : Int} (hn : 1 ≤ n) (hc : 1 ≤ c) (hi : 0 ≤ i) : posQ q o i ((p, n) :: (p, c) :: l) = posQ q o i ((p, n + c) :: l) := by
  have e1 : o + n + c = o + (n + c) := by omega
  have e2 : i - n - c = i - (n + c) := by omega
  simp only [posQ, e1, e2]
  by_cases hp : p = q
  · simp only [hp, if_true]
    by_cases h1 : i < n
    · rw [if_pos h1, if_pos (by omega)]
    · rw [if_neg h1]
      by_cases h2 : i - n < c
      · rw [if_pos h2, if_pos (by omega)]
        congr 1
        omega
      · rw [if_neg h2, if_neg (by omega)]
  · simp only [if_neg hp]
theorem posQ_jstep (q p : Bool) {fs : Runs} {c : Int} (hf : Ps fs) (hc : 1 ≤ c) {l : Runs} {o i : Int} (hi : 0 ≤ i) : posQ q o i (jstep fs (p, c) ++ l) = posQ q o i (fs ++ (p, c) :: l) := by
  rcases List.eq_nil_or_concat fs with rfl | ⟨gs, ⟨p', n⟩, rfl⟩
  · rw [jstep_nil (by omega)]
    rfl
  · rw [List.concat_eq_append] at hf ⊢
    have hf' := ps_append.mp hf
    cases hpq : p' == p with
    | true =>
      have e : p' = p := by simpa using hpq
      subst e
      rw [jstep_eq (by omega), List.append_assoc, List.append_assoc]
      exact posQ_front q hf'.1 (fun o i hi => (posQ_merge q p' hf'.2.1 hc hi).symm) hi
    | false =>
      rw [jstep_ne (by omega) hpq, List.append_assoc, List.append_assoc, List.append_assoc]
      rfl
theorem posQ_jn (q : Bool) : ∀ {l fs : Runs}, Good fs → Ps l → ∀ {o i : Int}, 0 ≤ i → posQ q o i (jn fs l) = posQ q o i (fs ++ l)
  | [], fs, _, _, o, i, _ => by rw [List.append_nil]; rfl
  | (p, c) :: l, fs, hg, h, o, i, hi => by
    have e : jn fs ((p, c) :: l) = jn (jstep fs (p, c)) l := rfl
    rw [e, posQ_jn q (jstep_good hg) h.2 hi]
    exact posQ_jstep q p hg.ps h.1 hi
theorem ones_ps : ∀ s : List Bool, Ps (ones s)
  | [] => trivial
  | _ :: s => ⟨Int.le_refl _, ones_ps s⟩
/-- the places of a side -/
def spQ (q : Bool) : Nat → List Bool → List Int
  | _, [] => []
  | k, p :: s => if p = q then ((k : Int) + 1) :: spQ q (k + 1) s else spQ q (k + 1) s
theorem ones_pos (q : Bool) : ∀ (s : List Bool) (k i : Nat), posQ q (k : Nat) (i : Nat) (ones s) = (spQ q k s)[i]?
  | [], _, _ => rfl
  | p :: s, k, i => by
    have e : (k : Int) + 1 = ((k + 1 : Nat) : Int) := by omega
    show (if p = q then (if (i : Int) < 1 then some ((k : Int) + 1 + (i : Nat)) else posQ q ((k : Int) + 1) ((i : Int) - 1) (ones s)) else posQ q ((k : Int) + 1) (i : Nat) (ones s)) = _
    unfold spQ
    by_cases hp : p = q
    · rw [if_pos hp, if_pos hp]
      cases i with
      | zero =>
        rw [if_pos (by decide)]
        simp
      | succ i =>
        rw [if_neg (by omega), e]
        have e2 : ((i + 1 : Nat) : Int) - 1 = (i : Nat) := by omega
        rw [e2, ones_pos q s (k + 1) i]
        rfl
    · rw [if_neg hp, if_neg hp, e, ones_pos q s (k + 1) i]
theorem pk_pos (q : Bool) (s : List Bool) (i : Nat) : posQ q 0 (i : Nat) (pk s) = (spQ q 0 s)[i]? := by
  have h := posQ_jn q (i := (i : Int)) good_nil (ones_ps s) (o := 0) (by omega)
  rw [List.nil_append] at h
  have h2 := ones_pos q s 0 i
  exact h.trans h2
theorem spQ_len (q : Bool) : ∀ (s : List Bool) (k : Nat), (spQ q k s).length = s.count q
  | [], _ => rfl
  | p :: s, k => by
    unfold spQ
    rw [List.count_cons]
    by_cases hp : p = q
    · subst hp
      rw [if_pos rfl, List.length_cons, spQ_len p s]
      simp
    · rw [if_neg hp, spQ_len q s]
      have : (p == q) = false := by simpa using hp
      rw [this]
      rfl
def rngI : Int → Nat → List Int
  | _, 0 => []
  | k, n + 1 => k :: rngI (k + 1) n
theorem rngI_low : ∀ (n : Nat) (k : Int), ∀ y ∈ rngI k n, k ≤ y
  | 0, _, y, h => by cases h
  | n + 1, k, y, h => by
    rcases List.mem_cons.mp h with rfl | h
    · exact Int.le_refl _
    · have := rngI_low n (k + 1) y h
      omega
theorem rngI_pw : ∀ (n : Nat) (k : Int), (rngI k n).Pairwise (· ≤ ·)
  | 0, _ => List.Pairwise.nil
  | n + 1, k => List.pairwise_cons.mpr ⟨fun y hy => by have := rngI_low n (k + 1) y hy; omega, rngI_pw n (k + 1)⟩
theorem rngI_L : ∀ (n : Nat) (k : Int), rangeL k n = (rngI k n).map .int
  | 0, _ => rfl
  | n + 1, k => by
    rw [rangeL_succ, rngI_L n (k + 1)]
    rfl
theorem sp_perm : ∀ (s : List Bool) (k : Nat), (spQ true k s ++ spQ false k s).Perm (rngI ((k : Int) + 1) s.length)
  | [], _ => List.Perm.refl _
  | p :: s, k => by
    have ih := sp_perm s (k + 1)
    have e : ((k + 1 : Nat) : Int) + 1 = (k : Int) + 1 + 1 := by omega
    rw [e] at ih
    show (spQ true k (p :: s) ++ spQ false k (p :: s)).Perm (((k : Int) + 1) :: rngI ((k : Int) + 1 + 1) s.length)
    cases p with
    | true =>
      have e1 : spQ true k (true :: s) = ((k : Int) + 1) :: spQ true (k + 1) s := rfl
      have e2 : spQ false k (true :: s) = spQ false (k + 1) s := rfl
      rw [e1, e2]
      exact ih.cons _
    | false =>
      have e1 : spQ true k (false :: s) = spQ true (k + 1) s := rfl
      have e2 : spQ false k (false :: s) = ((k : Int) + 1) :: spQ false (k + 1) s := rfl
      rw [e1, e2]
      exact List.perm_middle.trans (ih.cons _)
theorem sort_sp (s : List Bool) : sortI (spQ true 0 s ++ spQ false 0 s) = rngI 1 s.length :=
  sorted_uniq ((sortI_perm _).trans (sp_perm s 0)) (sortI_pw _) (rngI_pw _ _)
/-! ### data -/
def optD : Option Int → D
  | some p => .int p
  | none => .non
theorem ne_opt (x : Option Int) : neD (optD x) (optD x) = some (.fz (.bl false)) := by
  cases x with
  | none => kernel_rfl
  | some p => show neD (.int p) (.int p) = _; rw [op_ne_i, decide_eq_true rfl]; rfl
theorem eq_flat : ∀ {xs : List D}, (∀ x ∈ xs, D.eq x x = true) → D.eq (.lst xs) (.lst xs) = true
  | [], _ => rfl
  | x :: xs, h => by
    have ih := eq_flat fun y hy => h y (List.mem_cons_of_mem _ hy)
    have e : D.eq (.lst (x :: xs)) (.lst (x :: xs)) = (D.eq x x && D.eq (.lst xs) (.lst xs)) := rfl
    rw [e, ih, h x (List.mem_cons_self ..)]
    rfl
theorem flt_opt {k : Nat} (x : Option Int) : Flt k (optD x) := by
  cases x with
  | none => exact ⟨rfl, Nat.zero_le _⟩
  | some p => exact flt_int
theorem eq_opt (x : Option Int) : D.eq (optD x) (optD x) = true := by
  cases x with
  | none => rfl
  | some p => show (p == p) = true; exact beq_self_eq_true p
theorem ne_opts (xs : List (Option Int)) : neD (.lst (xs.map optD)) (.lst (xs.map optD)) = some (.fz (.bl false)) := by
  unfold neD
  have h1 : D.sh (.lst (xs.map optD)) = true := sh_flt (k := 1) (flt_lst fun x hx => by
    obtain ⟨y, _, rfl⟩ := List.mem_map.mp hx
    exact flt_opt y) (by decide)
  have h2 : D.eq (.lst (xs.map optD)) (.lst (xs.map optD)) = true := eq_flat fun x hx => by
    obtain ⟨y, _, rfl⟩ := List.mem_map.mp hx
    exact eq_opt y
  rw [h1, h2]
  rfl
theorem eqD_ints (l : List Int) : eqD (.lst (l.map .int)) (.lst (l.map .int)) = some (.fz (.bl true)) := by
  unfold eqD
  rw [sh_ints, eq_ints]
  rfl
theorem strs_sds : ∀ s : List Bool, strsOf (s.map sdD) = some (s.map sideS)
  | [] => rfl
  | q :: s => by
    show (strsOf (s.map sdD)).map (fun l => sideS q :: l) = _
    rw [strs_sds s]
    rfl
theorem count_side (q : Bool) : ∀ s : List Bool, (s.map sideS).count (sideS q) = s.count q
  | [] => rfl
  | p :: s => by
    rw [List.map_cons, List.count_cons, List.count_cons, count_side q s, side_eq]
theorem cnt_sds (s : List Bool) (q : Bool) : cntD (.lst (s.map sdD)) (.str (sideS q)) = some (.fz (.int (s.count q : Nat))) := by
  show (strsOf (s.map sdD)).map (fun l => okI (l.count (sideS q) : Nat)) = _
  rw [strs_sds]
  show some (okI ((s.map sideS).count (sideS q) : Nat)) = _
  rw [count_side]
  rfl
theorem it_LR : D.iter (.str "LR") = some [.str (sideS true), .str (sideS false)] := by kernel_rfl
theorem sort_ints (l : List Int) : sortD [.lst (l.map .int)] = some (.ow ((sortI l).map .int)) := by
  show (intsOf (l.map .int)).map (fun l => Sl.ow ((sortI l).map .int)) = _
  rw [ints_map]
  rfl
end Mi

namespace G
open PySem PySem.Spec PyProof.Rows L2 Mi
def top (i : Nat) : Stmt := PySem.Challenge.pw_swingposts_k03_places_by_side.main.body.getD i (.Pass ⟨0, 0, 0, 0⟩)


def B_law_draw : Sm := (sSeq (sIf (toT (mOp2 gtD (.e (mOp2 ixD (.v 0) (.e (mC (.int 0))))) (.e (mC (.int 0))))) (sSeq (sSet 2 (mOp2 modD (.e (mOp2 ixD (.v 0) (.e (mC (.int 0))))) (.v 1))) (sSeq (sSetIx 0 (mC (.int 0)) (mOp2 fdivD (.e (mOp2 ixD (.v 0) (.e (mC (.int 0))))) (.v 1))) (sSeq (sRet (mMove 2)) sNil))) sNil) (sSeq (sSetIx 0 (mC (.int 2)) (mOp2 addD (.e (mOp2 ixD (.v 0) (.e (mC (.int 2))))) (.e (mC (.int 1))))) (sSeq (sSet 3 (mOp2 modD (.e (mOp2 powD (.e (mOp2 addD (.e (mOp2 ixD (.v 0) (.e (mC (.int 1))))) (.e (mOp2 mulD (.e (mC (.int 275604541))) (.e (mOp2 ixD (.v 0) (.e (mC (.int 2))))))))) (.e (mC (.int 3))))) (.e (mOp2 addD (.e (mOp2 powD (.e (mC (.int 10))) (.e (mC (.int 41))))) (.e (mC (.int 37))))))) (sSeq (sSet 3 (mOp2 modD (.e (mOp2 powD (.e (mOp2 addD (.v 3) (.e (mOp2 mulD (.e (mC (.int 15485863))) (.e (mOp2 ixD (.v 0) (.e (mC (.int 2))))))))) (.e (mC (.int 3))))) (.e (mOp2 addD (.e (mOp2 powD (.e (mC (.int 10))) (.e (mC (.int 40))))) (.e (mC (.int 121))))))) (sSeq (sRet (mOp2 modD (.e (mOp2 fdivD (.v 3) (.e (mC (.int 1048583))))) (.v 1))) sNil)))))
def F_law_draw : Fn := mkFn 2 2 B_law_draw
def L_law_line_0 : Sm := (sSeq (sSet 6 (mOp2 ixD (.e (mLst [(mC (.int 1)), (mOp2 addD (.e (mC (.int 1))) (.e (mCall F_law_draw [(.v 0), (.e (mC (.int 3)))]))), (mOp2 addD (.e (mC (.int 1))) (.e (mCall F_law_draw [(.v 0), (.e (mVar 2))])))])) (.e (mCall F_law_draw [(.v 0), (.e (mC (.int 3)))])))) (sSeq (sDrop (mMut 4 fAppend [(mTup [(mOp2 ixD (.e (mC (.str "LR"))) (.e (mOp2 modD (.e (mOp2 addD (.v 3) (.v 5))) (.e (mC (.int 2)))))), (mVar 6)])])) sNil))
def B_law_line : Sm := (sSeq (sPar 3 4 (mCall F_law_draw [(.v 0), (.e (mC (.int 2)))]) (mLst [])) (sSeq (sFor (iRange1 (mOp2 addD (.e (mC (.int 1))) (.e (mCall F_law_draw [(.v 0), (.e (mVar 1))])))) (gNm 5) L_law_line_0) (sSeq (sRet (mOpN tupleD [(.v 4)])) sNil)))
def F_law_line : Fn := mkFn 3 4 B_law_line
def L_law_rows_0 : Sm := (sSeq (sIf (toT (mOp2 eqD (.v 5) (.v 1))) (sSeq (sDrop (mMut 2 fAppend [(mTup [(mVar 4), (mOp2 addD (.v 3) (.e (mC (.int 1)))), (mVar 6)])])) (sSeq (sSet 4 (mOp2 addD (.v 4) (.v 6))) sNil)) sNil) (sSeq (sSet 3 (mOp2 addD (.v 3) (.v 6))) sNil))
def B_law_rows : Sm := (sSeq (sPar3 2 3 4 (mLst []) (mC (.int 0)) (mC (.int 0))) (sSeq (sFor (iSeq (mVar 0)) (gSeq 2 (gsCons (gNm 5) (gsCons (gNm 6) gsNil))) L_law_rows_0) (sSeq (sRet (mMove 2)) sNil)))
def F_law_rows : Fn := mkFn 2 5 B_law_rows
def Bis_integer : Sm := (sSeq (sRet (mAnd (mOp1 (isiD "int") (.v 0)) (mAnd (mNot (mOp1 (isiD "bool") (.v 0))) (mOp2 geD (.v 0) (.v 1))))) sNil)
def Fis_integer : Fn := mkFn 2 0 Bis_integer
def Bis_side : Sm := (sSeq (sRet (mAnd (mOp1 (isiD "str") (.v 0)) (mOp2 inD (.v 0) (.e (mTup [(mC (.str "L")), (mC (.str "R"))]))))) sNil)
def Fis_side : Fn := mkFn 1 0 Bis_side
def Bis_run : Sm := (sSeq (sRet (mAnd (mOp1 (isiD "tuple") (.v 0)) (mAnd (mOp2 eqD (.e (mOpN lenD [(.v 0)])) (.e (mC (.int 2)))) (mAnd (mCall Fis_side [(.e (mOp2 ixD (.v 0) (.e (mC (.int 0)))))]) (mCall Fis_integer [(.e (mOp2 ixD (.v 0) (.e (mC (.int 1))))), (.e (mC (.int 1)))]))))) sNil)
def Fis_run : Fn := mkFn 1 0 Bis_run
def Eis_posts_0 : Ex := (mCall Fis_run [(.e (mVar 3))])
def Eis_posts_1 : Ex := (mOp2 neD (.e (mOp2 ixD (.v 1) (.e (mC (.int 0))))) (.e (mOp2 ixD (.v 2) (.e (mC (.int 0))))))
def Bis_posts : Sm := (sSeq (sIf (mOrT (mNotT (mTru (.e (mOp1 (isiD "tuple") (.v 0))))) (mOrT (toT (mOp2 eqD (.e (mOpN lenD [(.v 0)])) (.e (mC (.int 0))))) (mNotT (mTru (.e (mOpN allD [(.e (mComp (iSeq (mVar 0)) (gNm 3) tYesE Eis_posts_0 [3]))])))))) (sSeq (sRet (mC (.bl false))) sNil) sNil) (sSeq (sRet (mOpN allD [(.e (mComp (iZipE [(mVar 0), (mSl (.v 0) (.e (.e (mC (.int 1)))) .no)]) (gSeq 2 (gsCons (gNm 1) (gsCons (gNm 2) gsNil))) tYesE Eis_posts_1 [1, 2]))])) sNil))
def Fis_posts : Fn := mkFn 1 3 Bis_posts
def Bcheck_posts : Sm := (sSeq (sIf (mNotT (mTru (.e (mCall Fis_posts [(.e (mVar 0))])))) (sSeq (sRaise "InvalidPosts") sNil) sNil) sNil)
def Fcheck_posts : Fn := mkFn 1 0 Bcheck_posts
def Lplace_of_side_0 : Sm := (sSeq (sIf (mAndT (toT (mOp2 eqD (.v 4) (.v 1))) (toT (mOp2 ltD (.v 2) (.v 5)))) (sSeq (sRet (mOp2 addD (.e (mOp2 addD (.v 3) (.e (mC (.int 1))))) (.v 2))) sNil) sNil) (sSeq (sIf (toT (mOp2 eqD (.v 4) (.v 1))) (sSeq (sAug 2 subD (mVar 5)) sNil) sNil) (sSeq (sAug 3 iaddD (mVar 5)) sNil)))
def Bplace_of_side : Sm := (sSeq (sSet 3 (mC (.int 0))) (sSeq (sFor (iSeq (mVar 0)) (gSeq 2 (gsCons (gNm 4) (gsCons (gNm 5) gsNil))) Lplace_of_side_0) (sSeq (sRet (mC .non)) sNil)))
def Fplace_of_side : Fn := mkFn 3 3 Bplace_of_side
def Bplace_of : Sm := (sSeq (sDrop (mCall Fcheck_posts [(.e (mVar 0))])) (sSeq (sIf (mNotT (mTru (.e (mCall Fis_side [(.e (mVar 1))])))) (sSeq (sRaise "InvalidSide") sNil) sNil) (sSeq (sIf (mNotT (mTru (.e (mCall Fis_integer [(.e (mVar 2)), (.e (mC (.int 0)))])))) (sSeq (sRaise "InvalidNumber") sNil) sNil) (sSeq (sRet (mCall Fplace_of_side [(.e (mVar 0)), (.e (mVar 1)), (.e (mVar 2))])) sNil))))
def Fplace_of : Fn := mkFn 3 0 Bplace_of
def Ecount_posts_0 : Ex := (mVar 2)
def Bcount_posts : Sm := (sSeq (sRet (mOpN sumD [(.e (mComp (iSeq (mVar 0)) (gSeq 2 (gsCons (gNm 1) (gsCons (gNm 2) gsNil))) tYesE Ecount_posts_0 [1, 2]))])) sNil)
def Fcount_posts : Fn := mkFn 1 2 Bcount_posts
def Bis_place : Sm := (sSeq (sRet (mAnd (mCall Fis_integer [(.e (mVar 1)), (.e (mC (.int 1)))]) (mOp2 leD (.v 1) (.e (mCall Fcount_posts [(.e (mVar 0))]))))) sNil)
def Fis_place : Fn := mkFn 2 0 Bis_place
def Bcheck_place : Sm := (sSeq (sIf (mNotT (mTru (.e (mCall Fis_place [(.e (mVar 0)), (.e (mVar 1))])))) (sSeq (sRaise "InvalidPlace") sNil) sNil) sNil)
def Fcheck_place : Fn := mkFn 2 0 Bcheck_place
def Lside_at_0 : Sm := (sSeq (sAug 2 iaddD (mVar 4)) (sSeq (sIf (toT (mOp2 leD (.v 1) (.v 2))) (sSeq (sRet (mMove 3)) sNil) sNil) sNil))
def Bside_at : Sm := (sSeq (sDrop (mCall Fcheck_posts [(.e (mVar 0))])) (sSeq (sDrop (mCall Fcheck_place [(.e (mVar 0)), (.e (mVar 1))])) (sSeq (sSet 2 (mC (.int 0))) (sSeq (sFor (iSeq (mVar 0)) (gSeq 2 (gsCons (gNm 3) (gsCons (gNm 4) gsNil))) Lside_at_0) (sSeq (sRet (mC .non)) sNil)))))
def Fside_at : Fn := mkFn 2 3 Bside_at
def E_law_right_0 : Ex := (mVar 9)
def L_law_right_1 : Sm := (sSeq (sSet 6 (mOp2 addD (.v 6) (.e (mLst [(mVar 7), (mOp2 subD (.e (mOp2 addD (.v 7) (.v 9))) (.e (mC (.int 1)))), (mOp2 addD (.v 7) (.e (mCall F_law_draw [(.v 0), (.e (mVar 9))])))])))) sNil)
def E_law_right_2 : Ex := (mOp2 subD (.e (mOp2 addD (.v 8) (.v 10))) (.v 7))
def L_law_right_3 : Sm := (sSeq (sSet 11 (mComp (iSeq (mVar 4)) (gSeq 3 (gsCons (gNm 7) (gsCons (gNm 8) (gsCons (gNm 9) gsNil)))) (toT (mChain leD ltD (.v 7) (.v 10) (.e (mOp2 addD (.v 7) (.v 9))))) E_law_right_2 [7, 8, 9])) (sSeq (sSet 12 (mCall Fplace_of [(.e (mVar 1)), (.e (mVar 3)), (.e (mVar 10))])) (sSeq (sIf (mOrT (toT (mOp2 neD (.v 12) (.e (mOp2 ixD (.e (mOp2 addD (.v 11) (.e (mLst [(mC .non)])))) (.e (mC (.int 0))))))) (toT (mOp2 neD (.e (mCallK Fplace_of [2, 1, 0] [] [(.e (mVar 10)), (.e (mVar 3)), (.e (mVar 1))])) (.v 12)))) (sSeq (sRet (mC (.bl false))) sNil) sNil) (sSeq (sIf (mAndT (toT (mOp2 isNotD (.v 12) (.e (mC .non)))) (toT (mOp2 neD (.e (mCall Fside_at [(.e (mVar 1)), (.e (mVar 12))])) (.v 3)))) (sSeq (sRet (mC (.bl false))) sNil) sNil) sNil))))
def L_law_right_4 : Sm := (sSeq (sSet 4 (mCall F_law_rows [(.e (mVar 1)), (.e (mVar 3))])) (sSeq (sSet 5 (mOpN sumD [(.e (mComp (iSeq (mVar 4)) (gSeq 3 (gsCons (gNm 7) (gsCons (gNm 8) (gsCons (gNm 9) gsNil)))) tYesE E_law_right_0 [7, 8, 9]))])) (sSeq (sSet 6 (mLst [(mVar 5), (mOp2 addD (.v 5) (.e (mC (.int 1)))), (mOp2 addD (.v 5) (.e (mCall F_law_draw [(.v 0), (.e (mOp2 powD (.e (mC (.int 10))) (.e (mC (.int 30)))))]))), (mC (.int 0))])) (sSeq (sFor (iSeq (mVar 4)) (gSeq 3 (gsCons (gNm 7) (gsCons (gNm 8) (gsCons (gNm 9) gsNil)))) L_law_right_1) (sSeq (sFor (iSeq (mVar 6)) (gNm 10) L_law_right_3) sNil)))))
def B_law_right : Sm := (sSeq (sSet 2 (mOpN reprD [(.v 1)])) (sSeq (sFor (iSeq (mC (.str "LR"))) (gNm 3) L_law_right_4) (sSeq (sRet (mOp2 eqsD (.e (mOpN reprD [(.v 1)])) (.v 2))) sNil)))
def F_law_right : Fn := mkFn 2 11 B_law_right
def L_law_packed_0 : Sm := (sSeq (sIf (mAndT (toT (mOp2 neD (.v 1) (.e (mLst [])))) (toT (mOp2 eqD (.e (mOp2 ixD (.e (mOp2 ixD (.v 1) (.e (mOp1 negD (.e (mC (.int 1))))))) (.e (mC (.int 0))))) (.v 2)))) (sSeq (sSetIx 1 (mOp1 negD (.e (mC (.int 1)))) (mTup [(mVar 2), (mOp2 addD (.e (mOp2 ixD (.e (mOp2 ixD (.v 1) (.e (mOp1 negD (.e (mC (.int 1))))))) (.e (mC (.int 1))))) (.e (mC (.int 1))))])) sNil) (sSeq (sDrop (mMut 1 fAppend [(mTup [(mVar 2), (mC (.int 1))])])) sNil)) sNil)
def B_law_packed : Sm := (sSeq (sSet 1 (mLst [])) (sSeq (sFor (iSeq (mVar 0)) (gNm 2) L_law_packed_0) (sSeq (sRet (mOpN tupleD [(.v 1)])) sNil)))
def F_law_packed : Fn := mkFn 1 2 B_law_packed
def L_law_sides_0 : Sm := (sSeq (sSet 3 (mOp2 ixD (.e (mLst [(mCall F_law_draw [(.v 0), (.e (mC (.int 2)))]), (mOp2 modD (.e (mOp2 addD (.v 3) (.e (mOpN intD [(.e (mOp2 eqD (.e (mCall F_law_draw [(.v 0), (.e (mC (.int 4)))])) (.e (mC (.int 0)))))])))) (.e (mC (.int 2)))), (mVar 3), (mOp2 subD (.e (mC (.int 1))) (.v 3))])) (.v 2))) (sSeq (sDrop (mMut 4 fAppend [(mOp2 ixD (.e (mC (.str "LR"))) (.v 3))])) sNil))
def B_law_sides : Sm := (sSeq (sPar3 2 3 4 (mCall F_law_draw [(.v 0), (.e (mC (.int 4)))]) (mCall F_law_draw [(.v 0), (.e (mC (.int 2)))]) (mLst [])) (sSeq (sFor (iRange1 (mOp2 addD (.e (mC (.int 1))) (.e (mCall F_law_draw [(.v 0), (.e (mVar 1))])))) (gNm 5) L_law_sides_0) (sSeq (sRet (mMove 4)) sNil)))
def F_law_sides : Fn := mkFn 2 4 B_law_sides
def E_law_small_right_0 : Ex := (mCall Fplace_of [(.e (mVar 2)), (.e (mVar 4)), (.e (mVar 7))])
def E_law_small_right_1 : Ex := (mOp2 addD (.v 8) (.e (mC (.int 1))))
def L_law_small_right_2 : Sm := (sSeq (sSet 5 (mCnt (.v 1) (mVar 4))) (sSeq (sSet 6 (mComp (iRange1 (mOp2 addD (.v 5) (.e (mC (.int 2))))) (gNm 7) tYesE E_law_small_right_0 [7])) (sSeq (sIf (toT (mOp2 neD (.v 6) (.e (mOp2 addD (.e (mComp (iRange1 (mOpN lenD [(.v 1)])) (gNm 8) (toT (mOp2 eqD (.e (mOp2 ixD (.v 1) (.v 8))) (.v 4))) E_law_small_right_1 [8])) (.e (mLst [(mC .non), (mC .non)])))))) (sSeq (sRet (mC (.bl false))) sNil) sNil) (sSeq (sSet 3 (mOp2 addD (.v 3) (.e (mSl (.v 6) .no (.e (.e (mVar 5))))))) sNil))))
def B_law_small_right : Sm := (sSeq (sSet 1 (mCall F_law_sides [(.v 0), (.e (mC (.int 14)))])) (sSeq (sAsg (gSeq 2 (gsCons (gNm 2) (gsCons (gNm 3) gsNil))) (mTup [(mCall F_law_packed [(.e (mVar 1))]), (mLst [])])) (sSeq (sFor (iSeq (mC (.str "LR"))) (gNm 4) L_law_small_right_2) (sSeq (sRet (mOp2 eqD (.e (mOpN sortD [(.v 3)])) (.e (mLR (mC (.int 1)) (mOp2 addD (.e (mOpN lenD [(.v 1)])) (.e (mC (.int 1)))))))) sNil))))
def F_law_small_right : Fn := mkFn 1 8 B_law_small_right
def B_law_source : Sm := (sSeq (sSet 2 (mIf (toT (mOp2 ltD (.v 1) (.e (mOpN lenD [(.v 0)])))) (mOp2 ixD (.v 0) (.v 1)) (mC (.int 0)))) (sSeq (sRet (mLst [(mOpN max2D [(.e (mC (.int 0))), (.e (mOp2 subD (.e (mOpN absD [(.v 2)])) (.e (mOp2 powD (.e (mC (.int 10))) (.e (mC (.int 18)))))))]), (mOp2 addD (.e (mOp2 modD (.v 2) (.e (mOp2 addD (.e (mOp2 powD (.e (mC (.int 10))) (.e (mC (.int 40))))) (.e (mC (.int 121))))))) (.e (mOp2 mulD (.e (mC (.int 6700417))) (.v 1)))), (mC (.int 0))])) sNil))
def F_law_source : Fn := mkFn 2 1 B_law_source
def Llaw_0 : Sm := (sSeq (sSet 4 (mOp2 ixD (.e (mLst [(mC (.int 3)), (mC (.int 20))])) (.e (mCall F_law_draw [(.v 2), (.e (mC (.int 2)))])))) (sSeq (sSet 5 (mCall F_law_line [(.v 2), (.e (mVar 4)), (.e (mOp2 ixD (.e (mLst [(mC (.int 4)), (mOp2 powD (.e (mC (.int 10))) (.e (mC (.int 30))))])) (.e (mCall F_law_draw [(.v 2), (.e (mC (.int 2)))]))))])) (sSeq (sIf (mOrT (mNotT (mTru (.e (mCall F_law_right [(.v 2), (.e (mVar 5))])))) (mNotT (mTru (.e (mCall F_law_small_right [(.v 2)]))))) (sSeq (sRet (mC (.bl false))) sNil) sNil) sNil)))
def Llaw_1 : Sm := (sSeq (sSet 2 (mCall F_law_source [(.e (mVar 0)), (.e (mVar 1))])) (sSeq (sFor (iRange1 (mC (.int 2))) (gNm 3) Llaw_0) sNil))
def Blaw : Sm := (sSeq (sFor (iRange1 (mOpN max2D [(.e (mC (.int 1))), (.e (mOpN min2D [(.e (mC (.int 6))), (.e (mOpN lenD [(.v 0)]))]))])) (gNm 1) Llaw_1) (sSeq (sIf (toT (mOp2 neD (.e (mCall Fplace_of [(.e (mTup [(mTup [(mC (.str "L")), (mOp2 subD (.e (mOp2 powD (.e (mC (.int 10))) (.e (mC (.int 31))))) (.e (mC (.int 1))))])])), (.e (mC (.str "L"))), (.e (mOp2 subD (.e (mOp2 powD (.e (mC (.int 10))) (.e (mC (.int 31))))) (.e (mC (.int 2)))))])) (.e (mOp2 subD (.e (mOp2 powD (.e (mC (.int 10))) (.e (mC (.int 31))))) (.e (mC (.int 1))))))) (sSeq (sRet (mC (.bl false))) sNil) sNil) (sSeq (sIf (toT (mOp2 isNotD (.e (mCall Fplace_of [(.e (mTup [(mTup [(mC (.str "L")), (mC (.int 9))])])), (.e (mC (.str "L"))), (.e (mOp2 mulD (.e (mOp2 powD (.e (mC (.int 10))) (.e (mC (.int 64))))) (.e (mOp2 powD (.e (mC (.int 10))) (.e (mC (.int 15)))))))])) (.e (mC .non)))) (sSeq (sRet (mC (.bl false))) sNil) sNil) (sSeq (sRet (mAnd (mOp2 isD (.e (mCall Fplace_of [(.e (mTup [(mTup [(mC (.str "L")), (mC (.int 2))])])), (.e (mC (.str "R"))), (.e (mC (.int 0)))])) (.e (mC .non))) (mOp2 eqD (.e (mCall Fplace_of [(.e (mTup [(mTup [(mC (.str "R")), (mC (.int 2))])])), (.e (mC (.str "R"))), (.e (mC (.int 1)))])) (.e (mC (.int 2)))))) sNil))))
def Flaw : Fn := mkFn 1 5 Blaw
/-! ### what is known of the names -/
structure Fc (K : PySem.W.Frag) (mg : Str → Option Value) : Prop where
  b_abs : mg "abs" = none
  b_all : mg "all" = none
  b_bool : mg "bool" = none
  b_int : mg "int" = none
  b_isinstance : mg "isinstance" = none
  b_len : mg "len" = none
  b_list : mg "list" = none
  b_max : mg "max" = none
  b_min : mg "min" = none
  b_range : mg "range" = none
  b_repr : mg "repr" = none
  b_sorted : mg "sorted" = none
  b_str : mg "str" = none
  b_sum : mg "sum" = none
  b_tuple : mg "tuple" = none
  b_zip : mg "zip" = none
  c_LEFT : ∃ t, mg "LEFT" = some (.str "L" t)
  c_RIGHT : ∃ t, mg "RIGHT" = some (.str "R" t)
  g_InvalidNumber : mg "InvalidNumber" = some (.ref (He.ga K "InvalidNumber"))
  g_InvalidPlace : mg "InvalidPlace" = some (.ref (He.ga K "InvalidPlace"))
  g_InvalidPosts : mg "InvalidPosts" = some (.ref (He.ga K "InvalidPosts"))
  g_InvalidSide : mg "InvalidSide" = some (.ref (He.ga K "InvalidSide"))
  x_InvalidNumber : ExcF K mg "InvalidNumber"
  x_InvalidPlace : ExcF K mg "InvalidPlace"
  x_InvalidPosts : ExcF K mg "InvalidPosts"
  x_InvalidSide : ExcF K mg "InvalidSide"
  g__law_draw : mg "_law_draw" = some (.ref (He.ga K "_law_draw"))
  d__law_draw : ∃ fd, FunD K "_law_draw" "_law_draw" (defArgs (top 22)) (defBody (top 22)) (defScope (top 22)) [] [] (He.ga K "_law_draw") fd
  g__law_line : mg "_law_line" = some (.ref (He.ga K "_law_line"))
  d__law_line : ∃ fd, FunD K "_law_line" "_law_line" (defArgs (top 23)) (defBody (top 23)) (defScope (top 23)) [] [] (He.ga K "_law_line") fd
  g__law_rows : mg "_law_rows" = some (.ref (He.ga K "_law_rows"))
  d__law_rows : ∃ fd, FunD K "_law_rows" "_law_rows" (defArgs (top 27)) (defBody (top 27)) (defScope (top 27)) [] [] (He.ga K "_law_rows") fd
  g_is_integer : mg "is_integer" = some (.ref (He.ga K "is_integer"))
  d_is_integer : ∃ fd, FunD K "is_integer" "is_integer" (defArgs (top 9)) (defBody (top 9)) (defScope (top 9)) [] [] (He.ga K "is_integer") fd
  g_is_side : mg "is_side" = some (.ref (He.ga K "is_side"))
  d_is_side : ∃ fd, FunD K "is_side" "is_side" (defArgs (top 10)) (defBody (top 10)) (defScope (top 10)) [] [] (He.ga K "is_side") fd
  g_is_run : mg "is_run" = some (.ref (He.ga K "is_run"))
  d_is_run : ∃ fd, FunD K "is_run" "is_run" (defArgs (top 11)) (defBody (top 11)) (defScope (top 11)) [] [] (He.ga K "is_run") fd
  g_is_posts : mg "is_posts" = some (.ref (He.ga K "is_posts"))
  d_is_posts : ∃ fd, FunD K "is_posts" "is_posts" (defArgs (top 12)) (defBody (top 12)) (defScope (top 12)) [] [] (He.ga K "is_posts") fd
  g_check_posts : mg "check_posts" = some (.ref (He.ga K "check_posts"))
  d_check_posts : ∃ fd, FunD K "check_posts" "check_posts" (defArgs (top 13)) (defBody (top 13)) (defScope (top 13)) [] [] (He.ga K "check_posts") fd
  g_place_of_side : mg "place_of_side" = some (.ref (He.ga K "place_of_side"))
  d_place_of_side : ∃ fd, FunD K "place_of_side" "place_of_side" (defArgs (top 17)) (defBody (top 17)) (defScope (top 17)) [] [] (He.ga K "place_of_side") fd
  g_place_of : mg "place_of" = some (.ref (He.ga K "place_of"))
  d_place_of : ∃ fd, FunD K "place_of" "place_of" (defArgs (top 19)) (defBody (top 19)) (defScope (top 19)) [] [] (He.ga K "place_of") fd
  g_count_posts : mg "count_posts" = some (.ref (He.ga K "count_posts"))
  d_count_posts : ∃ fd, FunD K "count_posts" "count_posts" (defArgs (top 14)) (defBody (top 14)) (defScope (top 14)) [] [] (He.ga K "count_posts") fd
  g_is_place : mg "is_place" = some (.ref (He.ga K "is_place"))
  d_is_place : ∃ fd, FunD K "is_place" "is_place" (defArgs (top 15)) (defBody (top 15)) (defScope (top 15)) [] [] (He.ga K "is_place") fd
  g_check_place : mg "check_place" = some (.ref (He.ga K "check_place"))
  d_check_place : ∃ fd, FunD K "check_place" "check_place" (defArgs (top 16)) (defBody (top 16)) (defScope (top 16)) [] [] (He.ga K "check_place") fd
  g_side_at : mg "side_at" = some (.ref (He.ga K "side_at"))
  d_side_at : ∃ fd, FunD K "side_at" "side_at" (defArgs (top 18)) (defBody (top 18)) (defScope (top 18)) [] [] (He.ga K "side_at") fd
  g__law_right : mg "_law_right" = some (.ref (He.ga K "_law_right"))
  d__law_right : ∃ fd, FunD K "_law_right" "_law_right" (defArgs (top 28)) (defBody (top 28)) (defScope (top 28)) [] [] (He.ga K "_law_right") fd
  g__law_packed : mg "_law_packed" = some (.ref (He.ga K "_law_packed"))
  d__law_packed : ∃ fd, FunD K "_law_packed" "_law_packed" (defArgs (top 25)) (defBody (top 25)) (defScope (top 25)) [] [] (He.ga K "_law_packed") fd
  g__law_sides : mg "_law_sides" = some (.ref (He.ga K "_law_sides"))
  d__law_sides : ∃ fd, FunD K "_law_sides" "_law_sides" (defArgs (top 24)) (defBody (top 24)) (defScope (top 24)) [] [] (He.ga K "_law_sides") fd
  g__law_small_right : mg "_law_small_right" = some (.ref (He.ga K "_law_small_right"))
  d__law_small_right : ∃ fd, FunD K "_law_small_right" "_law_small_right" (defArgs (top 29)) (defBody (top 29)) (defScope (top 29)) [] [] (He.ga K "_law_small_right") fd
  g__law_source : mg "_law_source" = some (.ref (He.ga K "_law_source"))
  d__law_source : ∃ fd, FunD K "_law_source" "_law_source" (defArgs (top 21)) (defBody (top 21)) (defScope (top 21)) [] [] (He.ga K "_law_source") fd
  g_law : mg "law" = some (.ref (He.ga K "law"))
  d_law : ∃ fd, FunD K "law" "law" (defArgs (top 30)) (defBody (top 30)) (defScope (top 30)) [] [] (He.ga K "law") fd
section
variable {P : Program} {w : World} {K : PySem.W.Frag} {mg : Str → Option Value} {base : Heap}
theorem sc__law_draw : FnScope ["source", "bound", "found", "mixed"] ["source", "bound"] (defScope (top 22)) := ⟨rfl, rfl, rfl, by decide +kernel, rfl, by decide +kernel, by decide +kernel⟩
theorem ok__law_draw (C : Fc K mg) : FnK P w K mg base 1 2 "_law_draw" ["source", "bound"] [] F_law_draw := by
  obtain ⟨fd, F⟩ := C.d__law_draw
  have hN := sc__law_draw.nd
  refine fnK_of F C.g__law_draw sc__law_draw (n := 2) (k := 2) rfl rfl (F.bindsN fun _ _ _ _ _ _ us hl => match us, hl with | [_, _], _ => rfl) (fun q hq => by cases hq) (lev := 0) (m := B_law_draw) fun cdv A outer s H E io hr => ?_
  have tk := bx_takes (P := P) (w := w) (K := K) (mg := mg) (base := base) (N := ["source", "bound", "found", "mixed"]) (qual := "_law_draw") (scope := defScope (top 22)) (f := He.ga K "_law_draw") (cdv := cdv) (A := A) (outer := outer) (s := s) (H := H) (E := E)
  have hp := bx_passes (P := P) (w := w) (K := K) (mg := mg) (base := base) (N := ["source", "bound", "found", "mixed"]) (qual := "_law_draw") (scope := defScope (top 22)) (f := He.ga K "_law_draw") (cdv := cdv) (A := A) (outer := outer) (s := s) (H := H) (E := E)
  exact (jss_cons (js_if (jt_cmp op_gt ok_cmp (nomark _) (jo_e (je_ix ix_seq ok_ix (jo_v 0) (jo_e je_int))) (jo_e je_int)) (jss_cons (js_set 2 hN (je_op op_mod ok_mod (jo_e (je_ix ix_seq ok_ix (jo_v 0) (jo_e je_int))) (jo_v 1)))
 (jss_cons (js_setix 0 (isV 0) je_int (je_op op_fdivW ok_fdiv (jo_e (je_ix ix_seq ok_ix (jo_v 0) (jo_e je_int))) (jo_v 1)))
 (jss_cons (js_ret (je_move 2))
 jss_nil))) jss_nil)
 (jss_cons (js_setix 0 (isV 0) je_int (je_op opr_add ok_add (jo_e (je_ix ix_seq ok_ix (jo_v 0) (jo_e je_int))) (jo_e je_int)))
 (jss_cons (js_set 3 hN (je_op op_mod ok_mod (jo_e (je_op op_powX ok_pow (jo_e (je_op opr_add ok_add (jo_e (je_ix ix_seq ok_ix (jo_v 0) (jo_e je_int))) (jo_e (je_op opr_mul ok_mul (jo_e je_int) (jo_e (je_ix ix_seq ok_ix (jo_v 0) (jo_e je_int))))))) (jo_e je_int))) (jo_e (je_op opr_add ok_add (jo_e (je_op op_powX ok_pow (jo_e je_int) (jo_e je_int))) (jo_e je_int)))))
 (jss_cons (js_set 3 hN (je_op op_mod ok_mod (jo_e (je_op op_powX ok_pow (jo_e (je_op opr_add ok_add (jo_v 3) (jo_e (je_op opr_mul ok_mul (jo_e je_int) (jo_e (je_ix ix_seq ok_ix (jo_v 0) (jo_e je_int))))))) (jo_e je_int))) (jo_e (je_op opr_add ok_add (jo_e (je_op op_powX ok_pow (jo_e je_int) (jo_e je_int))) (jo_e je_int)))))
 (jss_cons (js_ret (je_op op_mod ok_mod (jo_e (je_op op_fdivW ok_fdiv (jo_v 3) (jo_e je_int))) (jo_v 1)))
 jss_nil)))))
theorem sc__law_line : FnScope ["source", "most", "wide", "at", "found", "k", "count"] ["source", "most", "wide"] (defScope (top 23)) := ⟨rfl, rfl, rfl, by decide +kernel, rfl, by decide +kernel, by decide +kernel⟩
theorem ok__law_line (C : Fc K mg) : FnK P w K mg base 2 3 "_law_line" ["source", "most", "wide"] [] F_law_line := by
  obtain ⟨fd, F⟩ := C.d__law_line
  have hN := sc__law_line.nd
  refine fnK_of F C.g__law_line sc__law_line (n := 3) (k := 4) rfl rfl (F.bindsN fun _ _ _ _ _ _ us hl => match us, hl with | [_, _, _], _ => rfl) (fun q hq => by cases hq) (lev := 1) (m := B_law_line) fun cdv A outer s H E io hr => ?_
  have tk := bx_takes (P := P) (w := w) (K := K) (mg := mg) (base := base) (N := ["source", "most", "wide", "at", "found", "k", "count"]) (qual := "_law_line") (scope := defScope (top 23)) (f := He.ga K "_law_line") (cdv := cdv) (A := A) (outer := outer) (s := s) (H := H) (E := E)
  have hp := bx_passes (P := P) (w := w) (K := K) (mg := mg) (base := base) (N := ["source", "most", "wide", "at", "found", "k", "count"]) (qual := "_law_line") (scope := defScope (top 23)) (f := He.ga K "_law_line") (cdv := cdv) (A := A) (outer := outer) (s := s) (H := H) (E := E)
  exact (jss_cons (js_par (i := 3) (j := 4) rfl hN (je_callF tk (ok__law_draw C) hr (by decide) (jos_cons (jo_v 0) (jos_cons (jo_e je_int) jos_nil)) rfl) (je_lst jes_nil))
 (jss_cons (js_for hp rfl (ji_range1 C.b_range (jes_cons (je_op opr_add ok_add (jo_e je_int) (jo_e (je_callF tk (ok__law_draw C) hr (by decide) (jos_cons (jo_v 0) (jos_cons (jo_e (je_var 1)) jos_nil)) rfl))) jes_nil)) (jg_name 5 hN) (jss_cons (js_set 6 hN (je_ix ix_seq ok_ix (jo_e (je_lst (jes_cons je_int (jes_cons (je_op opr_add ok_add (jo_e je_int) (jo_e (je_callF tk (ok__law_draw C) hr (by decide) (jos_cons (jo_v 0) (jos_cons (jo_e je_int) jos_nil)) rfl))) (jes_cons (je_op opr_add ok_add (jo_e je_int) (jo_e (je_callF tk (ok__law_draw C) hr (by decide) (jos_cons (jo_v 0) (jos_cons (jo_e (je_var 2)) jos_nil)) rfl))) jes_nil))))) (jo_e (je_callF tk (ok__law_draw C) hr (by decide) (jos_cons (jo_v 0) (jos_cons (jo_e je_int) jos_nil)) rfl))))
 (jss_cons (js_expr (je_append 4 (isV 4) (je_tup (jes_cons (je_ix ix_seq ok_ix (jo_e je_str) (jo_e (je_op op_mod ok_mod (jo_e (je_op opr_add ok_add (jo_v 3) (jo_v 5))) (jo_e je_int)))) (jes_cons (je_var 6) jes_nil)))))
 jss_nil)))
 (jss_cons (js_ret (je_callTy call_tuple_of ok_tuple C.b_tuple (by decide +kernel) (jos_cons (jo_v 4) jos_nil)))
 jss_nil)))
theorem sc__law_rows : FnScope ["line", "wanted", "found", "last", "before", "side_here", "many"] ["line", "wanted"] (defScope (top 27)) := ⟨rfl, rfl, rfl, by decide +kernel, rfl, by decide +kernel, by decide +kernel⟩
theorem ok__law_rows (C : Fc K mg) : FnK P w K mg base 1 2 "_law_rows" ["line", "wanted"] [] F_law_rows := by
  obtain ⟨fd, F⟩ := C.d__law_rows
  have hN := sc__law_rows.nd
  refine fnK_of F C.g__law_rows sc__law_rows (n := 2) (k := 5) rfl rfl (F.bindsN fun _ _ _ _ _ _ us hl => match us, hl with | [_, _], _ => rfl) (fun q hq => by cases hq) (lev := 0) (m := B_law_rows) fun cdv A outer s H E io hr => ?_
  have tk := bx_takes (P := P) (w := w) (K := K) (mg := mg) (base := base) (N := ["line", "wanted", "found", "last", "before", "side_here", "many"]) (qual := "_law_rows") (scope := defScope (top 27)) (f := He.ga K "_law_rows") (cdv := cdv) (A := A) (outer := outer) (s := s) (H := H) (E := E)
  have hp := bx_passes (P := P) (w := w) (K := K) (mg := mg) (base := base) (N := ["line", "wanted", "found", "last", "before", "side_here", "many"]) (qual := "_law_rows") (scope := defScope (top 27)) (f := He.ga K "_law_rows") (cdv := cdv) (A := A) (outer := outer) (s := s) (H := H) (E := E)
  exact (jss_cons (js_par3 (i := 2) (j := 3) (l := 4) rfl hN (je_lst jes_nil) je_int je_int)
 (jss_cons (js_for hp rfl (ji_seq (je_var 0)) (jg_seq rfl (jgs_cons (jg_name 5 hN) (jgs_cons (jg_name 6 hN) jgs_nil))) (jss_cons (js_if (jt_cmp (op_eqD (u64 hr)) ok_eq (nomark _) (jo_v 5) (jo_v 1)) (jss_cons (js_expr (je_append 2 (isV 2) (je_tup (jes_cons (je_var 4) (jes_cons (je_op opr_add ok_add (jo_v 3) (jo_e je_int)) (jes_cons (je_var 6) jes_nil))))))
 (jss_cons (js_set 4 hN (je_op opr_add ok_add (jo_v 4) (jo_v 6)))
 jss_nil)) jss_nil)
 (jss_cons (js_set 3 hN (je_op opr_add ok_add (jo_v 3) (jo_v 6)))
 jss_nil)))
 (jss_cons (js_ret (je_move 2))
 jss_nil)))
theorem sc_is_integer : FnScope ["value", "low"] ["value", "low"] (defScope (top 9)) := ⟨rfl, rfl, rfl, by decide +kernel, rfl, by decide +kernel, by decide +kernel⟩
theorem ok_is_integer (C : Fc K mg) : FnK P w K mg base 1 2 "is_integer" ["value", "low"] [] Fis_integer := by
  obtain ⟨fd, F⟩ := C.d_is_integer
  have hN := sc_is_integer.nd
  refine fnK_of F C.g_is_integer sc_is_integer (n := 2) (k := 0) rfl rfl (F.bindsN fun _ _ _ _ _ _ us hl => match us, hl with | [_, _], _ => rfl) (fun q hq => by cases hq) (lev := 0) (m := Bis_integer) fun cdv A outer s H E io hr => ?_
  have tk := bx_takes (P := P) (w := w) (K := K) (mg := mg) (base := base) (N := ["value", "low"]) (qual := "is_integer") (scope := defScope (top 9)) (f := He.ga K "is_integer") (cdv := cdv) (A := A) (outer := outer) (s := s) (H := H) (E := E)
  have hp := bx_passes (P := P) (w := w) (K := K) (mg := mg) (base := base) (N := ["value", "low"]) (qual := "is_integer") (scope := defScope (top 9)) (f := He.ga K "is_integer") (cdv := cdv) (A := A) (outer := outer) (s := s) (H := H) (E := E)
  exact (jss_cons (js_ret (je_and (je_isi C.b_isinstance (jo_v 0) (isT C.b_int (by decide +kernel))) (je_and (je_not (je_isi C.b_isinstance (jo_v 0) (isT C.b_bool (by decide +kernel)))) (je_one (je_cmp op_ge ok_cmp (nomark _) (jo_v 0) (jo_v 1))))))
 jss_nil)
theorem sc_is_side : FnScope ["value"] ["value"] (defScope (top 10)) := ⟨rfl, rfl, rfl, by decide +kernel, rfl, by decide +kernel, by decide +kernel⟩
theorem ok_is_side (C : Fc K mg) : FnK P w K mg base 1 1 "is_side" ["value"] [] Fis_side := by
  obtain ⟨fd, F⟩ := C.d_is_side
  have hN := sc_is_side.nd
  refine fnK_of F C.g_is_side sc_is_side (n := 1) (k := 0) rfl rfl (F.bindsN fun _ _ _ _ _ _ us hl => match us, hl with | [_], _ => rfl) (fun q hq => by cases hq) (lev := 0) (m := Bis_side) fun cdv A outer s H E io hr => ?_
  have tk := bx_takes (P := P) (w := w) (K := K) (mg := mg) (base := base) (N := ["value"]) (qual := "is_side") (scope := defScope (top 10)) (f := He.ga K "is_side") (cdv := cdv) (A := A) (outer := outer) (s := s) (H := H) (E := E)
  have hp := bx_passes (P := P) (w := w) (K := K) (mg := mg) (base := base) (N := ["value"]) (qual := "is_side") (scope := defScope (top 10)) (f := He.ga K "is_side") (cdv := cdv) (A := A) (outer := outer) (s := s) (H := H) (E := E)
  exact (jss_cons (js_ret (je_and (je_isi C.b_isinstance (jo_v 0) (isT C.b_str (by decide +kernel))) (je_one (je_cmp (opr_in (u65 hr)) ok_in rfl (jo_v 0) (jo_e (je_tup (jes_cons (je_gstr C.c_LEFT) (jes_cons (je_gstr C.c_RIGHT) jes_nil))))))))
 jss_nil)
theorem sc_is_run : FnScope ["value"] ["value"] (defScope (top 11)) := ⟨rfl, rfl, rfl, by decide +kernel, rfl, by decide +kernel, by decide +kernel⟩
theorem ok_is_run (C : Fc K mg) : FnK P w K mg base 2 1 "is_run" ["value"] [] Fis_run := by
  obtain ⟨fd, F⟩ := C.d_is_run
  have hN := sc_is_run.nd
  refine fnK_of F C.g_is_run sc_is_run (n := 1) (k := 0) rfl rfl (F.bindsN fun _ _ _ _ _ _ us hl => match us, hl with | [_], _ => rfl) (fun q hq => by cases hq) (lev := 1) (m := Bis_run) fun cdv A outer s H E io hr => ?_
  have tk := bx_takes (P := P) (w := w) (K := K) (mg := mg) (base := base) (N := ["value"]) (qual := "is_run") (scope := defScope (top 11)) (f := He.ga K "is_run") (cdv := cdv) (A := A) (outer := outer) (s := s) (H := H) (E := E)
  have hp := bx_passes (P := P) (w := w) (K := K) (mg := mg) (base := base) (N := ["value"]) (qual := "is_run") (scope := defScope (top 11)) (f := He.ga K "is_run") (cdv := cdv) (A := A) (outer := outer) (s := s) (H := H) (E := E)
  exact (jss_cons (js_ret (je_and (je_isi C.b_isinstance (jo_v 0) (isT C.b_tuple (by decide +kernel))) (je_and (je_cmp (op_eqD (u64 hr)) ok_eq (nomark _) (jo_e (je_callB call_len ok_len C.b_len (by decide +kernel) (jos_cons (jo_v 0) jos_nil))) (jo_e je_int)) (je_and (je_callF tk (ok_is_side C) hr (by decide) (jos_cons (jo_e (je_ix ix_seq ok_ix (jo_v 0) (jo_e je_int))) jos_nil) rfl) (je_one (je_callF tk (ok_is_integer C) hr (by decide) (jos_cons (jo_e (je_ix ix_seq ok_ix (jo_v 0) (jo_e je_int))) (jos_cons (jo_e je_int) jos_nil)) rfl))))))
 jss_nil)
theorem sc_is_posts : FnScope ["value", "one", "other", "run"] ["value"] (defScope (top 12)) := ⟨rfl, rfl, rfl, by decide +kernel, rfl, by decide +kernel, by decide +kernel⟩
theorem ok_is_posts (C : Fc K mg) : FnK P w K mg base 3 1 "is_posts" ["value"] [] Fis_posts := by
  obtain ⟨fd, F⟩ := C.d_is_posts
  have hN := sc_is_posts.nd
  refine fnK_of F C.g_is_posts sc_is_posts (n := 1) (k := 3) rfl rfl (F.bindsN fun _ _ _ _ _ _ us hl => match us, hl with | [_], _ => rfl) (fun q hq => by cases hq) (lev := 2) (m := Bis_posts) fun cdv A outer s H E io hr => ?_
  have tk := bx_takes (P := P) (w := w) (K := K) (mg := mg) (base := base) (N := ["value", "one", "other", "run"]) (qual := "is_posts") (scope := defScope (top 12)) (f := He.ga K "is_posts") (cdv := cdv) (A := A) (outer := outer) (s := s) (H := H) (E := E)
  have hp := bx_passes (P := P) (w := w) (K := K) (mg := mg) (base := base) (N := ["value", "one", "other", "run"]) (qual := "is_posts") (scope := defScope (top 12)) (f := He.ga K "is_posts") (cdv := cdv) (A := A) (outer := outer) (s := s) (H := H) (E := E)
  exact (jss_cons (js_if (jw_or (jt_not (jt_val (jo_e (je_isi C.b_isinstance (jo_v 0) (isT C.b_tuple (by decide +kernel)))))) (jw_or (jt_cmp (op_eqD (u64 hr)) ok_eq (nomark _) (jo_e (je_callB call_len ok_len C.b_len (by decide +kernel) (jos_cons (jo_v 0) jos_nil))) (jo_e je_int)) (jw_or1 (jt_not (jt_val (jo_e (je_callB (cr_all rfl) ok_all C.b_all (by decide +kernel) (jos_cons (jo_e (je_comp rfl hN [("run", 3)] (ji_seq (je_var 0)) (blkOk_by (by kernel_rfl)) (fun _ _ _ _ _ => ⟨(jgw_name 3 hN), jts_nil, (je_callF takes0 (ok_is_run C) hr (by decide) (jos_cons (jo_e (je_var 3)) jos_nil) rfl)⟩))) jos_nil)))))))).jt (jss_cons (js_ret je_bl)
 jss_nil) jss_nil)
 (jss_cons (js_ret (je_callB (cr_all rfl) ok_all C.b_all (by decide +kernel) (jos_cons (jo_e (je_comp rfl hN [("one", 1), ("other", 2)] (ji_zip C.b_zip (jes_cons (je_var 0) (jes_cons (je_slice (jo_v 0) (jo_e je_int) trivial) jes_nil))) (blkOk_by (by kernel_rfl)) (fun _ _ _ _ _ => ⟨(jgw_seq rfl (jgsw_cons (jgw_name 1 hN) (jgsw_cons (jgw_name 2 hN) jgsw_nil))), jts_nil, (je_cmp (op_neD (u64 hr)) ok_ne (nomark _) (jo_e (je_ix ix_seq ok_ix (jo_v 1) (jo_e je_int))) (jo_e (je_ix ix_seq ok_ix (jo_v 2) (jo_e je_int))))⟩))) jos_nil)))
 jss_nil))
theorem sc_check_posts : FnScope ["posts"] ["posts"] (defScope (top 13)) := ⟨rfl, rfl, rfl, by decide +kernel, rfl, by decide +kernel, by decide +kernel⟩
theorem ok_check_posts (C : Fc K mg) : FnK P w K mg base 4 1 "check_posts" ["posts"] [] Fcheck_posts := by
  obtain ⟨fd, F⟩ := C.d_check_posts
  have hN := sc_check_posts.nd
  refine fnK_of F C.g_check_posts sc_check_posts (n := 1) (k := 0) rfl rfl (F.bindsN fun _ _ _ _ _ _ us hl => match us, hl with | [_], _ => rfl) (fun q hq => by cases hq) (lev := 3) (m := Bcheck_posts) fun cdv A outer s H E io hr => ?_
  have tk := bx_takes (P := P) (w := w) (K := K) (mg := mg) (base := base) (N := ["posts"]) (qual := "check_posts") (scope := defScope (top 13)) (f := He.ga K "check_posts") (cdv := cdv) (A := A) (outer := outer) (s := s) (H := H) (E := E)
  have hp := bx_passes (P := P) (w := w) (K := K) (mg := mg) (base := base) (N := ["posts"]) (qual := "check_posts") (scope := defScope (top 13)) (f := He.ga K "check_posts") (cdv := cdv) (A := A) (outer := outer) (s := s) (H := H) (E := E)
  exact (jss_cons (js_if (jt_not (jt_val (jo_e (je_callF tk (ok_is_posts C) hr (by decide) (jos_cons (jo_e (je_var 0)) jos_nil) rfl)))) (jss_cons (js_raise0 tk rfl C.x_InvalidPosts)
 jss_nil) jss_nil)
 jss_nil)
theorem sc_place_of_side : FnScope ["posts", "side", "index", "last", "own", "count"] ["posts", "side", "index"] (defScope (top 17)) := ⟨rfl, rfl, rfl, by decide +kernel, rfl, by decide +kernel, by decide +kernel⟩
theorem ok_place_of_side (C : Fc K mg) : FnK P w K mg base 1 3 "place_of_side" ["posts", "side", "index"] [] Fplace_of_side := by
  obtain ⟨fd, F⟩ := C.d_place_of_side
  have hN := sc_place_of_side.nd
  refine fnK_of F C.g_place_of_side sc_place_of_side (n := 3) (k := 3) rfl rfl (F.bindsN fun _ _ _ _ _ _ us hl => match us, hl with | [_, _, _], _ => rfl) (fun q hq => by cases hq) (lev := 0) (m := Bplace_of_side) fun cdv A outer s H E io hr => ?_
  have tk := bx_takes (P := P) (w := w) (K := K) (mg := mg) (base := base) (N := ["posts", "side", "index", "last", "own", "count"]) (qual := "place_of_side") (scope := defScope (top 17)) (f := He.ga K "place_of_side") (cdv := cdv) (A := A) (outer := outer) (s := s) (H := H) (E := E)
  have hp := bx_passes (P := P) (w := w) (K := K) (mg := mg) (base := base) (N := ["posts", "side", "index", "last", "own", "count"]) (qual := "place_of_side") (scope := defScope (top 17)) (f := He.ga K "place_of_side") (cdv := cdv) (A := A) (outer := outer) (s := s) (H := H) (E := E)
  exact (jss_cons (js_set 3 hN je_int)
 (jss_cons (js_for hp rfl (ji_seq (je_var 0)) (jg_seq rfl (jgs_cons (jg_name 4 hN) (jgs_cons (jg_name 5 hN) jgs_nil))) (jss_cons (js_if (jw_and (jt_cmp (op_eqD (u64 hr)) ok_eq (nomark _) (jo_v 4) (jo_v 1)) (jw_and1 (jt_cmp op_lt ok_cmp (nomark _) (jo_v 2) (jo_v 5)))).jt (jss_cons (js_ret (je_op opr_add ok_add (jo_e (je_op opr_add ok_add (jo_v 3) (jo_e je_int))) (jo_v 2)))
 jss_nil) jss_nil)
 (jss_cons (js_if (jt_cmp (op_eqD (u64 hr)) ok_eq (nomark _) (jo_v 4) (jo_v 1)) (jss_cons (js_aug 2 hN (je_var 5) iop_sub ok_sub)
 jss_nil) jss_nil)
 (jss_cons (js_aug 3 hN (je_var 5) opr_iadd ok_iadd)
 jss_nil))))
 (jss_cons (js_ret je_non)
 jss_nil)))
theorem sc_place_of : FnScope ["posts", "side", "index"] ["posts", "side", "index"] (defScope (top 19)) := ⟨rfl, rfl, rfl, by decide +kernel, rfl, by decide +kernel, by decide +kernel⟩
theorem ok_place_of (C : Fc K mg) : FnK P w K mg base 5 3 "place_of" ["posts", "side", "index"] [(0, ["index", "side", "posts"], [2, 1, 0])] Fplace_of := by
  obtain ⟨fd, F⟩ := C.d_place_of
  have hN := sc_place_of.nd
  have hkw : ∀ q ∈ ([(0, ["index", "side", "posts"], [2, 1, 0])] : List (Nat × List Str × List Nat)), KB fd ["posts", "side", "index"] q.2.1 q.1 q.2.2 := by
    intro q hq
    simp only [List.mem_cons, List.not_mem_nil, or_false] at hq
    subst hq
    · exact kb_of F fun _ _ _ _ _ _ us ws h1 h2 => match us, h1, ws, h2 with | [], _, [_, _, _], _ => rfl
  refine fnK_of F C.g_place_of sc_place_of (n := 3) (k := 0) rfl rfl (F.bindsN fun _ _ _ _ _ _ us hl => match us, hl with | [_, _, _], _ => rfl) (fun q hq => hkw q hq) (lev := 4) (m := Bplace_of) fun cdv A outer s H E io hr => ?_
  have tk := bx_takes (P := P) (w := w) (K := K) (mg := mg) (base := base) (N := ["posts", "side", "index"]) (qual := "place_of") (scope := defScope (top 19)) (f := He.ga K "place_of") (cdv := cdv) (A := A) (outer := outer) (s := s) (H := H) (E := E)
  have hp := bx_passes (P := P) (w := w) (K := K) (mg := mg) (base := base) (N := ["posts", "side", "index"]) (qual := "place_of") (scope := defScope (top 19)) (f := He.ga K "place_of") (cdv := cdv) (A := A) (outer := outer) (s := s) (H := H) (E := E)
  exact (jss_cons (js_expr (je_callF tk (ok_check_posts C) hr (by decide) (jos_cons (jo_e (je_var 0)) jos_nil) rfl))
 (jss_cons (js_if (jt_not (jt_val (jo_e (je_callF tk (ok_is_side C) hr (by decide) (jos_cons (jo_e (je_var 1)) jos_nil) rfl)))) (jss_cons (js_raise0 tk rfl C.x_InvalidSide)
 jss_nil) jss_nil)
 (jss_cons (js_if (jt_not (jt_val (jo_e (je_callF tk (ok_is_integer C) hr (by decide) (jos_cons (jo_e (je_var 2)) (jos_cons (jo_e je_int) jos_nil)) rfl)))) (jss_cons (js_raise0 tk rfl C.x_InvalidNumber)
 jss_nil) jss_nil)
 (jss_cons (js_ret (je_callF tk (ok_place_of_side C) hr (by decide) (jos_cons (jo_e (je_var 0)) (jos_cons (jo_e (je_var 1)) (jos_cons (jo_e (je_var 2)) jos_nil))) rfl))
 jss_nil))))
theorem sc_count_posts : FnScope ["posts", "side", "count"] ["posts"] (defScope (top 14)) := ⟨rfl, rfl, rfl, by decide +kernel, rfl, by decide +kernel, by decide +kernel⟩
theorem ok_count_posts (C : Fc K mg) : FnK P w K mg base 1 1 "count_posts" ["posts"] [] Fcount_posts := by
  obtain ⟨fd, F⟩ := C.d_count_posts
  have hN := sc_count_posts.nd
  refine fnK_of F C.g_count_posts sc_count_posts (n := 1) (k := 2) rfl rfl (F.bindsN fun _ _ _ _ _ _ us hl => match us, hl with | [_], _ => rfl) (fun q hq => by cases hq) (lev := 0) (m := Bcount_posts) fun cdv A outer s H E io hr => ?_
  have tk := bx_takes (P := P) (w := w) (K := K) (mg := mg) (base := base) (N := ["posts", "side", "count"]) (qual := "count_posts") (scope := defScope (top 14)) (f := He.ga K "count_posts") (cdv := cdv) (A := A) (outer := outer) (s := s) (H := H) (E := E)
  have hp := bx_passes (P := P) (w := w) (K := K) (mg := mg) (base := base) (N := ["posts", "side", "count"]) (qual := "count_posts") (scope := defScope (top 14)) (f := He.ga K "count_posts") (cdv := cdv) (A := A) (outer := outer) (s := s) (H := H) (E := E)
  exact (jss_cons (js_ret (je_callB (cr_sum rfl) ok_sum C.b_sum (by decide +kernel) (jos_cons (jo_e (je_comp rfl hN [("side", 1), ("count", 2)] (ji_seq (je_var 0)) (blkOk_by (by kernel_rfl)) (fun _ _ _ _ _ => ⟨(jgw_seq rfl (jgsw_cons (jgw_name 1 hN) (jgsw_cons (jgw_name 2 hN) jgsw_nil))), jts_nil, (je_var 2)⟩))) jos_nil)))
 jss_nil)
theorem sc_is_place : FnScope ["posts", "value"] ["posts", "value"] (defScope (top 15)) := ⟨rfl, rfl, rfl, by decide +kernel, rfl, by decide +kernel, by decide +kernel⟩
theorem ok_is_place (C : Fc K mg) : FnK P w K mg base 2 2 "is_place" ["posts", "value"] [] Fis_place := by
  obtain ⟨fd, F⟩ := C.d_is_place
  have hN := sc_is_place.nd
  refine fnK_of F C.g_is_place sc_is_place (n := 2) (k := 0) rfl rfl (F.bindsN fun _ _ _ _ _ _ us hl => match us, hl with | [_, _], _ => rfl) (fun q hq => by cases hq) (lev := 1) (m := Bis_place) fun cdv A outer s H E io hr => ?_
  have tk := bx_takes (P := P) (w := w) (K := K) (mg := mg) (base := base) (N := ["posts", "value"]) (qual := "is_place") (scope := defScope (top 15)) (f := He.ga K "is_place") (cdv := cdv) (A := A) (outer := outer) (s := s) (H := H) (E := E)
  have hp := bx_passes (P := P) (w := w) (K := K) (mg := mg) (base := base) (N := ["posts", "value"]) (qual := "is_place") (scope := defScope (top 15)) (f := He.ga K "is_place") (cdv := cdv) (A := A) (outer := outer) (s := s) (H := H) (E := E)
  exact (jss_cons (js_ret (je_and (je_callF tk (ok_is_integer C) hr (by decide) (jos_cons (jo_e (je_var 1)) (jos_cons (jo_e je_int) jos_nil)) rfl) (je_one (je_cmp op_le ok_cmp (nomark _) (jo_v 1) (jo_e (je_callF tk (ok_count_posts C) hr (by decide) (jos_cons (jo_e (je_var 0)) jos_nil) rfl))))))
 jss_nil)
theorem sc_check_place : FnScope ["posts", "place"] ["posts", "place"] (defScope (top 16)) := ⟨rfl, rfl, rfl, by decide +kernel, rfl, by decide +kernel, by decide +kernel⟩
theorem ok_check_place (C : Fc K mg) : FnK P w K mg base 3 2 "check_place" ["posts", "place"] [] Fcheck_place := by
  obtain ⟨fd, F⟩ := C.d_check_place
  have hN := sc_check_place.nd
  refine fnK_of F C.g_check_place sc_check_place (n := 2) (k := 0) rfl rfl (F.bindsN fun _ _ _ _ _ _ us hl => match us, hl with | [_, _], _ => rfl) (fun q hq => by cases hq) (lev := 2) (m := Bcheck_place) fun cdv A outer s H E io hr => ?_
  have tk := bx_takes (P := P) (w := w) (K := K) (mg := mg) (base := base) (N := ["posts", "place"]) (qual := "check_place") (scope := defScope (top 16)) (f := He.ga K "check_place") (cdv := cdv) (A := A) (outer := outer) (s := s) (H := H) (E := E)
  have hp := bx_passes (P := P) (w := w) (K := K) (mg := mg) (base := base) (N := ["posts", "place"]) (qual := "check_place") (scope := defScope (top 16)) (f := He.ga K "check_place") (cdv := cdv) (A := A) (outer := outer) (s := s) (H := H) (E := E)
  exact (jss_cons (js_if (jt_not (jt_val (jo_e (je_callF tk (ok_is_place C) hr (by decide) (jos_cons (jo_e (je_var 0)) (jos_cons (jo_e (je_var 1)) jos_nil)) rfl)))) (jss_cons (js_raise0 tk rfl C.x_InvalidPlace)
 jss_nil) jss_nil)
 jss_nil)
theorem sc_side_at : FnScope ["posts", "place", "last", "side", "count"] ["posts", "place"] (defScope (top 18)) := ⟨rfl, rfl, rfl, by decide +kernel, rfl, by decide +kernel, by decide +kernel⟩
theorem ok_side_at (C : Fc K mg) : FnK P w K mg base 5 2 "side_at" ["posts", "place"] [] Fside_at := by
  obtain ⟨fd, F⟩ := C.d_side_at
  have hN := sc_side_at.nd
  refine fnK_of F C.g_side_at sc_side_at (n := 2) (k := 3) rfl rfl (F.bindsN fun _ _ _ _ _ _ us hl => match us, hl with | [_, _], _ => rfl) (fun q hq => by cases hq) (lev := 4) (m := Bside_at) fun cdv A outer s H E io hr => ?_
  have tk := bx_takes (P := P) (w := w) (K := K) (mg := mg) (base := base) (N := ["posts", "place", "last", "side", "count"]) (qual := "side_at") (scope := defScope (top 18)) (f := He.ga K "side_at") (cdv := cdv) (A := A) (outer := outer) (s := s) (H := H) (E := E)
  have hp := bx_passes (P := P) (w := w) (K := K) (mg := mg) (base := base) (N := ["posts", "place", "last", "side", "count"]) (qual := "side_at") (scope := defScope (top 18)) (f := He.ga K "side_at") (cdv := cdv) (A := A) (outer := outer) (s := s) (H := H) (E := E)
  exact (jss_cons (js_expr (je_callF tk (ok_check_posts C) hr (by decide) (jos_cons (jo_e (je_var 0)) jos_nil) rfl))
 (jss_cons (js_expr (je_callF tk (ok_check_place C) hr (by decide) (jos_cons (jo_e (je_var 0)) (jos_cons (jo_e (je_var 1)) jos_nil)) rfl))
 (jss_cons (js_set 2 hN je_int)
 (jss_cons (js_for hp rfl (ji_seq (je_var 0)) (jg_seq rfl (jgs_cons (jg_name 3 hN) (jgs_cons (jg_name 4 hN) jgs_nil))) (jss_cons (js_aug 2 hN (je_var 4) opr_iadd ok_iadd)
 (jss_cons (js_if (jt_cmp op_le ok_cmp (nomark _) (jo_v 1) (jo_v 2)) (jss_cons (js_ret (je_move 3))
 jss_nil) jss_nil)
 jss_nil)))
 (jss_cons (js_ret je_non)
 jss_nil)))))
theorem sc__law_right : FnScope ["source", "line", "before", "wanted", "rows", "total", "numbers", "earlier", "first", "many", "number", "due", "told"] ["source", "line"] (defScope (top 28)) := ⟨rfl, rfl, rfl, by decide +kernel, rfl, by decide +kernel, by decide +kernel⟩
theorem ok__law_right (C : Fc K mg) : FnK P w K mg base 6 2 "_law_right" ["source", "line"] [] F_law_right := by
  obtain ⟨fd, F⟩ := C.d__law_right
  have hN := sc__law_right.nd
  refine fnK_of F C.g__law_right sc__law_right (n := 2) (k := 11) rfl rfl (F.bindsN fun _ _ _ _ _ _ us hl => match us, hl with | [_, _], _ => rfl) (fun q hq => by cases hq) (lev := 5) (m := B_law_right) fun cdv A outer s H E io hr => ?_
  have tk := bx_takes (P := P) (w := w) (K := K) (mg := mg) (base := base) (N := ["source", "line", "before", "wanted", "rows", "total", "numbers", "earlier", "first", "many", "number", "due", "told"]) (qual := "_law_right") (scope := defScope (top 28)) (f := He.ga K "_law_right") (cdv := cdv) (A := A) (outer := outer) (s := s) (H := H) (E := E)
  have hp := bx_passes (P := P) (w := w) (K := K) (mg := mg) (base := base) (N := ["source", "line", "before", "wanted", "rows", "total", "numbers", "earlier", "first", "many", "number", "due", "told"]) (qual := "_law_right") (scope := defScope (top 28)) (f := He.ga K "_law_right") (cdv := cdv) (A := A) (outer := outer) (s := s) (H := H) (E := E)
  exact (jss_cons (js_set 2 hN (je_callB (call_reprG hr.gd (u66 hr)) ok_repr C.b_repr (by decide +kernel) (jos_cons (jo_v 1) jos_nil)))
 (jss_cons (js_for hp rfl (ji_seq je_str) (jg_name 3 hN) (jss_cons (js_set 4 hN (je_callF tk (ok__law_rows C) hr (by decide) (jos_cons (jo_e (je_var 1)) (jos_cons (jo_e (je_var 3)) jos_nil)) rfl))
 (jss_cons (js_set 5 hN (je_callB (cr_sum rfl) ok_sum C.b_sum (by decide +kernel) (jos_cons (jo_e (je_comp rfl hN [("earlier", 7), ("first", 8), ("many", 9)] (ji_seq (je_var 4)) (blkOk_by (by kernel_rfl)) (fun _ _ _ _ _ => ⟨(jgw_seq rfl (jgsw_cons (jgw_name 7 hN) (jgsw_cons (jgw_name 8 hN) (jgsw_cons (jgw_name 9 hN) jgsw_nil)))), jts_nil, (je_var 9)⟩))) jos_nil)))
 (jss_cons (js_set 6 hN (je_lst (jes_cons (je_var 5) (jes_cons (je_op opr_add ok_add (jo_v 5) (jo_e je_int)) (jes_cons (je_op opr_add ok_add (jo_v 5) (jo_e (je_callF tk (ok__law_draw C) hr (by decide) (jos_cons (jo_v 0) (jos_cons (jo_e (je_op op_powX ok_pow (jo_e je_int) (jo_e je_int))) jos_nil)) rfl))) (jes_cons je_int jes_nil))))))
 (jss_cons (js_for hp rfl (ji_seq (je_var 4)) (jg_seq rfl (jgs_cons (jg_name 7 hN) (jgs_cons (jg_name 8 hN) (jgs_cons (jg_name 9 hN) jgs_nil)))) (jss_cons (js_set 6 hN (je_op opr_add ok_add (jo_v 6) (jo_e (je_lst (jes_cons (je_var 7) (jes_cons (je_op op_sub ok_sub (jo_e (je_op opr_add ok_add (jo_v 7) (jo_v 9))) (jo_e je_int)) (jes_cons (je_op opr_add ok_add (jo_v 7) (jo_e (je_callF tk (ok__law_draw C) hr (by decide) (jos_cons (jo_v 0) (jos_cons (jo_e (je_var 9)) jos_nil)) rfl))) jes_nil)))))))
 jss_nil))
 (jss_cons (js_for hp rfl (ji_seq (je_var 6)) (jg_name 10 hN) (jss_cons (js_setComp 11 rfl hN [("earlier", 7), ("first", 8), ("many", 9)] (ji_seq (je_var 4)) (blkOk_by (by kernel_rfl)) (fun _ _ _ _ _ => ⟨(jgw_seq rfl (jgsw_cons (jgw_name 7 hN) (jgsw_cons (jgw_name 8 hN) (jgsw_cons (jgw_name 9 hN) jgsw_nil)))), (jts_one (jt_chain op_le ok_cmp op_lt ok_cmp (jo_v 7) (jo_v 10) (jo_e (je_op opr_add ok_add (jo_v 7) (jo_v 9))))), (je_op op_sub ok_sub (jo_e (je_op opr_add ok_add (jo_v 8) (jo_v 10))) (jo_v 7))⟩))
 (jss_cons (js_set 12 hN (je_callF tk (ok_place_of C) hr (by decide) (jos_cons (jo_e (je_var 1)) (jos_cons (jo_e (je_var 3)) (jos_cons (jo_e (je_var 10)) jos_nil))) rfl))
 (jss_cons (js_if (jw_or (jt_cmp (op_neD (u64 hr)) ok_ne (nomark _) (jo_v 12) (jo_e (je_ix ix_seq ok_ix (jo_e (je_op opr_add ok_add (jo_v 11) (jo_e (je_lst (jes_cons je_non jes_nil))))) (jo_e je_int)))) (jw_or1 (jt_cmp (op_neD (u64 hr)) ok_ne (nomark _) (jo_e (je_callFK0 tk (ok_place_of C) hr (by decide) 0 (jks_cons (jo_e (je_var 10)) (jks_cons (jo_e (je_var 3)) (jks_cons (jo_e (je_var 1)) jks_nil))) rfl rfl)) (jo_v 12)))).jt (jss_cons (js_ret je_bl)
 jss_nil) jss_nil)
 (jss_cons (js_if (jw_and (jt_cmp op_notN ok_isNot (nomark _) (jo_v 12) (jo_e je_non)) (jw_and1 (jt_cmp (op_neD (u64 hr)) ok_ne (nomark _) (jo_e (je_callF tk (ok_side_at C) hr (by decide) (jos_cons (jo_e (je_var 1)) (jos_cons (jo_e (je_var 12)) jos_nil)) rfl)) (jo_v 3)))).jt (jss_cons (js_ret je_bl)
 jss_nil) jss_nil)
 jss_nil)))))
 jss_nil))))))
 (jss_cons (js_ret (je_cmp op_eq ok_eqs (nomark _) (jo_e (je_callB (call_reprG hr.gd (u66 hr)) ok_repr C.b_repr (by decide +kernel) (jos_cons (jo_v 1) jos_nil))) (jo_v 2)))
 jss_nil)))
theorem sc__law_packed : FnScope ["sides", "found", "side_here"] ["sides"] (defScope (top 25)) := ⟨rfl, rfl, rfl, by decide +kernel, rfl, by decide +kernel, by decide +kernel⟩
theorem ok__law_packed (C : Fc K mg) : FnK P w K mg base 1 1 "_law_packed" ["sides"] [] F_law_packed := by
  obtain ⟨fd, F⟩ := C.d__law_packed
  have hN := sc__law_packed.nd
  refine fnK_of F C.g__law_packed sc__law_packed (n := 1) (k := 2) rfl rfl (F.bindsN fun _ _ _ _ _ _ us hl => match us, hl with | [_], _ => rfl) (fun q hq => by cases hq) (lev := 0) (m := B_law_packed) fun cdv A outer s H E io hr => ?_
  have tk := bx_takes (P := P) (w := w) (K := K) (mg := mg) (base := base) (N := ["sides", "found", "side_here"]) (qual := "_law_packed") (scope := defScope (top 25)) (f := He.ga K "_law_packed") (cdv := cdv) (A := A) (outer := outer) (s := s) (H := H) (E := E)
  have hp := bx_passes (P := P) (w := w) (K := K) (mg := mg) (base := base) (N := ["sides", "found", "side_here"]) (qual := "_law_packed") (scope := defScope (top 25)) (f := He.ga K "_law_packed") (cdv := cdv) (A := A) (outer := outer) (s := s) (H := H) (E := E)
  exact (jss_cons (js_set 1 hN (je_lst jes_nil))
 (jss_cons (js_for hp rfl (ji_seq (je_var 0)) (jg_name 2 hN) (jss_cons (js_if (jw_and (jt_cmp (op_neD (u64 hr)) ok_ne (nomark _) (jo_v 1) (jo_e (je_lst jes_nil))) (jw_and1 (jt_cmp (op_eqD (u64 hr)) ok_eq (nomark _) (jo_e (je_ix ix_seq ok_ix (jo_e (je_ix ix_seq ok_ix (jo_v 1) (jo_e (je_un un_neg ok_neg (jo_e je_int))))) (jo_e je_int))) (jo_v 2)))).jt (jss_cons (js_setix 1 (isV 1) (je_un un_neg ok_neg (jo_e je_int)) (je_tup (jes_cons (je_var 2) (jes_cons (je_op opr_add ok_add (jo_e (je_ix ix_seq ok_ix (jo_e (je_ix ix_seq ok_ix (jo_v 1) (jo_e (je_un un_neg ok_neg (jo_e je_int))))) (jo_e je_int))) (jo_e je_int)) jes_nil))))
 jss_nil) (jss_cons (js_expr (je_append 1 (isV 1) (je_tup (jes_cons (je_var 2) (jes_cons je_int jes_nil)))))
 jss_nil))
 jss_nil))
 (jss_cons (js_ret (je_callTy call_tuple_of ok_tuple C.b_tuple (by decide +kernel) (jos_cons (jo_v 1) jos_nil)))
 jss_nil)))
theorem sc__law_sides : FnScope ["source", "most", "way", "first", "found", "k"] ["source", "most"] (defScope (top 24)) := ⟨rfl, rfl, rfl, by decide +kernel, rfl, by decide +kernel, by decide +kernel⟩
theorem ok__law_sides (C : Fc K mg) : FnK P w K mg base 2 2 "_law_sides" ["source", "most"] [] F_law_sides := by
  obtain ⟨fd, F⟩ := C.d__law_sides
  have hN := sc__law_sides.nd
  refine fnK_of F C.g__law_sides sc__law_sides (n := 2) (k := 4) rfl rfl (F.bindsN fun _ _ _ _ _ _ us hl => match us, hl with | [_, _], _ => rfl) (fun q hq => by cases hq) (lev := 1) (m := B_law_sides) fun cdv A outer s H E io hr => ?_
  have tk := bx_takes (P := P) (w := w) (K := K) (mg := mg) (base := base) (N := ["source", "most", "way", "first", "found", "k"]) (qual := "_law_sides") (scope := defScope (top 24)) (f := He.ga K "_law_sides") (cdv := cdv) (A := A) (outer := outer) (s := s) (H := H) (E := E)
  have hp := bx_passes (P := P) (w := w) (K := K) (mg := mg) (base := base) (N := ["source", "most", "way", "first", "found", "k"]) (qual := "_law_sides") (scope := defScope (top 24)) (f := He.ga K "_law_sides") (cdv := cdv) (A := A) (outer := outer) (s := s) (H := H) (E := E)
  exact (jss_cons (js_par3 (i := 2) (j := 3) (l := 4) rfl hN (je_callF tk (ok__law_draw C) hr (by decide) (jos_cons (jo_v 0) (jos_cons (jo_e je_int) jos_nil)) rfl) (je_callF tk (ok__law_draw C) hr (by decide) (jos_cons (jo_v 0) (jos_cons (jo_e je_int) jos_nil)) rfl) (je_lst jes_nil))
 (jss_cons (js_for hp rfl (ji_range1 C.b_range (jes_cons (je_op opr_add ok_add (jo_e je_int) (jo_e (je_callF tk (ok__law_draw C) hr (by decide) (jos_cons (jo_v 0) (jos_cons (jo_e (je_var 1)) jos_nil)) rfl))) jes_nil)) (jg_name 5 hN) (jss_cons (js_set 3 hN (je_ix ix_seq ok_ix (jo_e (je_lst (jes_cons (je_callF tk (ok__law_draw C) hr (by decide) (jos_cons (jo_v 0) (jos_cons (jo_e je_int) jos_nil)) rfl) (jes_cons (je_op op_mod ok_mod (jo_e (je_op opr_add ok_add (jo_v 3) (jo_e (je_callTy call_int1 ok_int C.b_int (by decide +kernel) (jos_cons (jo_e (je_cmp (op_eqD (u64 hr)) ok_eq (nomark _) (jo_e (je_callF tk (ok__law_draw C) hr (by decide) (jos_cons (jo_v 0) (jos_cons (jo_e je_int) jos_nil)) rfl)) (jo_e je_int))) jos_nil))))) (jo_e je_int)) (jes_cons (je_var 3) (jes_cons (je_op op_sub ok_sub (jo_e je_int) (jo_v 3)) jes_nil)))))) (jo_v 2)))
 (jss_cons (js_expr (je_append 4 (isV 4) (je_ix ix_seq ok_ix (jo_e je_str) (jo_v 3))))
 jss_nil)))
 (jss_cons (js_ret (je_move 4))
 jss_nil)))
theorem sc__law_small_right : FnScope ["source", "sides", "line", "found", "wanted", "many", "spots", "number", "k"] ["source"] (defScope (top 29)) := ⟨rfl, rfl, rfl, by decide +kernel, rfl, by decide +kernel, by decide +kernel⟩
theorem ok__law_small_right (C : Fc K mg) : FnK P w K mg base 6 1 "_law_small_right" ["source"] [] F_law_small_right := by
  obtain ⟨fd, F⟩ := C.d__law_small_right
  have hN := sc__law_small_right.nd
  refine fnK_of F C.g__law_small_right sc__law_small_right (n := 1) (k := 8) rfl rfl (F.bindsN fun _ _ _ _ _ _ us hl => match us, hl with | [_], _ => rfl) (fun q hq => by cases hq) (lev := 5) (m := B_law_small_right) fun cdv A outer s H E io hr => ?_
  have tk := bx_takes (P := P) (w := w) (K := K) (mg := mg) (base := base) (N := ["source", "sides", "line", "found", "wanted", "many", "spots", "number", "k"]) (qual := "_law_small_right") (scope := defScope (top 29)) (f := He.ga K "_law_small_right") (cdv := cdv) (A := A) (outer := outer) (s := s) (H := H) (E := E)
  have hp := bx_passes (P := P) (w := w) (K := K) (mg := mg) (base := base) (N := ["source", "sides", "line", "found", "wanted", "many", "spots", "number", "k"]) (qual := "_law_small_right") (scope := defScope (top 29)) (f := He.ga K "_law_small_right") (cdv := cdv) (A := A) (outer := outer) (s := s) (H := H) (E := E)
  exact (jss_cons (js_set 1 hN (je_callF tk (ok__law_sides C) hr (by decide) (jos_cons (jo_v 0) (jos_cons (jo_e je_int) jos_nil)) rfl))
 (jss_cons (js_asg (je_tup (jes_cons (je_callF tk (ok__law_packed C) hr (by decide) (jos_cons (jo_e (je_var 1)) jos_nil) rfl) (jes_cons (je_lst jes_nil) jes_nil))) (jg_seq rfl (jgs_cons (jg_name 2 hN) (jgs_cons (jg_name 3 hN) jgs_nil))))
 (jss_cons (js_for hp rfl (ji_seq je_str) (jg_name 4 hN) (jss_cons (js_set 5 hN (je_cnt (jo_v 1) (je_var 4)))
 (jss_cons (js_setComp 6 rfl hN [("number", 7)] (ji_range1 C.b_range (jes_cons (je_op opr_add ok_add (jo_v 5) (jo_e je_int)) jes_nil)) (blkOk_by (by kernel_rfl)) (fun _ _ _ _ _ => ⟨(jgw_name 7 hN), jts_nil, (je_callF takes0 (ok_place_of C) hr (by decide) (jos_cons (jo_e (je_var 2)) (jos_cons (jo_e (je_var 4)) (jos_cons (jo_e (je_var 7)) jos_nil))) rfl)⟩))
 (jss_cons (js_if (jt_cmp (op_neD (u64 hr)) ok_ne (nomark _) (jo_v 6) (jo_e (je_op opr_add ok_add (jo_e (je_comp rfl hN [("k", 8)] (ji_range1 C.b_range (jes_cons (je_callB call_len ok_len C.b_len (by decide +kernel) (jos_cons (jo_v 1) jos_nil)) jes_nil)) (blkOk_by (by kernel_rfl)) (fun _ _ _ _ _ => ⟨(jgw_name 8 hN), (jts_one (jt_cmp (op_eqD (u64 hr)) ok_eq (nomark _) (jo_e (je_ix ix_seq ok_ix (jo_v 1) (jo_v 8))) (jo_v 4))), (je_op opr_add ok_add (jo_v 8) (jo_e je_int))⟩))) (jo_e (je_lst (jes_cons je_non (jes_cons je_non jes_nil))))))) (jss_cons (js_ret je_bl)
 jss_nil) jss_nil)
 (jss_cons (js_set 3 hN (je_op opr_add ok_add (jo_v 3) (jo_e (je_slice (jo_v 6) trivial (jo_e (je_var 5))))))
 jss_nil)))))
 (jss_cons (js_ret (je_cmp (op_eqD (u64 hr)) ok_eq (nomark _) (jo_e (je_callB cr_sortedI ok_sort C.b_sorted (by decide +kernel) (jos_cons (jo_v 3) jos_nil))) (jo_e (je_lr rfl C.b_list C.b_range (jes_cons je_int (jes_cons (je_op opr_add ok_add (jo_e (je_callB call_len ok_len C.b_len (by decide +kernel) (jos_cons (jo_v 1) jos_nil))) (jo_e je_int)) jes_nil))))))
 jss_nil))))
theorem sc__law_source : FnScope ["script", "k", "cell"] ["script", "k"] (defScope (top 21)) := ⟨rfl, rfl, rfl, by decide +kernel, rfl, by decide +kernel, by decide +kernel⟩
theorem ok__law_source (C : Fc K mg) : FnK P w K mg base 1 2 "_law_source" ["script", "k"] [] F_law_source := by
  obtain ⟨fd, F⟩ := C.d__law_source
  have hN := sc__law_source.nd
  refine fnK_of F C.g__law_source sc__law_source (n := 2) (k := 1) rfl rfl (F.bindsN fun _ _ _ _ _ _ us hl => match us, hl with | [_, _], _ => rfl) (fun q hq => by cases hq) (lev := 0) (m := B_law_source) fun cdv A outer s H E io hr => ?_
  have tk := bx_takes (P := P) (w := w) (K := K) (mg := mg) (base := base) (N := ["script", "k", "cell"]) (qual := "_law_source") (scope := defScope (top 21)) (f := He.ga K "_law_source") (cdv := cdv) (A := A) (outer := outer) (s := s) (H := H) (E := E)
  have hp := bx_passes (P := P) (w := w) (K := K) (mg := mg) (base := base) (N := ["script", "k", "cell"]) (qual := "_law_source") (scope := defScope (top 21)) (f := He.ga K "_law_source") (cdv := cdv) (A := A) (outer := outer) (s := s) (H := H) (E := E)
  exact (jss_cons (js_set 2 hN (je_if (jt_cmp op_lt ok_cmp (nomark _) (jo_v 1) (jo_e (je_callB call_len ok_len C.b_len (by decide +kernel) (jos_cons (jo_v 0) jos_nil)))) (je_ix ix_seq ok_ix (jo_v 0) (jo_v 1)) je_int))
 (jss_cons (js_ret (je_lst (jes_cons (je_callB (call_max2 rfl) ok_max2 C.b_max (by decide +kernel) (jos_cons (jo_e je_int) (jos_cons (jo_e (je_op op_sub ok_sub (jo_e (je_callB call_abs ok_abs C.b_abs (by decide +kernel) (jos_cons (jo_v 2) jos_nil))) (jo_e (je_op op_powX ok_pow (jo_e je_int) (jo_e je_int))))) jos_nil))) (jes_cons (je_op opr_add ok_add (jo_e (je_op op_mod ok_mod (jo_v 2) (jo_e (je_op opr_add ok_add (jo_e (je_op op_powX ok_pow (jo_e je_int) (jo_e je_int))) (jo_e je_int))))) (jo_e (je_op opr_mul ok_mul (jo_e je_int) (jo_v 1)))) (jes_cons je_int jes_nil)))))
 jss_nil))
theorem sc_law : FnScope ["script", "k", "source", "turn", "most", "line"] ["script"] (defScope (top 30)) := ⟨rfl, rfl, rfl, by decide +kernel, rfl, by decide +kernel, by decide +kernel⟩
theorem ok_law (C : Fc K mg) : FnK P w K mg base 7 1 "law" ["script"] [] Flaw := by
  obtain ⟨fd, F⟩ := C.d_law
  have hN := sc_law.nd
  refine fnK_of F C.g_law sc_law (n := 1) (k := 5) rfl rfl (F.bindsN fun _ _ _ _ _ _ us hl => match us, hl with | [_], _ => rfl) (fun q hq => by cases hq) (lev := 6) (m := Blaw) fun cdv A outer s H E io hr => ?_
  have tk := bx_takes (P := P) (w := w) (K := K) (mg := mg) (base := base) (N := ["script", "k", "source", "turn", "most", "line"]) (qual := "law") (scope := defScope (top 30)) (f := He.ga K "law") (cdv := cdv) (A := A) (outer := outer) (s := s) (H := H) (E := E)
  have hp := bx_passes (P := P) (w := w) (K := K) (mg := mg) (base := base) (N := ["script", "k", "source", "turn", "most", "line"]) (qual := "law") (scope := defScope (top 30)) (f := He.ga K "law") (cdv := cdv) (A := A) (outer := outer) (s := s) (H := H) (E := E)
  exact (jss_cons (js_for hp rfl (ji_range1 C.b_range (jes_cons (je_callB (call_max2 rfl) ok_max2 C.b_max (by decide +kernel) (jos_cons (jo_e je_int) (jos_cons (jo_e (je_callB (call_min2 rfl) ok_min2 C.b_min (by decide +kernel) (jos_cons (jo_e je_int) (jos_cons (jo_e (je_callB call_len ok_len C.b_len (by decide +kernel) (jos_cons (jo_v 0) jos_nil))) jos_nil)))) jos_nil))) jes_nil)) (jg_name 1 hN) (jss_cons (js_set 2 hN (je_callF tk (ok__law_source C) hr (by decide) (jos_cons (jo_e (je_var 0)) (jos_cons (jo_e (je_var 1)) jos_nil)) rfl))
 (jss_cons (js_for hp rfl (ji_range1 C.b_range (jes_cons je_int jes_nil)) (jg_name 3 hN) (jss_cons (js_set 4 hN (je_ix ix_seq ok_ix (jo_e (je_lst (jes_cons je_int (jes_cons je_int jes_nil)))) (jo_e (je_callF tk (ok__law_draw C) hr (by decide) (jos_cons (jo_v 2) (jos_cons (jo_e je_int) jos_nil)) rfl))))
 (jss_cons (js_set 5 hN (je_callF tk (ok__law_line C) hr (by decide) (jos_cons (jo_v 2) (jos_cons (jo_e (je_var 4)) (jos_cons (jo_e (je_ix ix_seq ok_ix (jo_e (je_lst (jes_cons je_int (jes_cons (je_op op_powX ok_pow (jo_e je_int) (jo_e je_int)) jes_nil)))) (jo_e (je_callF tk (ok__law_draw C) hr (by decide) (jos_cons (jo_v 2) (jos_cons (jo_e je_int) jos_nil)) rfl)))) jos_nil))) rfl))
 (jss_cons (js_if (jw_or (jt_not (jt_val (jo_e (je_callF tk (ok__law_right C) hr (by decide) (jos_cons (jo_v 2) (jos_cons (jo_e (je_var 5)) jos_nil)) rfl)))) (jw_or1 (jt_not (jt_val (jo_e (je_callF tk (ok__law_small_right C) hr (by decide) (jos_cons (jo_v 2) jos_nil) rfl)))))).jt (jss_cons (js_ret je_bl)
 jss_nil) jss_nil)
 jss_nil))))
 jss_nil)))
 (jss_cons (js_if (jt_cmp (op_neD (u64 hr)) ok_ne (nomark _) (jo_e (je_callF tk (ok_place_of C) hr (by decide) (jos_cons (jo_e (je_tup (jes_cons (je_tup (jes_cons je_str (jes_cons (je_op op_sub ok_sub (jo_e (je_op op_powX ok_pow (jo_e je_int) (jo_e je_int))) (jo_e je_int)) jes_nil))) jes_nil))) (jos_cons (jo_e je_str) (jos_cons (jo_e (je_op op_sub ok_sub (jo_e (je_op op_powX ok_pow (jo_e je_int) (jo_e je_int))) (jo_e je_int))) jos_nil))) rfl)) (jo_e (je_op op_sub ok_sub (jo_e (je_op op_powX ok_pow (jo_e je_int) (jo_e je_int))) (jo_e je_int)))) (jss_cons (js_ret je_bl)
 jss_nil) jss_nil)
 (jss_cons (js_if (jt_cmp op_notN ok_isNot (nomark _) (jo_e (je_callF tk (ok_place_of C) hr (by decide) (jos_cons (jo_e (je_tup (jes_cons (je_tup (jes_cons je_str (jes_cons je_int jes_nil))) jes_nil))) (jos_cons (jo_e je_str) (jos_cons (jo_e (je_op opr_mul ok_mul (jo_e (je_op op_powX ok_pow (jo_e je_int) (jo_e je_int))) (jo_e (je_op op_powX ok_pow (jo_e je_int) (jo_e je_int))))) jos_nil))) rfl)) (jo_e je_non)) (jss_cons (js_ret je_bl)
 jss_nil) jss_nil)
 (jss_cons (js_ret (je_and (je_cmp op_isN ok_is (nomark _) (jo_e (je_callF tk (ok_place_of C) hr (by decide) (jos_cons (jo_e (je_tup (jes_cons (je_tup (jes_cons je_str (jes_cons je_int jes_nil))) jes_nil))) (jos_cons (jo_e je_str) (jos_cons (jo_e je_int) jos_nil))) rfl)) (jo_e je_non)) (je_one (je_cmp (op_eqD (u64 hr)) ok_eq (nomark _) (jo_e (je_callF tk (ok_place_of C) hr (by decide) (jos_cons (jo_e (je_tup (jes_cons (je_tup (jes_cons je_str (jes_cons je_int jes_nil))) jes_nil))) (jos_cons (jo_e je_str) (jos_cons (jo_e je_int) jos_nil))) rfl)) (jo_e je_int)))))
 jss_nil))))
end
/-! ### the head -/
def fn : List He.DefD := [⟨("_law_draw", none), "_law_draw", "_law_draw", defArgs (top 22), defBody (top 22), defScope (top 22), [], []⟩, ⟨("_law_line", none), "_law_line", "_law_line", defArgs (top 23), defBody (top 23), defScope (top 23), [], []⟩, ⟨("_law_rows", none), "_law_rows", "_law_rows", defArgs (top 27), defBody (top 27), defScope (top 27), [], []⟩, ⟨("is_integer", none), "is_integer", "is_integer", defArgs (top 9), defBody (top 9), defScope (top 9), [], []⟩, ⟨("is_side", none), "is_side", "is_side", defArgs (top 10), defBody (top 10), defScope (top 10), [], []⟩, ⟨("is_run", none), "is_run", "is_run", defArgs (top 11), defBody (top 11), defScope (top 11), [], []⟩, ⟨("is_posts", none), "is_posts", "is_posts", defArgs (top 12), defBody (top 12), defScope (top 12), [], []⟩, ⟨("check_posts", none), "check_posts", "check_posts", defArgs (top 13), defBody (top 13), defScope (top 13), [], []⟩, ⟨("place_of_side", none), "place_of_side", "place_of_side", defArgs (top 17), defBody (top 17), defScope (top 17), [], []⟩, ⟨("place_of", none), "place_of", "place_of", defArgs (top 19), defBody (top 19), defScope (top 19), [], []⟩, ⟨("count_posts", none), "count_posts", "count_posts", defArgs (top 14), defBody (top 14), defScope (top 14), [], []⟩, ⟨("is_place", none), "is_place", "is_place", defArgs (top 15), defBody (top 15), defScope (top 15), [], []⟩, ⟨("check_place", none), "check_place", "check_place", defArgs (top 16), defBody (top 16), defScope (top 16), [], []⟩, ⟨("side_at", none), "side_at", "side_at", defArgs (top 18), defBody (top 18), defScope (top 18), [], []⟩, ⟨("_law_right", none), "_law_right", "_law_right", defArgs (top 28), defBody (top 28), defScope (top 28), [], []⟩, ⟨("_law_packed", none), "_law_packed", "_law_packed", defArgs (top 25), defBody (top 25), defScope (top 25), [], []⟩, ⟨("_law_sides", none), "_law_sides", "_law_sides", defArgs (top 24), defBody (top 24), defScope (top 24), [], []⟩, ⟨("_law_small_right", none), "_law_small_right", "_law_small_right", defArgs (top 29), defBody (top 29), defScope (top 29), [], []⟩, ⟨("_law_source", none), "_law_source", "_law_source", defArgs (top 21), defBody (top 21), defScope (top 21), [], []⟩, ⟨("law", none), "law", "law", defArgs (top 30), defBody (top 30), defScope (top 30), [], []⟩]
def fa : List He.Fa := [.glo "_law_draw", .glo "_law_line", .glo "_law_rows", .glo "is_integer", .glo "is_side", .glo "is_run", .glo "is_posts", .glo "check_posts", .glo "place_of_side", .glo "place_of", .glo "count_posts", .glo "is_place", .glo "check_place", .glo "side_at", .glo "_law_right", .glo "_law_packed", .glo "_law_sides", .glo "_law_small_right", .glo "_law_source", .glo "law", .free "abs", .free "all", .free "bool", .free "int", .free "isinstance", .free "len", .free "list", .free "max", .free "min", .free "range", .free "repr", .free "sorted", .free "str", .free "sum", .free "tuple", .free "zip", .str "LEFT" "L", .str "RIGHT" "R", .glo "InvalidNumber", .glo "InvalidPlace", .glo "InvalidPosts", .glo "InvalidSide", .exc "InvalidNumber", .exc "InvalidPlace", .exc "InvalidPosts", .exc "InvalidSide"]
def qf : List Qf := []
theorem fc_of {K : PySem.W.Frag} {h : Heap} {mg : Str → Option Value} (X : K.In h) (G : h.Ns mainGlobals mg) (c : He.SaysD fa fn K) (e : (qf.all fun f => f.ok K) = true) : Fc K mg where
  b_abs := He.free_ok X G (c.fact 20 rfl)
  b_all := He.free_ok X G (c.fact 21 rfl)
  b_bool := He.free_ok X G (c.fact 22 rfl)
  b_int := He.free_ok X G (c.fact 23 rfl)
  b_isinstance := He.free_ok X G (c.fact 24 rfl)
  b_len := He.free_ok X G (c.fact 25 rfl)
  b_list := He.free_ok X G (c.fact 26 rfl)
  b_max := He.free_ok X G (c.fact 27 rfl)
  b_min := He.free_ok X G (c.fact 28 rfl)
  b_range := He.free_ok X G (c.fact 29 rfl)
  b_repr := He.free_ok X G (c.fact 30 rfl)
  b_sorted := He.free_ok X G (c.fact 31 rfl)
  b_str := He.free_ok X G (c.fact 32 rfl)
  b_sum := He.free_ok X G (c.fact 33 rfl)
  b_tuple := He.free_ok X G (c.fact 34 rfl)
  b_zip := He.free_ok X G (c.fact 35 rfl)
  c_LEFT := He.str_ok X G (c.fact 36 rfl)
  c_RIGHT := He.str_ok X G (c.fact 37 rfl)
  g_InvalidNumber := He.glo_ok X G (c.fact 38 rfl)
  g_InvalidPlace := He.glo_ok X G (c.fact 39 rfl)
  g_InvalidPosts := He.glo_ok X G (c.fact 40 rfl)
  g_InvalidSide := He.glo_ok X G (c.fact 41 rfl)
  x_InvalidNumber := excF_of X G (c.fact 38 rfl) (c.fact 42 rfl)
  x_InvalidPlace := excF_of X G (c.fact 39 rfl) (c.fact 43 rfl)
  x_InvalidPosts := excF_of X G (c.fact 40 rfl) (c.fact 44 rfl)
  x_InvalidSide := excF_of X G (c.fact 41 rfl) (c.fact 45 rfl)
  g__law_draw := He.glo_ok X G (c.fact 0 rfl)
  d__law_draw := c.def_ 0 rfl
  g__law_line := He.glo_ok X G (c.fact 1 rfl)
  d__law_line := c.def_ 1 rfl
  g__law_rows := He.glo_ok X G (c.fact 2 rfl)
  d__law_rows := c.def_ 2 rfl
  g_is_integer := He.glo_ok X G (c.fact 3 rfl)
  d_is_integer := c.def_ 3 rfl
  g_is_side := He.glo_ok X G (c.fact 4 rfl)
  d_is_side := c.def_ 4 rfl
  g_is_run := He.glo_ok X G (c.fact 5 rfl)
  d_is_run := c.def_ 5 rfl
  g_is_posts := He.glo_ok X G (c.fact 6 rfl)
  d_is_posts := c.def_ 6 rfl
  g_check_posts := He.glo_ok X G (c.fact 7 rfl)
  d_check_posts := c.def_ 7 rfl
  g_place_of_side := He.glo_ok X G (c.fact 8 rfl)
  d_place_of_side := c.def_ 8 rfl
  g_place_of := He.glo_ok X G (c.fact 9 rfl)
  d_place_of := c.def_ 9 rfl
  g_count_posts := He.glo_ok X G (c.fact 10 rfl)
  d_count_posts := c.def_ 10 rfl
  g_is_place := He.glo_ok X G (c.fact 11 rfl)
  d_is_place := c.def_ 11 rfl
  g_check_place := He.glo_ok X G (c.fact 12 rfl)
  d_check_place := c.def_ 12 rfl
  g_side_at := He.glo_ok X G (c.fact 13 rfl)
  d_side_at := c.def_ 13 rfl
  g__law_right := He.glo_ok X G (c.fact 14 rfl)
  d__law_right := c.def_ 14 rfl
  g__law_packed := He.glo_ok X G (c.fact 15 rfl)
  d__law_packed := c.def_ 15 rfl
  g__law_sides := He.glo_ok X G (c.fact 16 rfl)
  d__law_sides := c.def_ 16 rfl
  g__law_small_right := He.glo_ok X G (c.fact 17 rfl)
  d__law_small_right := c.def_ 17 rfl
  g__law_source := He.glo_ok X G (c.fact 18 rfl)
  d__law_source := c.def_ 18 rfl
  g_law := He.glo_ok X G (c.fact 19 rfl)
  d_law := c.def_ 19 rfl
abbrev R : PySem.W.OpenRow := PySem.W.OpenLaw.row PySem.Challenge.rw_swingposts_k03_places_by_side
abbrev hk : PySem.W.Hook := hookQ 4 fa fn qf
def ob (s : PySem.W.SharedT) : He.AlD × Bool := obsQ 4 fa fn qf (HandSHeadRun.getT s)
theorem ob_eq (s : PySem.W.SharedT) : ob s = hk.obs s.abs := obsQ_eq (HandSHeadRun.getT_eq s)
theorem run (w : World) : HandSHeadRun.RunEq R (PySem.W.view R.prog [30]) hk ob 40000 ((.cons "PostError" (.cons "InvalidPosts" (.cons "InvalidPlace" (.cons "InvalidSide" (.cons "InvalidNumber" (.cons "LEFT" (.cons "RIGHT" (.cons "is_integer" (.cons "is_side" (.cons "is_run" (.cons "is_posts" (.cons "check_posts" (.cons "count_posts" (.cons "is_place" (.cons "check_place" (.cons "place_of_side" (.cons "side_at" (.cons "place_of" (.cons "_law_source" (.cons "_law_draw" (.cons "_law_line" (.cons "_law_sides" (.cons "_law_packed" (.cons "_law_stepped" (.cons "_law_rows" (.cons "_law_right" (.cons "_law_small_right" .nil))))))))))))))))))))))))))) : List PySem.Str) w := by
  intro os
  kernel_rfl
end G

namespace G
open PySem PySem.Spec PyProof.Rows L2 Mi
/-! ### the program's checks at rows of runs -/
theorem is_int_i (i low : Int) : Fis_integer [.fz (.int i), .fz (.int low)] = .ret (.fz (.bl (decide (low ≤ i)))) [none, none] := by
  kernel_rfl
theorem is_side_ok (q : Bool) : Fis_side [.fz (.str (sideS q))] = .ret (.fz (.bl true)) [none] := by cases q <;> kernel_rfl
theorem is_run_ok (r : Bool × Int) (h : 1 ≤ r.2) : Fis_run [.fz (runD r)] = .ret (.fz (.bl true)) [none] := by
  obtain ⟨q, c⟩ := r
  have e : decide (1 ≤ c) = true := decide_eq_true h
  have e0 : runD (q, c) = .tup [.str (sideS q), .int c] := rfl
  have e1 := is_int_i c 1
  have e2 := is_side_ok q
  rw [e] at e1
  unfold Fis_run Bis_run
  revert e1 e2
  generalize Fis_side = f1
  generalize Fis_integer = f2
  intro e1 e2
  simp (maxSteps := 20000000) (disch := (first | assumption | omega | (simp only [List.length_cons, List.length_nil, List.length_append, List.length_map, SZ]; done) | (simp only [List.length_cons, List.length_nil, List.length_append, List.length_map, SZ]; omega))) only [ev_seq, ev_seq_nx, ev_seq_rt, ev_seq_ex, ev_seq_bk, ev_seq_ct, ev_nil, ev_pass, ev_break, ev_cont, ev_retN, ev_ret, ev_drop, ev_set, ev_raise, ev_if, ev_par, ev_par3, ev_toS_ok, ev_toS_ex, ev_toS_no, ev_bind_ok, ev_bind_ex, ev_bind_no, ev_it, ev_if_f, ev_C, ev_var, ev_var1, ev_var2, ev_mov, ev_mov1, ev_mov2, ev_okV_e, ev_okV_v, ev_okO, ev_run_e, ev_run_v, ev_get_d, ev_get_i, ev_getO, ev_d_fz, ev_d_ow, ev_d_io, ev_op2, ev_get2, ev_g2, ev_op1, ev_get1, ev_g1, ev_mk, ev_mk0, ev_opN, ev_all_nil, ev_all_cons, ev_runO_nil, ev_runO_cons, ev_getN, ev_gN, ev_getL_nil, ev_getL_cons, ev_gL, ev_runE_nil, ev_runE_cons, ev_tup, ev_lst, ev_mIf, ev_and, ev_or, ev_not, ev_blR, ev_toT, ev_blT, ev_okI, ev_okB, ev_tru, ev_mkT, ev_obind, ev_tru_bl, ev_andT, ev_orT, ev_notT, ev_chain, ev_chR, ev_fn, ev_of_nx, ev_of_rt, ev_of_ex, ev_outs0, ev_outs1, ev_ioE_n, ev_ioE_f, ev_ioE_o, ev_ioE_i, ev_call, ev_callK, ev_callR, ev_args_nil, ev_args_cons, ev_argC, ev_arg_d, ev_arg_i, ev_argO_f, ev_argO_o, ev_argO_i, ev_apart_nil, ev_apart_d, ev_apart_i, ev_any_nil, ev_any_cons, ev_at_d, ev_at_i, ev_ofF_ret, ev_ofF_exc, ev_back0, ev_back1, ev_b1n, ev_b1f, ev_b1o, ev_b1i, ev_bkO0, ev_bkO1, ev_bkI0, ev_bkI1, ev_look0, ev_look_d, ev_look_i, ev_join, ev_head, ev_tail, ev_call1, ev_go_o, ev_go_f, ev_of1_r, ev_of1_e, op_add_i, op_sub_i, op_iadd_i, op_mul_i, op_fdiv_i, op_mod_i, op_pow8_i, op_powL_i, op_lt_i, op_le_i, op_gt_i, op_ge_i, op_neg_i, op_eq_i, op_ne_i, op_eq_s, op_ne_s, op_is_n, op_len_l, op_len_t, op_len_s, op_abs_i, op_max_i, op_min_i, op_int_i, op_int_b, op_divmod_i, op_tup_l, op_tup_t, op_list_l, op_list_t, op_rev_l, op_rev_t, op_own_o, op_own_i, op_setix, op_setR, op_stN, op_as_o, op_as_i, op_isS, op_mut, op_mutR, op_mutS, op_asg_seq, op_asg_seql, op_asg_cons, op_asg_nil, op_asg_nm, op_asg, op_asgR, ixN_1_0, ixN_1_m1, ixN_2_0, ixN_2_1, ixN_2_m1, ixN_3_0, ixN_3_1, ixN_3_2, ixN_3_m1, ixN_4_0, ixN_4_1, ixN_4_2, ixN_4_3, ixN_4_m1, ixN_5_0, ixN_5_1, ixN_5_2, ixN_5_3, ixN_5_4, ixN_5_m1, ixN_6_0, ixN_6_1, ixN_6_2, ixN_6_3, ixN_6_4, ixN_6_5, ixN_6_m1, ixN_7_0, ixN_7_1, ixN_7_2, ixN_7_3, ixN_7_4, ixN_7_5, ixN_7_6, ixN_7_m1, ixN_8_0, ixN_8_1, ixN_8_2, ixN_8_3, ixN_8_4, ixN_8_5, ixN_8_6, ixN_8_7, ixN_8_m1, ixN_9_0, ixN_9_1, ixN_9_2, ixN_9_3, ixN_9_4, ixN_9_5, ixN_9_6, ixN_9_7, ixN_9_8, ixN_9_m1, ixN_10_0, ixN_10_1, ixN_10_2, ixN_10_3, ixN_10_4, ixN_10_5, ixN_10_6, ixN_10_7, ixN_10_8, ixN_10_9, ixN_10_m1, ixN_11_0, ixN_11_1, ixN_11_2, ixN_11_3, ixN_11_4, ixN_11_5, ixN_11_6, ixN_11_7, ixN_11_8, ixN_11_9, ixN_11_10, ixN_11_m1, ixN_12_0, ixN_12_1, ixN_12_2, ixN_12_3, ixN_12_4, ixN_12_5, ixN_12_6, ixN_12_7, ixN_12_8, ixN_12_9, ixN_12_10, ixN_12_11, ixN_12_m1, ixN_13_0, ixN_13_1, ixN_13_2, ixN_13_3, ixN_13_4, ixN_13_5, ixN_13_6, ixN_13_7, ixN_13_8, ixN_13_9, ixN_13_10, ixN_13_11, ixN_13_12, ixN_13_m1, ixN_14_0, ixN_14_1, ixN_14_2, ixN_14_3, ixN_14_4, ixN_14_5, ixN_14_6, ixN_14_7, ixN_14_8, ixN_14_9, ixN_14_10, ixN_14_11, ixN_14_12, ixN_14_13, ixN_14_m1, ixN_15_0, ixN_15_1, ixN_15_2, ixN_15_3, ixN_15_4, ixN_15_5, ixN_15_6, ixN_15_7, ixN_15_8, ixN_15_9, ixN_15_10, ixN_15_11, ixN_15_12, ixN_15_13, ixN_15_14, ixN_15_m1, ix_l0, ix_t0, ix_l1, ix_t1, ix_l2, ix_t2, ix_l3, ix_t3, ix_l4, ix_t4, ix_l5, ix_t5, ix_l6, ix_t6, ix_l7, ix_t7, ix_l8, ix_t8, ix_l9, ix_t9, ix_l10, ix_t10, ix_l11, ix_t11, ix_l12, ix_t12, ix_l13, ix_t13, ev_for, ev_iSeq, ev_mkI, ev_iter_l, ev_iter_t, ev_iter_s, ev_turn_nx, ev_turn_ct, ev_turn_bk, ev_turn_rt, ev_turn_ex, ev_loop0, ev_forR, ev_enum, ev_enumI, ev_zip, ev_wipe0, ev_wipe1, ev_un0, ev_un1, ev_unO_f, ev_unO_n, ev_comp, ev_lc0, ev_lcR0, ev_turnC, ev_tcR, ev_yes, ev_tryAs, ev_tryS_ex, ev_tryS_nx, ev_tryS_rt, ev_tryR, ev_gone_nx, ev_gone_rt, ev_nest, ev_isE, ev_sl, ev_part0, ev_part1, ev_partR, ev_sl_t, ev_sl_l, ev_cast0, ev_cast1, ev_cast2, ev_cast3, ev_cast4, ev_cast5, ev_cast6, ev_cast7, ev_cast8, ev_cast9, ev_cast10, ev_cast11, ev_cast12, ev_cast13, ev_cast14, ev_cast15, ev_cast16, ev_cast17, ev_cast18, ev_cast19, ev_cast20, ev_isi_tt, ev_isi_ti, ev_is_t, ev_isnot_t, ev_isnot_n, ev_zip_tt, ev_zip_ll, op_eqs, op_nes, ev_aug, ev_augR, ev_augS, ev_try, ev_tryT_ex, ev_tryT_nx, ev_tryT_rt, ev_tryT_bk, ev_tryT_ct, ev_tryU, ev_tryU0, ev_cold_nx, ev_cold_rt, back_eq, wipe_eq, unwipe_eq, List.getElem?_cons_zero, List.getElem?_cons_succ, List.set_cons_zero, List.set_cons_succ, Bool.and_true, Bool.true_and, Bool.or_true, Bool.true_or, Bool.or_false, Bool.false_or, Bool.and_false, Bool.false_and, Bool.not_true, Bool.not_false, List.length_cons, List.length_nil, List.map_cons, List.map_nil, List.replicate_succ, List.replicate_zero, List.cons_append, List.nil_append, if_true, if_false, Nat.reduceAdd, Nat.reduceEqDiff, beq_self_eq_true, reduceIte, Nat.zero_add, eq_self, SZ, List.contains_cons, List.contains_nil, Nat.reduceBEq, Nat.reduceLT, Nat.reduceLeDiff, Int.reduceToNat, Int.reducePow, Int.reduceAdd, Int.reduceSub, Int.reduceMul, Int.reduceNeg, Int.reduceLT, Int.reduceLE, Int.reduceEq, Int.reduceDiv, Int.reduceMod, Option.map_some, Option.map_none, cut1, rg1_eq, rb1_ok, rg2_eq, rb2_ok, bk_d0, bk_d1, bk_d2, bk_d3, bk_d4, bk_i0, bk_i1, bk_i2, bk_i3, e0, e1, e2, decide_true]
theorem runs_loop (x0 : Option Sl) : ∀ (l : Runs) (acc : List D), Ps l → acc.length + l.length < 1000 →
    loopC (turnC (gNm 3) tYesE Eis_posts_0 [3]) (l.map runD) [x0, none, none, none] acc = .ok (acc ++ List.replicate l.length (.bl true)) [x0, none, none, none]
  | [], acc, _, _ => by simp [ev_lc0]
  | r :: l, acc, h, hl => by
    rw [List.length_cons] at hl
    have e1 := is_run_ok r h.1
    have ih := runs_loop x0 l (acc ++ [.bl true]) h.2 (by rw [List.length_append, List.length_cons, List.length_nil]; omega)
    have e7 : turnC (gNm 3) tYesE Eis_posts_0 [3] (runD r) [x0, none, none, none] = .ok (some (.bl true)) [x0, none, none, none] := by
      unfold Eis_posts_0
      revert e1
      generalize Fis_run = f1
      generalize runD r = d
      intro e1
      simp (maxSteps := 20000000) (disch := (first | assumption | omega | (simp only [List.length_cons, List.length_nil, List.length_append, List.length_map, SZ]; done) | (simp only [List.length_cons, List.length_nil, List.length_append, List.length_map, SZ]; omega))) only [ev_seq, ev_seq_nx, ev_seq_rt, ev_seq_ex, ev_seq_bk, ev_seq_ct, ev_nil, ev_pass, ev_break, ev_cont, ev_retN, ev_ret, ev_drop, ev_set, ev_raise, ev_if, ev_par, ev_par3, ev_toS_ok, ev_toS_ex, ev_toS_no, ev_bind_ok, ev_bind_ex, ev_bind_no, ev_it, ev_if_f, ev_C, ev_var, ev_var1, ev_var2, ev_mov, ev_mov1, ev_mov2, ev_okV_e, ev_okV_v, ev_okO, ev_run_e, ev_run_v, ev_get_d, ev_get_i, ev_getO, ev_d_fz, ev_d_ow, ev_d_io, ev_op2, ev_get2, ev_g2, ev_op1, ev_get1, ev_g1, ev_mk, ev_mk0, ev_opN, ev_all_nil, ev_all_cons, ev_runO_nil, ev_runO_cons, ev_getN, ev_gN, ev_getL_nil, ev_getL_cons, ev_gL, ev_runE_nil, ev_runE_cons, ev_tup, ev_lst, ev_mIf, ev_and, ev_or, ev_not, ev_blR, ev_toT, ev_blT, ev_okI, ev_okB, ev_tru, ev_mkT, ev_obind, ev_tru_bl, ev_andT, ev_orT, ev_notT, ev_chain, ev_chR, ev_fn, ev_of_nx, ev_of_rt, ev_of_ex, ev_outs0, ev_outs1, ev_ioE_n, ev_ioE_f, ev_ioE_o, ev_ioE_i, ev_call, ev_callK, ev_callR, ev_args_nil, ev_args_cons, ev_argC, ev_arg_d, ev_arg_i, ev_argO_f, ev_argO_o, ev_argO_i, ev_apart_nil, ev_apart_d, ev_apart_i, ev_any_nil, ev_any_cons, ev_at_d, ev_at_i, ev_ofF_ret, ev_ofF_exc, ev_back0, ev_back1, ev_b1n, ev_b1f, ev_b1o, ev_b1i, ev_bkO0, ev_bkO1, ev_bkI0, ev_bkI1, ev_look0, ev_look_d, ev_look_i, ev_join, ev_head, ev_tail, ev_call1, ev_go_o, ev_go_f, ev_of1_r, ev_of1_e, op_add_i, op_sub_i, op_iadd_i, op_mul_i, op_fdiv_i, op_mod_i, op_pow8_i, op_powL_i, op_lt_i, op_le_i, op_gt_i, op_ge_i, op_neg_i, op_eq_i, op_ne_i, op_eq_s, op_ne_s, op_is_n, op_len_l, op_len_t, op_len_s, op_abs_i, op_max_i, op_min_i, op_int_i, op_int_b, op_divmod_i, op_tup_l, op_tup_t, op_list_l, op_list_t, op_rev_l, op_rev_t, op_own_o, op_own_i, op_setix, op_setR, op_stN, op_as_o, op_as_i, op_isS, op_mut, op_mutR, op_mutS, op_asg_seq, op_asg_seql, op_asg_cons, op_asg_nil, op_asg_nm, op_asg, op_asgR, ixN_1_0, ixN_1_m1, ixN_2_0, ixN_2_1, ixN_2_m1, ixN_3_0, ixN_3_1, ixN_3_2, ixN_3_m1, ixN_4_0, ixN_4_1, ixN_4_2, ixN_4_3, ixN_4_m1, ixN_5_0, ixN_5_1, ixN_5_2, ixN_5_3, ixN_5_4, ixN_5_m1, ixN_6_0, ixN_6_1, ixN_6_2, ixN_6_3, ixN_6_4, ixN_6_5, ixN_6_m1, ixN_7_0, ixN_7_1, ixN_7_2, ixN_7_3, ixN_7_4, ixN_7_5, ixN_7_6, ixN_7_m1, ixN_8_0, ixN_8_1, ixN_8_2, ixN_8_3, ixN_8_4, ixN_8_5, ixN_8_6, ixN_8_7, ixN_8_m1, ixN_9_0, ixN_9_1, ixN_9_2, ixN_9_3, ixN_9_4, ixN_9_5, ixN_9_6, ixN_9_7, ixN_9_8, ixN_9_m1, ixN_10_0, ixN_10_1, ixN_10_2, ixN_10_3, ixN_10_4, ixN_10_5, ixN_10_6, ixN_10_7, ixN_10_8, ixN_10_9, ixN_10_m1, ixN_11_0, ixN_11_1, ixN_11_2, ixN_11_3, ixN_11_4, ixN_11_5, ixN_11_6, ixN_11_7, ixN_11_8, ixN_11_9, ixN_11_10, ixN_11_m1, ixN_12_0, ixN_12_1, ixN_12_2, ixN_12_3, ixN_12_4, ixN_12_5, ixN_12_6, ixN_12_7, ixN_12_8, ixN_12_9, ixN_12_10, ixN_12_11, ixN_12_m1, ixN_13_0, ixN_13_1, ixN_13_2, ixN_13_3, ixN_13_4, ixN_13_5, ixN_13_6, ixN_13_7, ixN_13_8, ixN_13_9, ixN_13_10, ixN_13_11, ixN_13_12, ixN_13_m1, ixN_14_0, ixN_14_1, ixN_14_2, ixN_14_3, ixN_14_4, ixN_14_5, ixN_14_6, ixN_14_7, ixN_14_8, ixN_14_9, ixN_14_10, ixN_14_11, ixN_14_12, ixN_14_13, ixN_14_m1, ixN_15_0, ixN_15_1, ixN_15_2, ixN_15_3, ixN_15_4, ixN_15_5, ixN_15_6, ixN_15_7, ixN_15_8, ixN_15_9, ixN_15_10, ixN_15_11, ixN_15_12, ixN_15_13, ixN_15_14, ixN_15_m1, ix_l0, ix_t0, ix_l1, ix_t1, ix_l2, ix_t2, ix_l3, ix_t3, ix_l4, ix_t4, ix_l5, ix_t5, ix_l6, ix_t6, ix_l7, ix_t7, ix_l8, ix_t8, ix_l9, ix_t9, ix_l10, ix_t10, ix_l11, ix_t11, ix_l12, ix_t12, ix_l13, ix_t13, ev_for, ev_iSeq, ev_mkI, ev_iter_l, ev_iter_t, ev_iter_s, ev_turn_nx, ev_turn_ct, ev_turn_bk, ev_turn_rt, ev_turn_ex, ev_loop0, ev_forR, ev_enum, ev_enumI, ev_zip, ev_wipe0, ev_wipe1, ev_un0, ev_un1, ev_unO_f, ev_unO_n, ev_comp, ev_lc0, ev_lcR0, ev_turnC, ev_tcR, ev_yes, ev_tryAs, ev_tryS_ex, ev_tryS_nx, ev_tryS_rt, ev_tryR, ev_gone_nx, ev_gone_rt, ev_nest, ev_isE, ev_sl, ev_part0, ev_part1, ev_partR, ev_sl_t, ev_sl_l, ev_cast0, ev_cast1, ev_cast2, ev_cast3, ev_cast4, ev_cast5, ev_cast6, ev_cast7, ev_cast8, ev_cast9, ev_cast10, ev_cast11, ev_cast12, ev_cast13, ev_cast14, ev_cast15, ev_cast16, ev_cast17, ev_cast18, ev_cast19, ev_cast20, ev_isi_tt, ev_isi_ti, ev_is_t, ev_isnot_t, ev_isnot_n, ev_zip_tt, ev_zip_ll, op_eqs, op_nes, ev_aug, ev_augR, ev_augS, ev_try, ev_tryT_ex, ev_tryT_nx, ev_tryT_rt, ev_tryT_bk, ev_tryT_ct, ev_tryU, ev_tryU0, ev_cold_nx, ev_cold_rt, back_eq, wipe_eq, unwipe_eq, List.getElem?_cons_zero, List.getElem?_cons_succ, List.set_cons_zero, List.set_cons_succ, Bool.and_true, Bool.true_and, Bool.or_true, Bool.true_or, Bool.or_false, Bool.false_or, Bool.and_false, Bool.false_and, Bool.not_true, Bool.not_false, List.length_cons, List.length_nil, List.map_cons, List.map_nil, List.replicate_succ, List.replicate_zero, List.cons_append, List.nil_append, if_true, if_false, Nat.reduceAdd, Nat.reduceEqDiff, beq_self_eq_true, reduceIte, Nat.zero_add, eq_self, SZ, List.contains_cons, List.contains_nil, Nat.reduceBEq, Nat.reduceLT, Nat.reduceLeDiff, Int.reduceToNat, Int.reducePow, Int.reduceAdd, Int.reduceSub, Int.reduceMul, Int.reduceNeg, Int.reduceLT, Int.reduceLE, Int.reduceEq, Int.reduceDiv, Int.reduceMod, Option.map_some, Option.map_none, cut1, rg1_eq, rb1_ok, rg2_eq, rb2_ok, bk_d0, bk_d1, bk_d2, bk_d3, bk_d4, bk_i0, bk_i1, bk_i2, bk_i3, e1]
    rw [List.map_cons, lc_cons, e7, ev_lcR1 (by unfold SZ; omega), ih, List.length_cons, List.replicate_succ]
    simp
theorem side_ne (p q : Bool) (h : p ≠ q) : neD (.str (sideS p)) (.str (sideS q)) = some (.fz (.bl true)) := by
  cases p <;> cases q <;> first | (exact absurd rfl h) | kernel_rfl
theorem adj_loop (x0 : Option Sl) : ∀ (l : Runs) (acc : List D), altS (l.map (·.1)) → acc.length + l.length < 1000 →
    loopC (turnC (gSeq 2 (gsCons (gNm 1) (gsCons (gNm 2) gsNil))) tYesE Eis_posts_1 [1, 2]) (adj l) [x0, none, none, none] acc = .ok (acc ++ List.replicate (adj l).length (.bl true)) [x0, none, none, none]
  | [], acc, _, _ => by simp [adj, ev_lc0]
  | [a], acc, _, _ => by simp [adj, ev_lc0]
  | (p, c) :: (q, e) :: l, acc, h, hl => by
    rw [List.length_cons] at hl
    have h1 : p ≠ q := h.1
    have e1 := side_ne p q h1
    have ih := adj_loop x0 ((q, e) :: l) (acc ++ [.bl true]) h.2 (by rw [List.length_append, List.length_cons, List.length_nil]; omega)
    have e0 : adj ((p, c) :: (q, e) :: l) = .tup [.tup [.str (sideS p), .int c], .tup [.str (sideS q), .int e]] :: adj ((q, e) :: l) := rfl
    have e7 : turnC (gSeq 2 (gsCons (gNm 1) (gsCons (gNm 2) gsNil))) tYesE Eis_posts_1 [1, 2] (.tup [.tup [.str (sideS p), .int c], .tup [.str (sideS q), .int e]]) [x0, none, none, none] = .ok (some (.bl true)) [x0, none, none, none] := by
      unfold Eis_posts_1
      simp (maxSteps := 20000000) (disch := (first | assumption | omega | (simp only [List.length_cons, List.length_nil, List.length_append, List.length_map, SZ]; done) | (simp only [List.length_cons, List.length_nil, List.length_append, List.length_map, SZ]; omega))) only [ev_seq, ev_seq_nx, ev_seq_rt, ev_seq_ex, ev_seq_bk, ev_seq_ct, ev_nil, ev_pass, ev_break, ev_cont, ev_retN, ev_ret, ev_drop, ev_set, ev_raise, ev_if, ev_par, ev_par3, ev_toS_ok, ev_toS_ex, ev_toS_no, ev_bind_ok, ev_bind_ex, ev_bind_no, ev_it, ev_if_f, ev_C, ev_var, ev_var1, ev_var2, ev_mov, ev_mov1, ev_mov2, ev_okV_e, ev_okV_v, ev_okO, ev_run_e, ev_run_v, ev_get_d, ev_get_i, ev_getO, ev_d_fz, ev_d_ow, ev_d_io, ev_op2, ev_get2, ev_g2, ev_op1, ev_get1, ev_g1, ev_mk, ev_mk0, ev_opN, ev_all_nil, ev_all_cons, ev_runO_nil, ev_runO_cons, ev_getN, ev_gN, ev_getL_nil, ev_getL_cons, ev_gL, ev_runE_nil, ev_runE_cons, ev_tup, ev_lst, ev_mIf, ev_and, ev_or, ev_not, ev_blR, ev_toT, ev_blT, ev_okI, ev_okB, ev_tru, ev_mkT, ev_obind, ev_tru_bl, ev_andT, ev_orT, ev_notT, ev_chain, ev_chR, ev_fn, ev_of_nx, ev_of_rt, ev_of_ex, ev_outs0, ev_outs1, ev_ioE_n, ev_ioE_f, ev_ioE_o, ev_ioE_i, ev_call, ev_callK, ev_callR, ev_args_nil, ev_args_cons, ev_argC, ev_arg_d, ev_arg_i, ev_argO_f, ev_argO_o, ev_argO_i, ev_apart_nil, ev_apart_d, ev_apart_i, ev_any_nil, ev_any_cons, ev_at_d, ev_at_i, ev_ofF_ret, ev_ofF_exc, ev_back0, ev_back1, ev_b1n, ev_b1f, ev_b1o, ev_b1i, ev_bkO0, ev_bkO1, ev_bkI0, ev_bkI1, ev_look0, ev_look_d, ev_look_i, ev_join, ev_head, ev_tail, ev_call1, ev_go_o, ev_go_f, ev_of1_r, ev_of1_e, op_add_i, op_sub_i, op_iadd_i, op_mul_i, op_fdiv_i, op_mod_i, op_pow8_i, op_powL_i, op_lt_i, op_le_i, op_gt_i, op_ge_i, op_neg_i, op_eq_i, op_ne_i, op_eq_s, op_ne_s, op_is_n, op_len_l, op_len_t, op_len_s, op_abs_i, op_max_i, op_min_i, op_int_i, op_int_b, op_divmod_i, op_tup_l, op_tup_t, op_list_l, op_list_t, op_rev_l, op_rev_t, op_own_o, op_own_i, op_setix, op_setR, op_stN, op_as_o, op_as_i, op_isS, op_mut, op_mutR, op_mutS, op_asg_seq, op_asg_seql, op_asg_cons, op_asg_nil, op_asg_nm, op_asg, op_asgR, ixN_1_0, ixN_1_m1, ixN_2_0, ixN_2_1, ixN_2_m1, ixN_3_0, ixN_3_1, ixN_3_2, ixN_3_m1, ixN_4_0, ixN_4_1, ixN_4_2, ixN_4_3, ixN_4_m1, ixN_5_0, ixN_5_1, ixN_5_2, ixN_5_3, ixN_5_4, ixN_5_m1, ixN_6_0, ixN_6_1, ixN_6_2, ixN_6_3, ixN_6_4, ixN_6_5, ixN_6_m1, ixN_7_0, ixN_7_1, ixN_7_2, ixN_7_3, ixN_7_4, ixN_7_5, ixN_7_6, ixN_7_m1, ixN_8_0, ixN_8_1, ixN_8_2, ixN_8_3, ixN_8_4, ixN_8_5, ixN_8_6, ixN_8_7, ixN_8_m1, ixN_9_0, ixN_9_1, ixN_9_2, ixN_9_3, ixN_9_4, ixN_9_5, ixN_9_6, ixN_9_7, ixN_9_8, ixN_9_m1, ixN_10_0, ixN_10_1, ixN_10_2, ixN_10_3, ixN_10_4, ixN_10_5, ixN_10_6, ixN_10_7, ixN_10_8, ixN_10_9, ixN_10_m1, ixN_11_0, ixN_11_1, ixN_11_2, ixN_11_3, ixN_11_4, ixN_11_5, ixN_11_6, ixN_11_7, ixN_11_8, ixN_11_9, ixN_11_10, ixN_11_m1, ixN_12_0, ixN_12_1, ixN_12_2, ixN_12_3, ixN_12_4, ixN_12_5, ixN_12_6, ixN_12_7, ixN_12_8, ixN_12_9, ixN_12_10, ixN_12_11, ixN_12_m1, ixN_13_0, ixN_13_1, ixN_13_2, ixN_13_3, ixN_13_4, ixN_13_5, ixN_13_6, ixN_13_7, ixN_13_8, ixN_13_9, ixN_13_10, ixN_13_11, ixN_13_12, ixN_13_m1, ixN_14_0, ixN_14_1, ixN_14_2, ixN_14_3, ixN_14_4, ixN_14_5, ixN_14_6, ixN_14_7, ixN_14_8, ixN_14_9, ixN_14_10, ixN_14_11, ixN_14_12, ixN_14_13, ixN_14_m1, ixN_15_0, ixN_15_1, ixN_15_2, ixN_15_3, ixN_15_4, ixN_15_5, ixN_15_6, ixN_15_7, ixN_15_8, ixN_15_9, ixN_15_10, ixN_15_11, ixN_15_12, ixN_15_13, ixN_15_14, ixN_15_m1, ix_l0, ix_t0, ix_l1, ix_t1, ix_l2, ix_t2, ix_l3, ix_t3, ix_l4, ix_t4, ix_l5, ix_t5, ix_l6, ix_t6, ix_l7, ix_t7, ix_l8, ix_t8, ix_l9, ix_t9, ix_l10, ix_t10, ix_l11, ix_t11, ix_l12, ix_t12, ix_l13, ix_t13, ev_for, ev_iSeq, ev_mkI, ev_iter_l, ev_iter_t, ev_iter_s, ev_turn_nx, ev_turn_ct, ev_turn_bk, ev_turn_rt, ev_turn_ex, ev_loop0, ev_forR, ev_enum, ev_enumI, ev_zip, ev_wipe0, ev_wipe1, ev_un0, ev_un1, ev_unO_f, ev_unO_n, ev_comp, ev_lc0, ev_lcR0, ev_turnC, ev_tcR, ev_yes, ev_tryAs, ev_tryS_ex, ev_tryS_nx, ev_tryS_rt, ev_tryR, ev_gone_nx, ev_gone_rt, ev_nest, ev_isE, ev_sl, ev_part0, ev_part1, ev_partR, ev_sl_t, ev_sl_l, ev_cast0, ev_cast1, ev_cast2, ev_cast3, ev_cast4, ev_cast5, ev_cast6, ev_cast7, ev_cast8, ev_cast9, ev_cast10, ev_cast11, ev_cast12, ev_cast13, ev_cast14, ev_cast15, ev_cast16, ev_cast17, ev_cast18, ev_cast19, ev_cast20, ev_isi_tt, ev_isi_ti, ev_is_t, ev_isnot_t, ev_isnot_n, ev_zip_tt, ev_zip_ll, op_eqs, op_nes, ev_aug, ev_augR, ev_augS, ev_try, ev_tryT_ex, ev_tryT_nx, ev_tryT_rt, ev_tryT_bk, ev_tryT_ct, ev_tryU, ev_tryU0, ev_cold_nx, ev_cold_rt, back_eq, wipe_eq, unwipe_eq, List.getElem?_cons_zero, List.getElem?_cons_succ, List.set_cons_zero, List.set_cons_succ, Bool.and_true, Bool.true_and, Bool.or_true, Bool.true_or, Bool.or_false, Bool.false_or, Bool.and_false, Bool.false_and, Bool.not_true, Bool.not_false, List.length_cons, List.length_nil, List.map_cons, List.map_nil, List.replicate_succ, List.replicate_zero, List.cons_append, List.nil_append, if_true, if_false, Nat.reduceAdd, Nat.reduceEqDiff, beq_self_eq_true, reduceIte, Nat.zero_add, eq_self, SZ, List.contains_cons, List.contains_nil, Nat.reduceBEq, Nat.reduceLT, Nat.reduceLeDiff, Int.reduceToNat, Int.reducePow, Int.reduceAdd, Int.reduceSub, Int.reduceMul, Int.reduceNeg, Int.reduceLT, Int.reduceLE, Int.reduceEq, Int.reduceDiv, Int.reduceMod, Option.map_some, Option.map_none, cut1, rg1_eq, rb1_ok, rg2_eq, rb2_ok, bk_d0, bk_d1, bk_d2, bk_d3, bk_d4, bk_i0, bk_i1, bk_i2, bk_i3, e1]
    rw [e0, lc_cons, e7, ev_lcR1 (by unfold SZ; omega), ih, List.length_cons, List.replicate_succ]
    simp
theorem is_posts_ok {l : Runs} (h : Good l) (hn : l ≠ []) (hl : l.length < 900) : Fis_posts [.fz (.tup (l.map runD))] = .ret (.fz (.bl true)) [none] := by
  have e1 := runs_loop (some (.fz (.tup (l.map runD)))) l [] h.ps (by simp; omega)
  have e2 := adj_loop (some (.fz (.tup (l.map runD)))) l [] h.al (by simp; omega)
  have e3 := zip_adj l
  have e4 := all_trues l.length
  have e5 := all_trues (adj l).length
  have e6 : decide (((l.map runD).length : Int) = 0) = false := by
    rw [List.length_map]
    apply decide_eq_false
    cases l with
    | nil => exact absurd rfl hn
    | cons a l => rw [List.length_cons]; omega
  rw [List.nil_append] at e1 e2
  unfold Fis_posts Bis_posts
  revert e1 e2 e4 e5 e3
  generalize Eis_posts_0 = f1
  generalize Eis_posts_1 = f2
  generalize List.replicate l.length (D.bl true) = rs
  generalize List.replicate (adj l).length (D.bl true) = rs2
  generalize adj l = al
  intro e1 e2 e4 e5 e3
  simp (maxSteps := 20000000) (disch := (first | assumption | omega | (simp only [List.length_cons, List.length_nil, List.length_append, List.length_map, SZ]; done) | (simp only [List.length_cons, List.length_nil, List.length_append, List.length_map, SZ]; omega))) only [ev_seq, ev_seq_nx, ev_seq_rt, ev_seq_ex, ev_seq_bk, ev_seq_ct, ev_nil, ev_pass, ev_break, ev_cont, ev_retN, ev_ret, ev_drop, ev_set, ev_raise, ev_if, ev_par, ev_par3, ev_toS_ok, ev_toS_ex, ev_toS_no, ev_bind_ok, ev_bind_ex, ev_bind_no, ev_it, ev_if_f, ev_C, ev_var, ev_var1, ev_var2, ev_mov, ev_mov1, ev_mov2, ev_okV_e, ev_okV_v, ev_okO, ev_run_e, ev_run_v, ev_get_d, ev_get_i, ev_getO, ev_d_fz, ev_d_ow, ev_d_io, ev_op2, ev_get2, ev_g2, ev_op1, ev_get1, ev_g1, ev_mk, ev_mk0, ev_opN, ev_all_nil, ev_all_cons, ev_runO_nil, ev_runO_cons, ev_getN, ev_gN, ev_getL_nil, ev_getL_cons, ev_gL, ev_runE_nil, ev_runE_cons, ev_tup, ev_lst, ev_mIf, ev_and, ev_or, ev_not, ev_blR, ev_toT, ev_blT, ev_okI, ev_okB, ev_tru, ev_mkT, ev_obind, ev_tru_bl, ev_andT, ev_orT, ev_notT, ev_chain, ev_chR, ev_fn, ev_of_nx, ev_of_rt, ev_of_ex, ev_outs0, ev_outs1, ev_ioE_n, ev_ioE_f, ev_ioE_o, ev_ioE_i, ev_call, ev_callK, ev_callR, ev_args_nil, ev_args_cons, ev_argC, ev_arg_d, ev_arg_i, ev_argO_f, ev_argO_o, ev_argO_i, ev_apart_nil, ev_apart_d, ev_apart_i, ev_any_nil, ev_any_cons, ev_at_d, ev_at_i, ev_ofF_ret, ev_ofF_exc, ev_back0, ev_back1, ev_b1n, ev_b1f, ev_b1o, ev_b1i, ev_bkO0, ev_bkO1, ev_bkI0, ev_bkI1, ev_look0, ev_look_d, ev_look_i, ev_join, ev_head, ev_tail, ev_call1, ev_go_o, ev_go_f, ev_of1_r, ev_of1_e, op_add_i, op_sub_i, op_iadd_i, op_mul_i, op_fdiv_i, op_mod_i, op_pow8_i, op_powL_i, op_lt_i, op_le_i, op_gt_i, op_ge_i, op_neg_i, op_eq_i, op_ne_i, op_eq_s, op_ne_s, op_is_n, op_len_l, op_len_t, op_len_s, op_abs_i, op_max_i, op_min_i, op_int_i, op_int_b, op_divmod_i, op_tup_l, op_tup_t, op_list_l, op_list_t, op_rev_l, op_rev_t, op_own_o, op_own_i, op_setix, op_setR, op_stN, op_as_o, op_as_i, op_isS, op_mut, op_mutR, op_mutS, op_asg_seq, op_asg_seql, op_asg_cons, op_asg_nil, op_asg_nm, op_asg, op_asgR, ixN_1_0, ixN_1_m1, ixN_2_0, ixN_2_1, ixN_2_m1, ixN_3_0, ixN_3_1, ixN_3_2, ixN_3_m1, ixN_4_0, ixN_4_1, ixN_4_2, ixN_4_3, ixN_4_m1, ixN_5_0, ixN_5_1, ixN_5_2, ixN_5_3, ixN_5_4, ixN_5_m1, ixN_6_0, ixN_6_1, ixN_6_2, ixN_6_3, ixN_6_4, ixN_6_5, ixN_6_m1, ixN_7_0, ixN_7_1, ixN_7_2, ixN_7_3, ixN_7_4, ixN_7_5, ixN_7_6, ixN_7_m1, ixN_8_0, ixN_8_1, ixN_8_2, ixN_8_3, ixN_8_4, ixN_8_5, ixN_8_6, ixN_8_7, ixN_8_m1, ixN_9_0, ixN_9_1, ixN_9_2, ixN_9_3, ixN_9_4, ixN_9_5, ixN_9_6, ixN_9_7, ixN_9_8, ixN_9_m1, ixN_10_0, ixN_10_1, ixN_10_2, ixN_10_3, ixN_10_4, ixN_10_5, ixN_10_6, ixN_10_7, ixN_10_8, ixN_10_9, ixN_10_m1, ixN_11_0, ixN_11_1, ixN_11_2, ixN_11_3, ixN_11_4, ixN_11_5, ixN_11_6, ixN_11_7, ixN_11_8, ixN_11_9, ixN_11_10, ixN_11_m1, ixN_12_0, ixN_12_1, ixN_12_2, ixN_12_3, ixN_12_4, ixN_12_5, ixN_12_6, ixN_12_7, ixN_12_8, ixN_12_9, ixN_12_10, ixN_12_11, ixN_12_m1, ixN_13_0, ixN_13_1, ixN_13_2, ixN_13_3, ixN_13_4, ixN_13_5, ixN_13_6, ixN_13_7, ixN_13_8, ixN_13_9, ixN_13_10, ixN_13_11, ixN_13_12, ixN_13_m1, ixN_14_0, ixN_14_1, ixN_14_2, ixN_14_3, ixN_14_4, ixN_14_5, ixN_14_6, ixN_14_7, ixN_14_8, ixN_14_9, ixN_14_10, ixN_14_11, ixN_14_12, ixN_14_13, ixN_14_m1, ixN_15_0, ixN_15_1, ixN_15_2, ixN_15_3, ixN_15_4, ixN_15_5, ixN_15_6, ixN_15_7, ixN_15_8, ixN_15_9, ixN_15_10, ixN_15_11, ixN_15_12, ixN_15_13, ixN_15_14, ixN_15_m1, ix_l0, ix_t0, ix_l1, ix_t1, ix_l2, ix_t2, ix_l3, ix_t3, ix_l4, ix_t4, ix_l5, ix_t5, ix_l6, ix_t6, ix_l7, ix_t7, ix_l8, ix_t8, ix_l9, ix_t9, ix_l10, ix_t10, ix_l11, ix_t11, ix_l12, ix_t12, ix_l13, ix_t13, ev_for, ev_iSeq, ev_mkI, ev_iter_l, ev_iter_t, ev_iter_s, ev_turn_nx, ev_turn_ct, ev_turn_bk, ev_turn_rt, ev_turn_ex, ev_loop0, ev_forR, ev_enum, ev_enumI, ev_zip, ev_wipe0, ev_wipe1, ev_un0, ev_un1, ev_unO_f, ev_unO_n, ev_comp, ev_lc0, ev_lcR0, ev_turnC, ev_tcR, ev_yes, ev_tryAs, ev_tryS_ex, ev_tryS_nx, ev_tryS_rt, ev_tryR, ev_gone_nx, ev_gone_rt, ev_nest, ev_isE, ev_sl, ev_part0, ev_part1, ev_partR, ev_sl_t, ev_sl_l, ev_cast0, ev_cast1, ev_cast2, ev_cast3, ev_cast4, ev_cast5, ev_cast6, ev_cast7, ev_cast8, ev_cast9, ev_cast10, ev_cast11, ev_cast12, ev_cast13, ev_cast14, ev_cast15, ev_cast16, ev_cast17, ev_cast18, ev_cast19, ev_cast20, ev_isi_tt, ev_isi_ti, ev_is_t, ev_isnot_t, ev_isnot_n, ev_zip_tt, ev_zip_ll, op_eqs, op_nes, ev_aug, ev_augR, ev_augS, ev_try, ev_tryT_ex, ev_tryT_nx, ev_tryT_rt, ev_tryT_bk, ev_tryT_ct, ev_tryU, ev_tryU0, ev_cold_nx, ev_cold_rt, back_eq, wipe_eq, unwipe_eq, List.getElem?_cons_zero, List.getElem?_cons_succ, List.set_cons_zero, List.set_cons_succ, Bool.and_true, Bool.true_and, Bool.or_true, Bool.true_or, Bool.or_false, Bool.false_or, Bool.and_false, Bool.false_and, Bool.not_true, Bool.not_false, List.length_cons, List.length_nil, List.map_cons, List.map_nil, List.replicate_succ, List.replicate_zero, List.cons_append, List.nil_append, if_true, if_false, Nat.reduceAdd, Nat.reduceEqDiff, beq_self_eq_true, reduceIte, Nat.zero_add, eq_self, SZ, List.contains_cons, List.contains_nil, Nat.reduceBEq, Nat.reduceLT, Nat.reduceLeDiff, Int.reduceToNat, Int.reducePow, Int.reduceAdd, Int.reduceSub, Int.reduceMul, Int.reduceNeg, Int.reduceLT, Int.reduceLE, Int.reduceEq, Int.reduceDiv, Int.reduceMod, Option.map_some, Option.map_none, cut1, rg1_eq, rb1_ok, rg2_eq, rb2_ok, bk_d0, bk_d1, bk_d2, bk_d3, bk_d4, bk_i0, bk_i1, bk_i2, bk_i3, e1, e2, e3, e4, e5, e6]
theorem check_posts_ok {l : Runs} (h : Good l) (hn : l ≠ []) (hl : l.length < 900) : Fcheck_posts [.fz (.tup (l.map runD))] = .ret (.fz .non) [none] := by
  have e1 := is_posts_ok h hn hl
  unfold Fcheck_posts Bcheck_posts
  revert e1
  generalize Fis_posts = f1
  generalize D.tup (l.map runD) = ld
  intro e1
  simp (maxSteps := 20000000) (disch := (first | assumption | omega | (simp only [List.length_cons, List.length_nil, List.length_append, List.length_map, SZ]; done) | (simp only [List.length_cons, List.length_nil, List.length_append, List.length_map, SZ]; omega))) only [ev_seq, ev_seq_nx, ev_seq_rt, ev_seq_ex, ev_seq_bk, ev_seq_ct, ev_nil, ev_pass, ev_break, ev_cont, ev_retN, ev_ret, ev_drop, ev_set, ev_raise, ev_if, ev_par, ev_par3, ev_toS_ok, ev_toS_ex, ev_toS_no, ev_bind_ok, ev_bind_ex, ev_bind_no, ev_it, ev_if_f, ev_C, ev_var, ev_var1, ev_var2, ev_mov, ev_mov1, ev_mov2, ev_okV_e, ev_okV_v, ev_okO, ev_run_e, ev_run_v, ev_get_d, ev_get_i, ev_getO, ev_d_fz, ev_d_ow, ev_d_io, ev_op2, ev_get2, ev_g2, ev_op1, ev_get1, ev_g1, ev_mk, ev_mk0, ev_opN, ev_all_nil, ev_all_cons, ev_runO_nil, ev_runO_cons, ev_getN, ev_gN, ev_getL_nil, ev_getL_cons, ev_gL, ev_runE_nil, ev_runE_cons, ev_tup, ev_lst, ev_mIf, ev_and, ev_or, ev_not, ev_blR, ev_toT, ev_blT, ev_okI, ev_okB, ev_tru, ev_mkT, ev_obind, ev_tru_bl, ev_andT, ev_orT, ev_notT, ev_chain, ev_chR, ev_fn, ev_of_nx, ev_of_rt, ev_of_ex, ev_outs0, ev_outs1, ev_ioE_n, ev_ioE_f, ev_ioE_o, ev_ioE_i, ev_call, ev_callK, ev_callR, ev_args_nil, ev_args_cons, ev_argC, ev_arg_d, ev_arg_i, ev_argO_f, ev_argO_o, ev_argO_i, ev_apart_nil, ev_apart_d, ev_apart_i, ev_any_nil, ev_any_cons, ev_at_d, ev_at_i, ev_ofF_ret, ev_ofF_exc, ev_back0, ev_back1, ev_b1n, ev_b1f, ev_b1o, ev_b1i, ev_bkO0, ev_bkO1, ev_bkI0, ev_bkI1, ev_look0, ev_look_d, ev_look_i, ev_join, ev_head, ev_tail, ev_call1, ev_go_o, ev_go_f, ev_of1_r, ev_of1_e, op_add_i, op_sub_i, op_iadd_i, op_mul_i, op_fdiv_i, op_mod_i, op_pow8_i, op_powL_i, op_lt_i, op_le_i, op_gt_i, op_ge_i, op_neg_i, op_eq_i, op_ne_i, op_eq_s, op_ne_s, op_is_n, op_len_l, op_len_t, op_len_s, op_abs_i, op_max_i, op_min_i, op_int_i, op_int_b, op_divmod_i, op_tup_l, op_tup_t, op_list_l, op_list_t, op_rev_l, op_rev_t, op_own_o, op_own_i, op_setix, op_setR, op_stN, op_as_o, op_as_i, op_isS, op_mut, op_mutR, op_mutS, op_asg_seq, op_asg_seql, op_asg_cons, op_asg_nil, op_asg_nm, op_asg, op_asgR, ixN_1_0, ixN_1_m1, ixN_2_0, ixN_2_1, ixN_2_m1, ixN_3_0, ixN_3_1, ixN_3_2, ixN_3_m1, ixN_4_0, ixN_4_1, ixN_4_2, ixN_4_3, ixN_4_m1, ixN_5_0, ixN_5_1, ixN_5_2, ixN_5_3, ixN_5_4, ixN_5_m1, ixN_6_0, ixN_6_1, ixN_6_2, ixN_6_3, ixN_6_4, ixN_6_5, ixN_6_m1, ixN_7_0, ixN_7_1, ixN_7_2, ixN_7_3, ixN_7_4, ixN_7_5, ixN_7_6, ixN_7_m1, ixN_8_0, ixN_8_1, ixN_8_2, ixN_8_3, ixN_8_4, ixN_8_5, ixN_8_6, ixN_8_7, ixN_8_m1, ixN_9_0, ixN_9_1, ixN_9_2, ixN_9_3, ixN_9_4, ixN_9_5, ixN_9_6, ixN_9_7, ixN_9_8, ixN_9_m1, ixN_10_0, ixN_10_1, ixN_10_2, ixN_10_3, ixN_10_4, ixN_10_5, ixN_10_6, ixN_10_7, ixN_10_8, ixN_10_9, ixN_10_m1, ixN_11_0, ixN_11_1, ixN_11_2, ixN_11_3, ixN_11_4, ixN_11_5, ixN_11_6, ixN_11_7, ixN_11_8, ixN_11_9, ixN_11_10, ixN_11_m1, ixN_12_0, ixN_12_1, ixN_12_2, ixN_12_3, ixN_12_4, ixN_12_5, ixN_12_6, ixN_12_7, ixN_12_8, ixN_12_9, ixN_12_10, ixN_12_11, ixN_12_m1, ixN_13_0, ixN_13_1, ixN_13_2, ixN_13_3, ixN_13_4, ixN_13_5, ixN_13_6, ixN_13_7, ixN_13_8, ixN_13_9, ixN_13_10, ixN_13_11, ixN_13_12, ixN_13_m1, ixN_14_0, ixN_14_1, ixN_14_2, ixN_14_3, ixN_14_4, ixN_14_5, ixN_14_6, ixN_14_7, ixN_14_8, ixN_14_9, ixN_14_10, ixN_14_11, ixN_14_12, ixN_14_13, ixN_14_m1, ixN_15_0, ixN_15_1, ixN_15_2, ixN_15_3, ixN_15_4, ixN_15_5, ixN_15_6, ixN_15_7, ixN_15_8, ixN_15_9, ixN_15_10, ixN_15_11, ixN_15_12, ixN_15_13, ixN_15_14, ixN_15_m1, ix_l0, ix_t0, ix_l1, ix_t1, ix_l2, ix_t2, ix_l3, ix_t3, ix_l4, ix_t4, ix_l5, ix_t5, ix_l6, ix_t6, ix_l7, ix_t7, ix_l8, ix_t8, ix_l9, ix_t9, ix_l10, ix_t10, ix_l11, ix_t11, ix_l12, ix_t12, ix_l13, ix_t13, ev_for, ev_iSeq, ev_mkI, ev_iter_l, ev_iter_t, ev_iter_s, ev_turn_nx, ev_turn_ct, ev_turn_bk, ev_turn_rt, ev_turn_ex, ev_loop0, ev_forR, ev_enum, ev_enumI, ev_zip, ev_wipe0, ev_wipe1, ev_un0, ev_un1, ev_unO_f, ev_unO_n, ev_comp, ev_lc0, ev_lcR0, ev_turnC, ev_tcR, ev_yes, ev_tryAs, ev_tryS_ex, ev_tryS_nx, ev_tryS_rt, ev_tryR, ev_gone_nx, ev_gone_rt, ev_nest, ev_isE, ev_sl, ev_part0, ev_part1, ev_partR, ev_sl_t, ev_sl_l, ev_cast0, ev_cast1, ev_cast2, ev_cast3, ev_cast4, ev_cast5, ev_cast6, ev_cast7, ev_cast8, ev_cast9, ev_cast10, ev_cast11, ev_cast12, ev_cast13, ev_cast14, ev_cast15, ev_cast16, ev_cast17, ev_cast18, ev_cast19, ev_cast20, ev_isi_tt, ev_isi_ti, ev_is_t, ev_isnot_t, ev_isnot_n, ev_zip_tt, ev_zip_ll, op_eqs, op_nes, ev_aug, ev_augR, ev_augS, ev_try, ev_tryT_ex, ev_tryT_nx, ev_tryT_rt, ev_tryT_bk, ev_tryT_ct, ev_tryU, ev_tryU0, ev_cold_nx, ev_cold_rt, back_eq, wipe_eq, unwipe_eq, List.getElem?_cons_zero, List.getElem?_cons_succ, List.set_cons_zero, List.set_cons_succ, Bool.and_true, Bool.true_and, Bool.or_true, Bool.true_or, Bool.or_false, Bool.false_or, Bool.and_false, Bool.false_and, Bool.not_true, Bool.not_false, List.length_cons, List.length_nil, List.map_cons, List.map_nil, List.replicate_succ, List.replicate_zero, List.cons_append, List.nil_append, if_true, if_false, Nat.reduceAdd, Nat.reduceEqDiff, beq_self_eq_true, reduceIte, Nat.zero_add, eq_self, SZ, List.contains_cons, List.contains_nil, Nat.reduceBEq, Nat.reduceLT, Nat.reduceLeDiff, Int.reduceToNat, Int.reducePow, Int.reduceAdd, Int.reduceSub, Int.reduceMul, Int.reduceNeg, Int.reduceLT, Int.reduceLE, Int.reduceEq, Int.reduceDiv, Int.reduceMod, Option.map_some, Option.map_none, cut1, rg1_eq, rb1_ok, rg2_eq, rb2_ok, bk_d0, bk_d1, bk_d2, bk_d3, bk_d4, bk_i0, bk_i1, bk_i2, bk_i3, e1]
theorem side_R (q : Bool) : eqD (.str (sideS q)) (.str "R") = some (.fz (.bl (!q))) := by cases q <;> kernel_rfl
theorem side_L (q : Bool) : eqD (.str (sideS q)) (.str "L") = some (.fz (.bl q)) := by cases q <;> kernel_rfl
end G

namespace G
open PySem PySem.Spec PyProof.Rows L2 Mi
theorem count_loop (x0 : Option Sl) : ∀ (l : Runs) (acc : List D), acc.length + l.length < 1000 →
    loopC (turnC (gSeq 2 (gsCons (gNm 1) (gsCons (gNm 2) gsNil))) tYesE Ecount_posts_0 [1, 2]) (l.map runD) [x0, none, none] acc = .ok (acc ++ (l.map (·.2)).map .int) [x0, none, none]
  | [], acc, _ => by simp [ev_lc0]
  | (q, c) :: l, acc, hl => by
    rw [List.length_cons] at hl
    have ih := count_loop x0 l (acc ++ [.int c]) (by rw [List.length_append, List.length_cons, List.length_nil]; omega)
    have e0 : runD (q, c) = .tup [.str (sideS q), .int c] := rfl
    have e7 : turnC (gSeq 2 (gsCons (gNm 1) (gsCons (gNm 2) gsNil))) tYesE Ecount_posts_0 [1, 2] (.tup [.str (sideS q), .int c]) [x0, none, none] = .ok (some (.int c)) [x0, none, none] := by
      unfold Ecount_posts_0
      simp (maxSteps := 20000000) (disch := (first | assumption | omega | (simp only [List.length_cons, List.length_nil, List.length_append, List.length_map, SZ]; done) | (simp only [List.length_cons, List.length_nil, List.length_append, List.length_map, SZ]; omega))) only [ev_seq, ev_seq_nx, ev_seq_rt, ev_seq_ex, ev_seq_bk, ev_seq_ct, ev_nil, ev_pass, ev_break, ev_cont, ev_retN, ev_ret, ev_drop, ev_set, ev_raise, ev_if, ev_par, ev_par3, ev_toS_ok, ev_toS_ex, ev_toS_no, ev_bind_ok, ev_bind_ex, ev_bind_no, ev_it, ev_if_f, ev_C, ev_var, ev_var1, ev_var2, ev_mov, ev_mov1, ev_mov2, ev_okV_e, ev_okV_v, ev_okO, ev_run_e, ev_run_v, ev_get_d, ev_get_i, ev_getO, ev_d_fz, ev_d_ow, ev_d_io, ev_op2, ev_get2, ev_g2, ev_op1, ev_get1, ev_g1, ev_mk, ev_mk0, ev_opN, ev_all_nil, ev_all_cons, ev_runO_nil, ev_runO_cons, ev_getN, ev_gN, ev_getL_nil, ev_getL_cons, ev_gL, ev_runE_nil, ev_runE_cons, ev_tup, ev_lst, ev_mIf, ev_and, ev_or, ev_not, ev_blR, ev_toT, ev_blT, ev_okI, ev_okB, ev_tru, ev_mkT, ev_obind, ev_tru_bl, ev_andT, ev_orT, ev_notT, ev_chain, ev_chR, ev_fn, ev_of_nx, ev_of_rt, ev_of_ex, ev_outs0, ev_outs1, ev_ioE_n, ev_ioE_f, ev_ioE_o, ev_ioE_i, ev_call, ev_callK, ev_callR, ev_args_nil, ev_args_cons, ev_argC, ev_arg_d, ev_arg_i, ev_argO_f, ev_argO_o, ev_argO_i, ev_apart_nil, ev_apart_d, ev_apart_i, ev_any_nil, ev_any_cons, ev_at_d, ev_at_i, ev_ofF_ret, ev_ofF_exc, ev_back0, ev_back1, ev_b1n, ev_b1f, ev_b1o, ev_b1i, ev_bkO0, ev_bkO1, ev_bkI0, ev_bkI1, ev_look0, ev_look_d, ev_look_i, ev_join, ev_head, ev_tail, ev_call1, ev_go_o, ev_go_f, ev_of1_r, ev_of1_e, op_add_i, op_sub_i, op_iadd_i, op_mul_i, op_fdiv_i, op_mod_i, op_pow8_i, op_powL_i, op_lt_i, op_le_i, op_gt_i, op_ge_i, op_neg_i, op_eq_i, op_ne_i, op_eq_s, op_ne_s, op_is_n, op_len_l, op_len_t, op_len_s, op_abs_i, op_max_i, op_min_i, op_int_i, op_int_b, op_divmod_i, op_tup_l, op_tup_t, op_list_l, op_list_t, op_rev_l, op_rev_t, op_own_o, op_own_i, op_setix, op_setR, op_stN, op_as_o, op_as_i, op_isS, op_mut, op_mutR, op_mutS, op_asg_seq, op_asg_seql, op_asg_cons, op_asg_nil, op_asg_nm, op_asg, op_asgR, ixN_1_0, ixN_1_m1, ixN_2_0, ixN_2_1, ixN_2_m1, ixN_3_0, ixN_3_1, ixN_3_2, ixN_3_m1, ixN_4_0, ixN_4_1, ixN_4_2, ixN_4_3, ixN_4_m1, ixN_5_0, ixN_5_1, ixN_5_2, ixN_5_3, ixN_5_4, ixN_5_m1, ixN_6_0, ixN_6_1, ixN_6_2, ixN_6_3, ixN_6_4, ixN_6_5, ixN_6_m1, ixN_7_0, ixN_7_1, ixN_7_2, ixN_7_3, ixN_7_4, ixN_7_5, ixN_7_6, ixN_7_m1, ixN_8_0, ixN_8_1, ixN_8_2, ixN_8_3, ixN_8_4, ixN_8_5, ixN_8_6, ixN_8_7, ixN_8_m1, ixN_9_0, ixN_9_1, ixN_9_2, ixN_9_3, ixN_9_4, ixN_9_5, ixN_9_6, ixN_9_7, ixN_9_8, ixN_9_m1, ixN_10_0, ixN_10_1, ixN_10_2, ixN_10_3, ixN_10_4, ixN_10_5, ixN_10_6, ixN_10_7, ixN_10_8, ixN_10_9, ixN_10_m1, ixN_11_0, ixN_11_1, ixN_11_2, ixN_11_3, ixN_11_4, ixN_11_5, ixN_11_6, ixN_11_7, ixN_11_8, ixN_11_9, ixN_11_10, ixN_11_m1, ixN_12_0, ixN_12_1, ixN_12_2, ixN_12_3, ixN_12_4, ixN_12_5, ixN_12_6, ixN_12_7, ixN_12_8, ixN_12_9, ixN_12_10, ixN_12_11, ixN_12_m1, ixN_13_0, ixN_13_1, ixN_13_2, ixN_13_3, ixN_13_4, ixN_13_5, ixN_13_6, ixN_13_7, ixN_13_8, ixN_13_9, ixN_13_10, ixN_13_11, ixN_13_12, ixN_13_m1, ixN_14_0, ixN_14_1, ixN_14_2, ixN_14_3, ixN_14_4, ixN_14_5, ixN_14_6, ixN_14_7, ixN_14_8, ixN_14_9, ixN_14_10, ixN_14_11, ixN_14_12, ixN_14_13, ixN_14_m1, ixN_15_0, ixN_15_1, ixN_15_2, ixN_15_3, ixN_15_4, ixN_15_5, ixN_15_6, ixN_15_7, ixN_15_8, ixN_15_9, ixN_15_10, ixN_15_11, ixN_15_12, ixN_15_13, ixN_15_14, ixN_15_m1, ix_l0, ix_t0, ix_l1, ix_t1, ix_l2, ix_t2, ix_l3, ix_t3, ix_l4, ix_t4, ix_l5, ix_t5, ix_l6, ix_t6, ix_l7, ix_t7, ix_l8, ix_t8, ix_l9, ix_t9, ix_l10, ix_t10, ix_l11, ix_t11, ix_l12, ix_t12, ix_l13, ix_t13, ev_for, ev_iSeq, ev_mkI, ev_iter_l, ev_iter_t, ev_iter_s, ev_turn_nx, ev_turn_ct, ev_turn_bk, ev_turn_rt, ev_turn_ex, ev_loop0, ev_forR, ev_enum, ev_enumI, ev_zip, ev_wipe0, ev_wipe1, ev_un0, ev_un1, ev_unO_f, ev_unO_n, ev_comp, ev_lc0, ev_lcR0, ev_turnC, ev_tcR, ev_yes, ev_tryAs, ev_tryS_ex, ev_tryS_nx, ev_tryS_rt, ev_tryR, ev_gone_nx, ev_gone_rt, ev_nest, ev_isE, ev_sl, ev_part0, ev_part1, ev_partR, ev_sl_t, ev_sl_l, ev_cast0, ev_cast1, ev_cast2, ev_cast3, ev_cast4, ev_cast5, ev_cast6, ev_cast7, ev_cast8, ev_cast9, ev_cast10, ev_cast11, ev_cast12, ev_cast13, ev_cast14, ev_cast15, ev_cast16, ev_cast17, ev_cast18, ev_cast19, ev_cast20, ev_isi_tt, ev_isi_ti, ev_is_t, ev_isnot_t, ev_isnot_n, ev_zip_tt, ev_zip_ll, op_eqs, op_nes, ev_aug, ev_augR, ev_augS, ev_try, ev_tryT_ex, ev_tryT_nx, ev_tryT_rt, ev_tryT_bk, ev_tryT_ct, ev_tryU, ev_tryU0, ev_cold_nx, ev_cold_rt, back_eq, wipe_eq, unwipe_eq, List.getElem?_cons_zero, List.getElem?_cons_succ, List.set_cons_zero, List.set_cons_succ, Bool.and_true, Bool.true_and, Bool.or_true, Bool.true_or, Bool.or_false, Bool.false_or, Bool.and_false, Bool.false_and, Bool.not_true, Bool.not_false, List.length_cons, List.length_nil, List.map_cons, List.map_nil, List.replicate_succ, List.replicate_zero, List.cons_append, List.nil_append, if_true, if_false, Nat.reduceAdd, Nat.reduceEqDiff, beq_self_eq_true, reduceIte, Nat.zero_add, eq_self, SZ, List.contains_cons, List.contains_nil, Nat.reduceBEq, Nat.reduceLT, Nat.reduceLeDiff, Int.reduceToNat, Int.reducePow, Int.reduceAdd, Int.reduceSub, Int.reduceMul, Int.reduceNeg, Int.reduceLT, Int.reduceLE, Int.reduceEq, Int.reduceDiv, Int.reduceMod, Option.map_some, Option.map_none, cut1, rg1_eq, rb1_ok, rg2_eq, rb2_ok, bk_d0, bk_d1, bk_d2, bk_d3, bk_d4, bk_i0, bk_i1, bk_i2, bk_i3]
    rw [List.map_cons, lc_cons, e0, e7, ev_lcR1 (by unfold SZ; omega), ih]
    simp
theorem count_ok {l : Runs} (hl : l.length < 900) : Fcount_posts [.fz (.tup (l.map runD))] = .ret (.fz (.int (amt l))) [none] := by
  have e1 := count_loop (some (.fz (.tup (l.map runD)))) l [] (by simp; omega)
  have e2 := sum_ints (l.map (·.2))
  rw [amt_sum] at e2
  rw [List.nil_append] at e1
  unfold Fcount_posts Bcount_posts
  revert e1 e2
  generalize Ecount_posts_0 = f1
  generalize (l.map (·.2)).map D.int = rs
  intro e1 e2
  simp (maxSteps := 20000000) (disch := (first | assumption | omega | (simp only [List.length_cons, List.length_nil, List.length_append, List.length_map, SZ]; done) | (simp only [List.length_cons, List.length_nil, List.length_append, List.length_map, SZ]; omega))) only [ev_seq, ev_seq_nx, ev_seq_rt, ev_seq_ex, ev_seq_bk, ev_seq_ct, ev_nil, ev_pass, ev_break, ev_cont, ev_retN, ev_ret, ev_drop, ev_set, ev_raise, ev_if, ev_par, ev_par3, ev_toS_ok, ev_toS_ex, ev_toS_no, ev_bind_ok, ev_bind_ex, ev_bind_no, ev_it, ev_if_f, ev_C, ev_var, ev_var1, ev_var2, ev_mov, ev_mov1, ev_mov2, ev_okV_e, ev_okV_v, ev_okO, ev_run_e, ev_run_v, ev_get_d, ev_get_i, ev_getO, ev_d_fz, ev_d_ow, ev_d_io, ev_op2, ev_get2, ev_g2, ev_op1, ev_get1, ev_g1, ev_mk, ev_mk0, ev_opN, ev_all_nil, ev_all_cons, ev_runO_nil, ev_runO_cons, ev_getN, ev_gN, ev_getL_nil, ev_getL_cons, ev_gL, ev_runE_nil, ev_runE_cons, ev_tup, ev_lst, ev_mIf, ev_and, ev_or, ev_not, ev_blR, ev_toT, ev_blT, ev_okI, ev_okB, ev_tru, ev_mkT, ev_obind, ev_tru_bl, ev_andT, ev_orT, ev_notT, ev_chain, ev_chR, ev_fn, ev_of_nx, ev_of_rt, ev_of_ex, ev_outs0, ev_outs1, ev_ioE_n, ev_ioE_f, ev_ioE_o, ev_ioE_i, ev_call, ev_callK, ev_callR, ev_args_nil, ev_args_cons, ev_argC, ev_arg_d, ev_arg_i, ev_argO_f, ev_argO_o, ev_argO_i, ev_apart_nil, ev_apart_d, ev_apart_i, ev_any_nil, ev_any_cons, ev_at_d, ev_at_i, ev_ofF_ret, ev_ofF_exc, ev_back0, ev_back1, ev_b1n, ev_b1f, ev_b1o, ev_b1i, ev_bkO0, ev_bkO1, ev_bkI0, ev_bkI1, ev_look0, ev_look_d, ev_look_i, ev_join, ev_head, ev_tail, ev_call1, ev_go_o, ev_go_f, ev_of1_r, ev_of1_e, op_add_i, op_sub_i, op_iadd_i, op_mul_i, op_fdiv_i, op_mod_i, op_pow8_i, op_powL_i, op_lt_i, op_le_i, op_gt_i, op_ge_i, op_neg_i, op_eq_i, op_ne_i, op_eq_s, op_ne_s, op_is_n, op_len_l, op_len_t, op_len_s, op_abs_i, op_max_i, op_min_i, op_int_i, op_int_b, op_divmod_i, op_tup_l, op_tup_t, op_list_l, op_list_t, op_rev_l, op_rev_t, op_own_o, op_own_i, op_setix, op_setR, op_stN, op_as_o, op_as_i, op_isS, op_mut, op_mutR, op_mutS, op_asg_seq, op_asg_seql, op_asg_cons, op_asg_nil, op_asg_nm, op_asg, op_asgR, ixN_1_0, ixN_1_m1, ixN_2_0, ixN_2_1, ixN_2_m1, ixN_3_0, ixN_3_1, ixN_3_2, ixN_3_m1, ixN_4_0, ixN_4_1, ixN_4_2, ixN_4_3, ixN_4_m1, ixN_5_0, ixN_5_1, ixN_5_2, ixN_5_3, ixN_5_4, ixN_5_m1, ixN_6_0, ixN_6_1, ixN_6_2, ixN_6_3, ixN_6_4, ixN_6_5, ixN_6_m1, ixN_7_0, ixN_7_1, ixN_7_2, ixN_7_3, ixN_7_4, ixN_7_5, ixN_7_6, ixN_7_m1, ixN_8_0, ixN_8_1, ixN_8_2, ixN_8_3, ixN_8_4, ixN_8_5, ixN_8_6, ixN_8_7, ixN_8_m1, ixN_9_0, ixN_9_1, ixN_9_2, ixN_9_3, ixN_9_4, ixN_9_5, ixN_9_6, ixN_9_7, ixN_9_8, ixN_9_m1, ixN_10_0, ixN_10_1, ixN_10_2, ixN_10_3, ixN_10_4, ixN_10_5, ixN_10_6, ixN_10_7, ixN_10_8, ixN_10_9, ixN_10_m1, ixN_11_0, ixN_11_1, ixN_11_2, ixN_11_3, ixN_11_4, ixN_11_5, ixN_11_6, ixN_11_7, ixN_11_8, ixN_11_9, ixN_11_10, ixN_11_m1, ixN_12_0, ixN_12_1, ixN_12_2, ixN_12_3, ixN_12_4, ixN_12_5, ixN_12_6, ixN_12_7, ixN_12_8, ixN_12_9, ixN_12_10, ixN_12_11, ixN_12_m1, ixN_13_0, ixN_13_1, ixN_13_2, ixN_13_3, ixN_13_4, ixN_13_5, ixN_13_6, ixN_13_7, ixN_13_8, ixN_13_9, ixN_13_10, ixN_13_11, ixN_13_12, ixN_13_m1, ixN_14_0, ixN_14_1, ixN_14_2, ixN_14_3, ixN_14_4, ixN_14_5, ixN_14_6, ixN_14_7, ixN_14_8, ixN_14_9, ixN_14_10, ixN_14_11, ixN_14_12, ixN_14_13, ixN_14_m1, ixN_15_0, ixN_15_1, ixN_15_2, ixN_15_3, ixN_15_4, ixN_15_5, ixN_15_6, ixN_15_7, ixN_15_8, ixN_15_9, ixN_15_10, ixN_15_11, ixN_15_12, ixN_15_13, ixN_15_14, ixN_15_m1, ix_l0, ix_t0, ix_l1, ix_t1, ix_l2, ix_t2, ix_l3, ix_t3, ix_l4, ix_t4, ix_l5, ix_t5, ix_l6, ix_t6, ix_l7, ix_t7, ix_l8, ix_t8, ix_l9, ix_t9, ix_l10, ix_t10, ix_l11, ix_t11, ix_l12, ix_t12, ix_l13, ix_t13, ev_for, ev_iSeq, ev_mkI, ev_iter_l, ev_iter_t, ev_iter_s, ev_turn_nx, ev_turn_ct, ev_turn_bk, ev_turn_rt, ev_turn_ex, ev_loop0, ev_forR, ev_enum, ev_enumI, ev_zip, ev_wipe0, ev_wipe1, ev_un0, ev_un1, ev_unO_f, ev_unO_n, ev_comp, ev_lc0, ev_lcR0, ev_turnC, ev_tcR, ev_yes, ev_tryAs, ev_tryS_ex, ev_tryS_nx, ev_tryS_rt, ev_tryR, ev_gone_nx, ev_gone_rt, ev_nest, ev_isE, ev_sl, ev_part0, ev_part1, ev_partR, ev_sl_t, ev_sl_l, ev_cast0, ev_cast1, ev_cast2, ev_cast3, ev_cast4, ev_cast5, ev_cast6, ev_cast7, ev_cast8, ev_cast9, ev_cast10, ev_cast11, ev_cast12, ev_cast13, ev_cast14, ev_cast15, ev_cast16, ev_cast17, ev_cast18, ev_cast19, ev_cast20, ev_isi_tt, ev_isi_ti, ev_is_t, ev_isnot_t, ev_isnot_n, ev_zip_tt, ev_zip_ll, op_eqs, op_nes, ev_aug, ev_augR, ev_augS, ev_try, ev_tryT_ex, ev_tryT_nx, ev_tryT_rt, ev_tryT_bk, ev_tryT_ct, ev_tryU, ev_tryU0, ev_cold_nx, ev_cold_rt, back_eq, wipe_eq, unwipe_eq, List.getElem?_cons_zero, List.getElem?_cons_succ, List.set_cons_zero, List.set_cons_succ, Bool.and_true, Bool.true_and, Bool.or_true, Bool.true_or, Bool.or_false, Bool.false_or, Bool.and_false, Bool.false_and, Bool.not_true, Bool.not_false, List.length_cons, List.length_nil, List.map_cons, List.map_nil, List.replicate_succ, List.replicate_zero, List.cons_append, List.nil_append, if_true, if_false, Nat.reduceAdd, Nat.reduceEqDiff, beq_self_eq_true, reduceIte, Nat.zero_add, eq_self, SZ, List.contains_cons, List.contains_nil, Nat.reduceBEq, Nat.reduceLT, Nat.reduceLeDiff, Int.reduceToNat, Int.reducePow, Int.reduceAdd, Int.reduceSub, Int.reduceMul, Int.reduceNeg, Int.reduceLT, Int.reduceLE, Int.reduceEq, Int.reduceDiv, Int.reduceMod, Option.map_some, Option.map_none, cut1, rg1_eq, rb1_ok, rg2_eq, rb2_ok, bk_d0, bk_d1, bk_d2, bk_d3, bk_d4, bk_i0, bk_i1, bk_i2, bk_i3, e1, e2]
theorem is_place_ok {l : Runs} (hl : l.length < 900) (p : Int) : Fis_place [.fz (.tup (l.map runD)), .fz (.int p)] = .ret (.fz (.bl (decide (1 ≤ p ∧ p ≤ amt l)))) [none, none] := by
  have e1 := count_ok hl
  have e2 := is_int_i p 1
  unfold Fis_place Bis_place
  revert e1 e2
  generalize Fcount_posts = f1
  generalize Fis_integer = f2
  generalize D.tup (l.map runD) = ld
  generalize amt l = n
  intro e1 e2
  by_cases h : 1 ≤ p
  · rw [decide_eq_true h] at e2
    have e3 : decide (1 ≤ p ∧ p ≤ n) = decide (p ≤ n) := by
      apply decide_eq_decide.mpr
      omega
    rw [e3]
    simp (maxSteps := 20000000) (disch := (first | assumption | omega | (simp only [List.length_cons, List.length_nil, List.length_append, List.length_map, SZ]; done) | (simp only [List.length_cons, List.length_nil, List.length_append, List.length_map, SZ]; omega))) only [ev_seq, ev_seq_nx, ev_seq_rt, ev_seq_ex, ev_seq_bk, ev_seq_ct, ev_nil, ev_pass, ev_break, ev_cont, ev_retN, ev_ret, ev_drop, ev_set, ev_raise, ev_if, ev_par, ev_par3, ev_toS_ok, ev_toS_ex, ev_toS_no, ev_bind_ok, ev_bind_ex, ev_bind_no, ev_it, ev_if_f, ev_C, ev_var, ev_var1, ev_var2, ev_mov, ev_mov1, ev_mov2, ev_okV_e, ev_okV_v, ev_okO, ev_run_e, ev_run_v, ev_get_d, ev_get_i, ev_getO, ev_d_fz, ev_d_ow, ev_d_io, ev_op2, ev_get2, ev_g2, ev_op1, ev_get1, ev_g1, ev_mk, ev_mk0, ev_opN, ev_all_nil, ev_all_cons, ev_runO_nil, ev_runO_cons, ev_getN, ev_gN, ev_getL_nil, ev_getL_cons, ev_gL, ev_runE_nil, ev_runE_cons, ev_tup, ev_lst, ev_mIf, ev_and, ev_or, ev_not, ev_blR, ev_toT, ev_blT, ev_okI, ev_okB, ev_tru, ev_mkT, ev_obind, ev_tru_bl, ev_andT, ev_orT, ev_notT, ev_chain, ev_chR, ev_fn, ev_of_nx, ev_of_rt, ev_of_ex, ev_outs0, ev_outs1, ev_ioE_n, ev_ioE_f, ev_ioE_o, ev_ioE_i, ev_call, ev_callK, ev_callR, ev_args_nil, ev_args_cons, ev_argC, ev_arg_d, ev_arg_i, ev_argO_f, ev_argO_o, ev_argO_i, ev_apart_nil, ev_apart_d, ev_apart_i, ev_any_nil, ev_any_cons, ev_at_d, ev_at_i, ev_ofF_ret, ev_ofF_exc, ev_back0, ev_back1, ev_b1n, ev_b1f, ev_b1o, ev_b1i, ev_bkO0, ev_bkO1, ev_bkI0, ev_bkI1, ev_look0, ev_look_d, ev_look_i, ev_join, ev_head, ev_tail, ev_call1, ev_go_o, ev_go_f, ev_of1_r, ev_of1_e, op_add_i, op_sub_i, op_iadd_i, op_mul_i, op_fdiv_i, op_mod_i, op_pow8_i, op_powL_i, op_lt_i, op_le_i, op_gt_i, op_ge_i, op_neg_i, op_eq_i, op_ne_i, op_eq_s, op_ne_s, op_is_n, op_len_l, op_len_t, op_len_s, op_abs_i, op_max_i, op_min_i, op_int_i, op_int_b, op_divmod_i, op_tup_l, op_tup_t, op_list_l, op_list_t, op_rev_l, op_rev_t, op_own_o, op_own_i, op_setix, op_setR, op_stN, op_as_o, op_as_i, op_isS, op_mut, op_mutR, op_mutS, op_asg_seq, op_asg_seql, op_asg_cons, op_asg_nil, op_asg_nm, op_asg, op_asgR, ixN_1_0, ixN_1_m1, ixN_2_0, ixN_2_1, ixN_2_m1, ixN_3_0, ixN_3_1, ixN_3_2, ixN_3_m1, ixN_4_0, ixN_4_1, ixN_4_2, ixN_4_3, ixN_4_m1, ixN_5_0, ixN_5_1, ixN_5_2, ixN_5_3, ixN_5_4, ixN_5_m1, ixN_6_0, ixN_6_1, ixN_6_2, ixN_6_3, ixN_6_4, ixN_6_5, ixN_6_m1, ixN_7_0, ixN_7_1, ixN_7_2, ixN_7_3, ixN_7_4, ixN_7_5, ixN_7_6, ixN_7_m1, ixN_8_0, ixN_8_1, ixN_8_2, ixN_8_3, ixN_8_4, ixN_8_5, ixN_8_6, ixN_8_7, ixN_8_m1, ixN_9_0, ixN_9_1, ixN_9_2, ixN_9_3, ixN_9_4, ixN_9_5, ixN_9_6, ixN_9_7, ixN_9_8, ixN_9_m1, ixN_10_0, ixN_10_1, ixN_10_2, ixN_10_3, ixN_10_4, ixN_10_5, ixN_10_6, ixN_10_7, ixN_10_8, ixN_10_9, ixN_10_m1, ixN_11_0, ixN_11_1, ixN_11_2, ixN_11_3, ixN_11_4, ixN_11_5, ixN_11_6, ixN_11_7, ixN_11_8, ixN_11_9, ixN_11_10, ixN_11_m1, ixN_12_0, ixN_12_1, ixN_12_2, ixN_12_3, ixN_12_4, ixN_12_5, ixN_12_6, ixN_12_7, ixN_12_8, ixN_12_9, ixN_12_10, ixN_12_11, ixN_12_m1, ixN_13_0, ixN_13_1, ixN_13_2, ixN_13_3, ixN_13_4, ixN_13_5, ixN_13_6, ixN_13_7, ixN_13_8, ixN_13_9, ixN_13_10, ixN_13_11, ixN_13_12, ixN_13_m1, ixN_14_0, ixN_14_1, ixN_14_2, ixN_14_3, ixN_14_4, ixN_14_5, ixN_14_6, ixN_14_7, ixN_14_8, ixN_14_9, ixN_14_10, ixN_14_11, ixN_14_12, ixN_14_13, ixN_14_m1, ixN_15_0, ixN_15_1, ixN_15_2, ixN_15_3, ixN_15_4, ixN_15_5, ixN_15_6, ixN_15_7, ixN_15_8, ixN_15_9, ixN_15_10, ixN_15_11, ixN_15_12, ixN_15_13, ixN_15_14, ixN_15_m1, ix_l0, ix_t0, ix_l1, ix_t1, ix_l2, ix_t2, ix_l3, ix_t3, ix_l4, ix_t4, ix_l5, ix_t5, ix_l6, ix_t6, ix_l7, ix_t7, ix_l8, ix_t8, ix_l9, ix_t9, ix_l10, ix_t10, ix_l11, ix_t11, ix_l12, ix_t12, ix_l13, ix_t13, ev_for, ev_iSeq, ev_mkI, ev_iter_l, ev_iter_t, ev_iter_s, ev_turn_nx, ev_turn_ct, ev_turn_bk, ev_turn_rt, ev_turn_ex, ev_loop0, ev_forR, ev_enum, ev_enumI, ev_zip, ev_wipe0, ev_wipe1, ev_un0, ev_un1, ev_unO_f, ev_unO_n, ev_comp, ev_lc0, ev_lcR0, ev_turnC, ev_tcR, ev_yes, ev_tryAs, ev_tryS_ex, ev_tryS_nx, ev_tryS_rt, ev_tryR, ev_gone_nx, ev_gone_rt, ev_nest, ev_isE, ev_sl, ev_part0, ev_part1, ev_partR, ev_sl_t, ev_sl_l, ev_cast0, ev_cast1, ev_cast2, ev_cast3, ev_cast4, ev_cast5, ev_cast6, ev_cast7, ev_cast8, ev_cast9, ev_cast10, ev_cast11, ev_cast12, ev_cast13, ev_cast14, ev_cast15, ev_cast16, ev_cast17, ev_cast18, ev_cast19, ev_cast20, ev_isi_tt, ev_isi_ti, ev_is_t, ev_isnot_t, ev_isnot_n, ev_zip_tt, ev_zip_ll, op_eqs, op_nes, ev_aug, ev_augR, ev_augS, ev_try, ev_tryT_ex, ev_tryT_nx, ev_tryT_rt, ev_tryT_bk, ev_tryT_ct, ev_tryU, ev_tryU0, ev_cold_nx, ev_cold_rt, back_eq, wipe_eq, unwipe_eq, List.getElem?_cons_zero, List.getElem?_cons_succ, List.set_cons_zero, List.set_cons_succ, Bool.and_true, Bool.true_and, Bool.or_true, Bool.true_or, Bool.or_false, Bool.false_or, Bool.and_false, Bool.false_and, Bool.not_true, Bool.not_false, List.length_cons, List.length_nil, List.map_cons, List.map_nil, List.replicate_succ, List.replicate_zero, List.cons_append, List.nil_append, if_true, if_false, Nat.reduceAdd, Nat.reduceEqDiff, beq_self_eq_true, reduceIte, Nat.zero_add, eq_self, SZ, List.contains_cons, List.contains_nil, Nat.reduceBEq, Nat.reduceLT, Nat.reduceLeDiff, Int.reduceToNat, Int.reducePow, Int.reduceAdd, Int.reduceSub, Int.reduceMul, Int.reduceNeg, Int.reduceLT, Int.reduceLE, Int.reduceEq, Int.reduceDiv, Int.reduceMod, Option.map_some, Option.map_none, cut1, rg1_eq, rb1_ok, rg2_eq, rb2_ok, bk_d0, bk_d1, bk_d2, bk_d3, bk_d4, bk_i0, bk_i1, bk_i2, bk_i3, e1, e2]
  · rw [decide_eq_false h] at e2
    have e3 : decide (1 ≤ p ∧ p ≤ n) = false := decide_eq_false (by omega)
    rw [e3]
    simp (maxSteps := 20000000) (disch := (first | assumption | omega | (simp only [List.length_cons, List.length_nil, List.length_append, List.length_map, SZ]; done) | (simp only [List.length_cons, List.length_nil, List.length_append, List.length_map, SZ]; omega))) only [ev_seq, ev_seq_nx, ev_seq_rt, ev_seq_ex, ev_seq_bk, ev_seq_ct, ev_nil, ev_pass, ev_break, ev_cont, ev_retN, ev_ret, ev_drop, ev_set, ev_raise, ev_if, ev_par, ev_par3, ev_toS_ok, ev_toS_ex, ev_toS_no, ev_bind_ok, ev_bind_ex, ev_bind_no, ev_it, ev_if_f, ev_C, ev_var, ev_var1, ev_var2, ev_mov, ev_mov1, ev_mov2, ev_okV_e, ev_okV_v, ev_okO, ev_run_e, ev_run_v, ev_get_d, ev_get_i, ev_getO, ev_d_fz, ev_d_ow, ev_d_io, ev_op2, ev_get2, ev_g2, ev_op1, ev_get1, ev_g1, ev_mk, ev_mk0, ev_opN, ev_all_nil, ev_all_cons, ev_runO_nil, ev_runO_cons, ev_getN, ev_gN, ev_getL_nil, ev_getL_cons, ev_gL, ev_runE_nil, ev_runE_cons, ev_tup, ev_lst, ev_mIf, ev_and, ev_or, ev_not, ev_blR, ev_toT, ev_blT, ev_okI, ev_okB, ev_tru, ev_mkT, ev_obind, ev_tru_bl, ev_andT, ev_orT, ev_notT, ev_chain, ev_chR, ev_fn, ev_of_nx, ev_of_rt, ev_of_ex, ev_outs0, ev_outs1, ev_ioE_n, ev_ioE_f, ev_ioE_o, ev_ioE_i, ev_call, ev_callK, ev_callR, ev_args_nil, ev_args_cons, ev_argC, ev_arg_d, ev_arg_i, ev_argO_f, ev_argO_o, ev_argO_i, ev_apart_nil, ev_apart_d, ev_apart_i, ev_any_nil, ev_any_cons, ev_at_d, ev_at_i, ev_ofF_ret, ev_ofF_exc, ev_back0, ev_back1, ev_b1n, ev_b1f, ev_b1o, ev_b1i, ev_bkO0, ev_bkO1, ev_bkI0, ev_bkI1, ev_look0, ev_look_d, ev_look_i, ev_join, ev_head, ev_tail, ev_call1, ev_go_o, ev_go_f, ev_of1_r, ev_of1_e, op_add_i, op_sub_i, op_iadd_i, op_mul_i, op_fdiv_i, op_mod_i, op_pow8_i, op_powL_i, op_lt_i, op_le_i, op_gt_i, op_ge_i, op_neg_i, op_eq_i, op_ne_i, op_eq_s, op_ne_s, op_is_n, op_len_l, op_len_t, op_len_s, op_abs_i, op_max_i, op_min_i, op_int_i, op_int_b, op_divmod_i, op_tup_l, op_tup_t, op_list_l, op_list_t, op_rev_l, op_rev_t, op_own_o, op_own_i, op_setix, op_setR, op_stN, op_as_o, op_as_i, op_isS, op_mut, op_mutR, op_mutS, op_asg_seq, op_asg_seql, op_asg_cons, op_asg_nil, op_asg_nm, op_asg, op_asgR, ixN_1_0, ixN_1_m1, ixN_2_0, ixN_2_1, ixN_2_m1, ixN_3_0, ixN_3_1, ixN_3_2, ixN_3_m1, ixN_4_0, ixN_4_1, ixN_4_2, ixN_4_3, ixN_4_m1, ixN_5_0, ixN_5_1, ixN_5_2, ixN_5_3, ixN_5_4, ixN_5_m1, ixN_6_0, ixN_6_1, ixN_6_2, ixN_6_3, ixN_6_4, ixN_6_5, ixN_6_m1, ixN_7_0, ixN_7_1, ixN_7_2, ixN_7_3, ixN_7_4, ixN_7_5, ixN_7_6, ixN_7_m1, ixN_8_0, ixN_8_1, ixN_8_2, ixN_8_3, ixN_8_4, ixN_8_5, ixN_8_6, ixN_8_7, ixN_8_m1, ixN_9_0, ixN_9_1, ixN_9_2, ixN_9_3, ixN_9_4, ixN_9_5, ixN_9_6, ixN_9_7, ixN_9_8, ixN_9_m1, ixN_10_0, ixN_10_1, ixN_10_2, ixN_10_3, ixN_10_4, ixN_10_5, ixN_10_6, ixN_10_7, ixN_10_8, ixN_10_9, ixN_10_m1, ixN_11_0, ixN_11_1, ixN_11_2, ixN_11_3, ixN_11_4, ixN_11_5, ixN_11_6, ixN_11_7, ixN_11_8, ixN_11_9, ixN_11_10, ixN_11_m1, ixN_12_0, ixN_12_1, ixN_12_2, ixN_12_3, ixN_12_4, ixN_12_5, ixN_12_6, ixN_12_7, ixN_12_8, ixN_12_9, ixN_12_10, ixN_12_11, ixN_12_m1, ixN_13_0, ixN_13_1, ixN_13_2, ixN_13_3, ixN_13_4, ixN_13_5, ixN_13_6, ixN_13_7, ixN_13_8, ixN_13_9, ixN_13_10, ixN_13_11, ixN_13_12, ixN_13_m1, ixN_14_0, ixN_14_1, ixN_14_2, ixN_14_3, ixN_14_4, ixN_14_5, ixN_14_6, ixN_14_7, ixN_14_8, ixN_14_9, ixN_14_10, ixN_14_11, ixN_14_12, ixN_14_13, ixN_14_m1, ixN_15_0, ixN_15_1, ixN_15_2, ixN_15_3, ixN_15_4, ixN_15_5, ixN_15_6, ixN_15_7, ixN_15_8, ixN_15_9, ixN_15_10, ixN_15_11, ixN_15_12, ixN_15_13, ixN_15_14, ixN_15_m1, ix_l0, ix_t0, ix_l1, ix_t1, ix_l2, ix_t2, ix_l3, ix_t3, ix_l4, ix_t4, ix_l5, ix_t5, ix_l6, ix_t6, ix_l7, ix_t7, ix_l8, ix_t8, ix_l9, ix_t9, ix_l10, ix_t10, ix_l11, ix_t11, ix_l12, ix_t12, ix_l13, ix_t13, ev_for, ev_iSeq, ev_mkI, ev_iter_l, ev_iter_t, ev_iter_s, ev_turn_nx, ev_turn_ct, ev_turn_bk, ev_turn_rt, ev_turn_ex, ev_loop0, ev_forR, ev_enum, ev_enumI, ev_zip, ev_wipe0, ev_wipe1, ev_un0, ev_un1, ev_unO_f, ev_unO_n, ev_comp, ev_lc0, ev_lcR0, ev_turnC, ev_tcR, ev_yes, ev_tryAs, ev_tryS_ex, ev_tryS_nx, ev_tryS_rt, ev_tryR, ev_gone_nx, ev_gone_rt, ev_nest, ev_isE, ev_sl, ev_part0, ev_part1, ev_partR, ev_sl_t, ev_sl_l, ev_cast0, ev_cast1, ev_cast2, ev_cast3, ev_cast4, ev_cast5, ev_cast6, ev_cast7, ev_cast8, ev_cast9, ev_cast10, ev_cast11, ev_cast12, ev_cast13, ev_cast14, ev_cast15, ev_cast16, ev_cast17, ev_cast18, ev_cast19, ev_cast20, ev_isi_tt, ev_isi_ti, ev_is_t, ev_isnot_t, ev_isnot_n, ev_zip_tt, ev_zip_ll, op_eqs, op_nes, ev_aug, ev_augR, ev_augS, ev_try, ev_tryT_ex, ev_tryT_nx, ev_tryT_rt, ev_tryT_bk, ev_tryT_ct, ev_tryU, ev_tryU0, ev_cold_nx, ev_cold_rt, back_eq, wipe_eq, unwipe_eq, List.getElem?_cons_zero, List.getElem?_cons_succ, List.set_cons_zero, List.set_cons_succ, Bool.and_true, Bool.true_and, Bool.or_true, Bool.true_or, Bool.or_false, Bool.false_or, Bool.and_false, Bool.false_and, Bool.not_true, Bool.not_false, List.length_cons, List.length_nil, List.map_cons, List.map_nil, List.replicate_succ, List.replicate_zero, List.cons_append, List.nil_append, if_true, if_false, Nat.reduceAdd, Nat.reduceEqDiff, beq_self_eq_true, reduceIte, Nat.zero_add, eq_self, SZ, List.contains_cons, List.contains_nil, Nat.reduceBEq, Nat.reduceLT, Nat.reduceLeDiff, Int.reduceToNat, Int.reducePow, Int.reduceAdd, Int.reduceSub, Int.reduceMul, Int.reduceNeg, Int.reduceLT, Int.reduceLE, Int.reduceEq, Int.reduceDiv, Int.reduceMod, Option.map_some, Option.map_none, cut1, rg1_eq, rb1_ok, rg2_eq, rb2_ok, bk_d0, bk_d1, bk_d2, bk_d3, bk_d4, bk_i0, bk_i1, bk_i2, bk_i3, e1, e2]
theorem place_in {l : Runs} (hl : l.length < 900) {p : Int} (h : 1 ≤ p) (h2 : p ≤ amt l) : Fcheck_place [.fz (.tup (l.map runD)), .fz (.int p)] = .ret (.fz .non) [none, none] := by
  have e1 := is_place_ok hl p
  rw [decide_eq_true ⟨h, h2⟩] at e1
  unfold Fcheck_place Bcheck_place
  revert e1
  generalize Fis_place = f1
  generalize D.tup (l.map runD) = ld
  intro e1
  simp (maxSteps := 20000000) (disch := (first | assumption | omega | (simp only [List.length_cons, List.length_nil, List.length_append, List.length_map, SZ]; done) | (simp only [List.length_cons, List.length_nil, List.length_append, List.length_map, SZ]; omega))) only [ev_seq, ev_seq_nx, ev_seq_rt, ev_seq_ex, ev_seq_bk, ev_seq_ct, ev_nil, ev_pass, ev_break, ev_cont, ev_retN, ev_ret, ev_drop, ev_set, ev_raise, ev_if, ev_par, ev_par3, ev_toS_ok, ev_toS_ex, ev_toS_no, ev_bind_ok, ev_bind_ex, ev_bind_no, ev_it, ev_if_f, ev_C, ev_var, ev_var1, ev_var2, ev_mov, ev_mov1, ev_mov2, ev_okV_e, ev_okV_v, ev_okO, ev_run_e, ev_run_v, ev_get_d, ev_get_i, ev_getO, ev_d_fz, ev_d_ow, ev_d_io, ev_op2, ev_get2, ev_g2, ev_op1, ev_get1, ev_g1, ev_mk, ev_mk0, ev_opN, ev_all_nil, ev_all_cons, ev_runO_nil, ev_runO_cons, ev_getN, ev_gN, ev_getL_nil, ev_getL_cons, ev_gL, ev_runE_nil, ev_runE_cons, ev_tup, ev_lst, ev_mIf, ev_and, ev_or, ev_not, ev_blR, ev_toT, ev_blT, ev_okI, ev_okB, ev_tru, ev_mkT, ev_obind, ev_tru_bl, ev_andT, ev_orT, ev_notT, ev_chain, ev_chR, ev_fn, ev_of_nx, ev_of_rt, ev_of_ex, ev_outs0, ev_outs1, ev_ioE_n, ev_ioE_f, ev_ioE_o, ev_ioE_i, ev_call, ev_callK, ev_callR, ev_args_nil, ev_args_cons, ev_argC, ev_arg_d, ev_arg_i, ev_argO_f, ev_argO_o, ev_argO_i, ev_apart_nil, ev_apart_d, ev_apart_i, ev_any_nil, ev_any_cons, ev_at_d, ev_at_i, ev_ofF_ret, ev_ofF_exc, ev_back0, ev_back1, ev_b1n, ev_b1f, ev_b1o, ev_b1i, ev_bkO0, ev_bkO1, ev_bkI0, ev_bkI1, ev_look0, ev_look_d, ev_look_i, ev_join, ev_head, ev_tail, ev_call1, ev_go_o, ev_go_f, ev_of1_r, ev_of1_e, op_add_i, op_sub_i, op_iadd_i, op_mul_i, op_fdiv_i, op_mod_i, op_pow8_i, op_powL_i, op_lt_i, op_le_i, op_gt_i, op_ge_i, op_neg_i, op_eq_i, op_ne_i, op_eq_s, op_ne_s, op_is_n, op_len_l, op_len_t, op_len_s, op_abs_i, op_max_i, op_min_i, op_int_i, op_int_b, op_divmod_i, op_tup_l, op_tup_t, op_list_l, op_list_t, op_rev_l, op_rev_t, op_own_o, op_own_i, op_setix, op_setR, op_stN, op_as_o, op_as_i, op_isS, op_mut, op_mutR, op_mutS, op_asg_seq, op_asg_seql, op_asg_cons, op_asg_nil, op_asg_nm, op_asg, op_asgR, ixN_1_0, ixN_1_m1, ixN_2_0, ixN_2_1, ixN_2_m1, ixN_3_0, ixN_3_1, ixN_3_2, ixN_3_m1, ixN_4_0, ixN_4_1, ixN_4_2, ixN_4_3, ixN_4_m1, ixN_5_0, ixN_5_1, ixN_5_2, ixN_5_3, ixN_5_4, ixN_5_m1, ixN_6_0, ixN_6_1, ixN_6_2, ixN_6_3, ixN_6_4, ixN_6_5, ixN_6_m1, ixN_7_0, ixN_7_1, ixN_7_2, ixN_7_3, ixN_7_4, ixN_7_5, ixN_7_6, ixN_7_m1, ixN_8_0, ixN_8_1, ixN_8_2, ixN_8_3, ixN_8_4, ixN_8_5, ixN_8_6, ixN_8_7, ixN_8_m1, ixN_9_0, ixN_9_1, ixN_9_2, ixN_9_3, ixN_9_4, ixN_9_5, ixN_9_6, ixN_9_7, ixN_9_8, ixN_9_m1, ixN_10_0, ixN_10_1, ixN_10_2, ixN_10_3, ixN_10_4, ixN_10_5, ixN_10_6, ixN_10_7, ixN_10_8, ixN_10_9, ixN_10_m1, ixN_11_0, ixN_11_1, ixN_11_2, ixN_11_3, ixN_11_4, ixN_11_5, ixN_11_6, ixN_11_7, ixN_11_8, ixN_11_9, ixN_11_10, ixN_11_m1, ixN_12_0, ixN_12_1, ixN_12_2, ixN_12_3, ixN_12_4, ixN_12_5, ixN_12_6, ixN_12_7, ixN_12_8, ixN_12_9, ixN_12_10, ixN_12_11, ixN_12_m1, ixN_13_0, ixN_13_1, ixN_13_2, ixN_13_3, ixN_13_4, ixN_13_5, ixN_13_6, ixN_13_7, ixN_13_8, ixN_13_9, ixN_13_10, ixN_13_11, ixN_13_12, ixN_13_m1, ixN_14_0, ixN_14_1, ixN_14_2, ixN_14_3, ixN_14_4, ixN_14_5, ixN_14_6, ixN_14_7, ixN_14_8, ixN_14_9, ixN_14_10, ixN_14_11, ixN_14_12, ixN_14_13, ixN_14_m1, ixN_15_0, ixN_15_1, ixN_15_2, ixN_15_3, ixN_15_4, ixN_15_5, ixN_15_6, ixN_15_7, ixN_15_8, ixN_15_9, ixN_15_10, ixN_15_11, ixN_15_12, ixN_15_13, ixN_15_14, ixN_15_m1, ix_l0, ix_t0, ix_l1, ix_t1, ix_l2, ix_t2, ix_l3, ix_t3, ix_l4, ix_t4, ix_l5, ix_t5, ix_l6, ix_t6, ix_l7, ix_t7, ix_l8, ix_t8, ix_l9, ix_t9, ix_l10, ix_t10, ix_l11, ix_t11, ix_l12, ix_t12, ix_l13, ix_t13, ev_for, ev_iSeq, ev_mkI, ev_iter_l, ev_iter_t, ev_iter_s, ev_turn_nx, ev_turn_ct, ev_turn_bk, ev_turn_rt, ev_turn_ex, ev_loop0, ev_forR, ev_enum, ev_enumI, ev_zip, ev_wipe0, ev_wipe1, ev_un0, ev_un1, ev_unO_f, ev_unO_n, ev_comp, ev_lc0, ev_lcR0, ev_turnC, ev_tcR, ev_yes, ev_tryAs, ev_tryS_ex, ev_tryS_nx, ev_tryS_rt, ev_tryR, ev_gone_nx, ev_gone_rt, ev_nest, ev_isE, ev_sl, ev_part0, ev_part1, ev_partR, ev_sl_t, ev_sl_l, ev_cast0, ev_cast1, ev_cast2, ev_cast3, ev_cast4, ev_cast5, ev_cast6, ev_cast7, ev_cast8, ev_cast9, ev_cast10, ev_cast11, ev_cast12, ev_cast13, ev_cast14, ev_cast15, ev_cast16, ev_cast17, ev_cast18, ev_cast19, ev_cast20, ev_isi_tt, ev_isi_ti, ev_is_t, ev_isnot_t, ev_isnot_n, ev_zip_tt, ev_zip_ll, op_eqs, op_nes, ev_aug, ev_augR, ev_augS, ev_try, ev_tryT_ex, ev_tryT_nx, ev_tryT_rt, ev_tryT_bk, ev_tryT_ct, ev_tryU, ev_tryU0, ev_cold_nx, ev_cold_rt, back_eq, wipe_eq, unwipe_eq, List.getElem?_cons_zero, List.getElem?_cons_succ, List.set_cons_zero, List.set_cons_succ, Bool.and_true, Bool.true_and, Bool.or_true, Bool.true_or, Bool.or_false, Bool.false_or, Bool.and_false, Bool.false_and, Bool.not_true, Bool.not_false, List.length_cons, List.length_nil, List.map_cons, List.map_nil, List.replicate_succ, List.replicate_zero, List.cons_append, List.nil_append, if_true, if_false, Nat.reduceAdd, Nat.reduceEqDiff, beq_self_eq_true, reduceIte, Nat.zero_add, eq_self, SZ, List.contains_cons, List.contains_nil, Nat.reduceBEq, Nat.reduceLT, Nat.reduceLeDiff, Int.reduceToNat, Int.reducePow, Int.reduceAdd, Int.reduceSub, Int.reduceMul, Int.reduceNeg, Int.reduceLT, Int.reduceLE, Int.reduceEq, Int.reduceDiv, Int.reduceMod, Option.map_some, Option.map_none, cut1, rg1_eq, rb1_ok, rg2_eq, rb2_ok, bk_d0, bk_d1, bk_d2, bk_d3, bk_d4, bk_i0, bk_i1, bk_i2, bk_i3, e1]
theorem place_out {l : Runs} (hl : l.length < 900) {p : Int} (h : ¬ (1 ≤ p ∧ p ≤ amt l)) : Fcheck_place [.fz (.tup (l.map runD)), .fz (.int p)] = .exc "InvalidPlace" [none, none] := by
  have e1 := is_place_ok hl p
  rw [decide_eq_false h] at e1
  unfold Fcheck_place Bcheck_place
  revert e1
  generalize Fis_place = f1
  generalize D.tup (l.map runD) = ld
  intro e1
  simp (maxSteps := 20000000) (disch := (first | assumption | omega | (simp only [List.length_cons, List.length_nil, List.length_append, List.length_map, SZ]; done) | (simp only [List.length_cons, List.length_nil, List.length_append, List.length_map, SZ]; omega))) only [ev_seq, ev_seq_nx, ev_seq_rt, ev_seq_ex, ev_seq_bk, ev_seq_ct, ev_nil, ev_pass, ev_break, ev_cont, ev_retN, ev_ret, ev_drop, ev_set, ev_raise, ev_if, ev_par, ev_par3, ev_toS_ok, ev_toS_ex, ev_toS_no, ev_bind_ok, ev_bind_ex, ev_bind_no, ev_it, ev_if_f, ev_C, ev_var, ev_var1, ev_var2, ev_mov, ev_mov1, ev_mov2, ev_okV_e, ev_okV_v, ev_okO, ev_run_e, ev_run_v, ev_get_d, ev_get_i, ev_getO, ev_d_fz, ev_d_ow, ev_d_io, ev_op2, ev_get2, ev_g2, ev_op1, ev_get1, ev_g1, ev_mk, ev_mk0, ev_opN, ev_all_nil, ev_all_cons, ev_runO_nil, ev_runO_cons, ev_getN, ev_gN, ev_getL_nil, ev_getL_cons, ev_gL, ev_runE_nil, ev_runE_cons, ev_tup, ev_lst, ev_mIf, ev_and, ev_or, ev_not, ev_blR, ev_toT, ev_blT, ev_okI, ev_okB, ev_tru, ev_mkT, ev_obind, ev_tru_bl, ev_andT, ev_orT, ev_notT, ev_chain, ev_chR, ev_fn, ev_of_nx, ev_of_rt, ev_of_ex, ev_outs0, ev_outs1, ev_ioE_n, ev_ioE_f, ev_ioE_o, ev_ioE_i, ev_call, ev_callK, ev_callR, ev_args_nil, ev_args_cons, ev_argC, ev_arg_d, ev_arg_i, ev_argO_f, ev_argO_o, ev_argO_i, ev_apart_nil, ev_apart_d, ev_apart_i, ev_any_nil, ev_any_cons, ev_at_d, ev_at_i, ev_ofF_ret, ev_ofF_exc, ev_back0, ev_back1, ev_b1n, ev_b1f, ev_b1o, ev_b1i, ev_bkO0, ev_bkO1, ev_bkI0, ev_bkI1, ev_look0, ev_look_d, ev_look_i, ev_join, ev_head, ev_tail, ev_call1, ev_go_o, ev_go_f, ev_of1_r, ev_of1_e, op_add_i, op_sub_i, op_iadd_i, op_mul_i, op_fdiv_i, op_mod_i, op_pow8_i, op_powL_i, op_lt_i, op_le_i, op_gt_i, op_ge_i, op_neg_i, op_eq_i, op_ne_i, op_eq_s, op_ne_s, op_is_n, op_len_l, op_len_t, op_len_s, op_abs_i, op_max_i, op_min_i, op_int_i, op_int_b, op_divmod_i, op_tup_l, op_tup_t, op_list_l, op_list_t, op_rev_l, op_rev_t, op_own_o, op_own_i, op_setix, op_setR, op_stN, op_as_o, op_as_i, op_isS, op_mut, op_mutR, op_mutS, op_asg_seq, op_asg_seql, op_asg_cons, op_asg_nil, op_asg_nm, op_asg, op_asgR, ixN_1_0, ixN_1_m1, ixN_2_0, ixN_2_1, ixN_2_m1, ixN_3_0, ixN_3_1, ixN_3_2, ixN_3_m1, ixN_4_0, ixN_4_1, ixN_4_2, ixN_4_3, ixN_4_m1, ixN_5_0, ixN_5_1, ixN_5_2, ixN_5_3, ixN_5_4, ixN_5_m1, ixN_6_0, ixN_6_1, ixN_6_2, ixN_6_3, ixN_6_4, ixN_6_5, ixN_6_m1, ixN_7_0, ixN_7_1, ixN_7_2, ixN_7_3, ixN_7_4, ixN_7_5, ixN_7_6, ixN_7_m1, ixN_8_0, ixN_8_1, ixN_8_2, ixN_8_3, ixN_8_4, ixN_8_5, ixN_8_6, ixN_8_7, ixN_8_m1, ixN_9_0, ixN_9_1, ixN_9_2, ixN_9_3, ixN_9_4, ixN_9_5, ixN_9_6, ixN_9_7, ixN_9_8, ixN_9_m1, ixN_10_0, ixN_10_1, ixN_10_2, ixN_10_3, ixN_10_4, ixN_10_5, ixN_10_6, ixN_10_7, ixN_10_8, ixN_10_9, ixN_10_m1, ixN_11_0, ixN_11_1, ixN_11_2, ixN_11_3, ixN_11_4, ixN_11_5, ixN_11_6, ixN_11_7, ixN_11_8, ixN_11_9, ixN_11_10, ixN_11_m1, ixN_12_0, ixN_12_1, ixN_12_2, ixN_12_3, ixN_12_4, ixN_12_5, ixN_12_6, ixN_12_7, ixN_12_8, ixN_12_9, ixN_12_10, ixN_12_11, ixN_12_m1, ixN_13_0, ixN_13_1, ixN_13_2, ixN_13_3, ixN_13_4, ixN_13_5, ixN_13_6, ixN_13_7, ixN_13_8, ixN_13_9, ixN_13_10, ixN_13_11, ixN_13_12, ixN_13_m1, ixN_14_0, ixN_14_1, ixN_14_2, ixN_14_3, ixN_14_4, ixN_14_5, ixN_14_6, ixN_14_7, ixN_14_8, ixN_14_9, ixN_14_10, ixN_14_11, ixN_14_12, ixN_14_13, ixN_14_m1, ixN_15_0, ixN_15_1, ixN_15_2, ixN_15_3, ixN_15_4, ixN_15_5, ixN_15_6, ixN_15_7, ixN_15_8, ixN_15_9, ixN_15_10, ixN_15_11, ixN_15_12, ixN_15_13, ixN_15_14, ixN_15_m1, ix_l0, ix_t0, ix_l1, ix_t1, ix_l2, ix_t2, ix_l3, ix_t3, ix_l4, ix_t4, ix_l5, ix_t5, ix_l6, ix_t6, ix_l7, ix_t7, ix_l8, ix_t8, ix_l9, ix_t9, ix_l10, ix_t10, ix_l11, ix_t11, ix_l12, ix_t12, ix_l13, ix_t13, ev_for, ev_iSeq, ev_mkI, ev_iter_l, ev_iter_t, ev_iter_s, ev_turn_nx, ev_turn_ct, ev_turn_bk, ev_turn_rt, ev_turn_ex, ev_loop0, ev_forR, ev_enum, ev_enumI, ev_zip, ev_wipe0, ev_wipe1, ev_un0, ev_un1, ev_unO_f, ev_unO_n, ev_comp, ev_lc0, ev_lcR0, ev_turnC, ev_tcR, ev_yes, ev_tryAs, ev_tryS_ex, ev_tryS_nx, ev_tryS_rt, ev_tryR, ev_gone_nx, ev_gone_rt, ev_nest, ev_isE, ev_sl, ev_part0, ev_part1, ev_partR, ev_sl_t, ev_sl_l, ev_cast0, ev_cast1, ev_cast2, ev_cast3, ev_cast4, ev_cast5, ev_cast6, ev_cast7, ev_cast8, ev_cast9, ev_cast10, ev_cast11, ev_cast12, ev_cast13, ev_cast14, ev_cast15, ev_cast16, ev_cast17, ev_cast18, ev_cast19, ev_cast20, ev_isi_tt, ev_isi_ti, ev_is_t, ev_isnot_t, ev_isnot_n, ev_zip_tt, ev_zip_ll, op_eqs, op_nes, ev_aug, ev_augR, ev_augS, ev_try, ev_tryT_ex, ev_tryT_nx, ev_tryT_rt, ev_tryT_bk, ev_tryT_ct, ev_tryU, ev_tryU0, ev_cold_nx, ev_cold_rt, back_eq, wipe_eq, unwipe_eq, List.getElem?_cons_zero, List.getElem?_cons_succ, List.set_cons_zero, List.set_cons_succ, Bool.and_true, Bool.true_and, Bool.or_true, Bool.true_or, Bool.or_false, Bool.false_or, Bool.and_false, Bool.false_and, Bool.not_true, Bool.not_false, List.length_cons, List.length_nil, List.map_cons, List.map_nil, List.replicate_succ, List.replicate_zero, List.cons_append, List.nil_append, if_true, if_false, Nat.reduceAdd, Nat.reduceEqDiff, beq_self_eq_true, reduceIte, Nat.zero_add, eq_self, SZ, List.contains_cons, List.contains_nil, Nat.reduceBEq, Nat.reduceLT, Nat.reduceLeDiff, Int.reduceToNat, Int.reducePow, Int.reduceAdd, Int.reduceSub, Int.reduceMul, Int.reduceNeg, Int.reduceLT, Int.reduceLE, Int.reduceEq, Int.reduceDiv, Int.reduceMod, Option.map_some, Option.map_none, cut1, rg1_eq, rb1_ok, rg2_eq, rb2_ok, bk_d0, bk_d1, bk_d2, bk_d3, bk_d4, bk_i0, bk_i1, bk_i2, bk_i3, e1]
end G

namespace G
open PySem PySem.Spec PyProof.Rows L2 Mi
/-! ### side_at and what the law tells of it -/
theorem side_loop (p : Int) (x0 : Option Sl) : ∀ (l : Runs) (o : Int) (q : Bool) (y3 y4 : Option Sl), sideAt p o l = some q →
    ∃ z2 z3 z4, loopF (gSeq 2 (gsCons (gNm 3) (gsCons (gNm 4) gsNil))) Lside_at_0 (l.map runD) [x0, some (.fz (.int p)), some (.fz (.int o)), y3, y4] = .rt (.fz (.str (sideS q))) [x0, some (.fz (.int p)), z2, z3, z4]
  | [], o, q, y3, y4, h => by simp [sideAt] at h
  | (r, c) :: l, o, q, y3, y4, h => by
    have e0 : runD (r, c) = .tup [.str (sideS r), .int c] := rfl
    unfold sideAt at h
    rw [List.map_cons, loop_cons, e0]
    by_cases hp : p ≤ o + c
    · rw [if_pos hp] at h
      obtain rfl := Option.some.inj h
      refine ⟨some (.fz (.int (o + c))), some (.fz (.str (sideS r))), some (.fz (.int c)), ?_⟩
      have e1 : decide (p ≤ o + c) = true := decide_eq_true hp
      generalize loopF (gSeq 2 (gsCons (gNm 3) (gsCons (gNm 4) gsNil))) Lside_at_0 (l.map runD) = kk
      unfold Lside_at_0
      simp (maxSteps := 20000000) (disch := (first | assumption | omega | (simp only [List.length_cons, List.length_nil, List.length_append, List.length_map, SZ]; done) | (simp only [List.length_cons, List.length_nil, List.length_append, List.length_map, SZ]; omega))) only [ev_seq, ev_seq_nx, ev_seq_rt, ev_seq_ex, ev_seq_bk, ev_seq_ct, ev_nil, ev_pass, ev_break, ev_cont, ev_retN, ev_ret, ev_drop, ev_set, ev_raise, ev_if, ev_par, ev_par3, ev_toS_ok, ev_toS_ex, ev_toS_no, ev_bind_ok, ev_bind_ex, ev_bind_no, ev_it, ev_if_f, ev_C, ev_var, ev_var1, ev_var2, ev_mov, ev_mov1, ev_mov2, ev_okV_e, ev_okV_v, ev_okO, ev_run_e, ev_run_v, ev_get_d, ev_get_i, ev_getO, ev_d_fz, ev_d_ow, ev_d_io, ev_op2, ev_get2, ev_g2, ev_op1, ev_get1, ev_g1, ev_mk, ev_mk0, ev_opN, ev_all_nil, ev_all_cons, ev_runO_nil, ev_runO_cons, ev_getN, ev_gN, ev_getL_nil, ev_getL_cons, ev_gL, ev_runE_nil, ev_runE_cons, ev_tup, ev_lst, ev_mIf, ev_and, ev_or, ev_not, ev_blR, ev_toT, ev_blT, ev_okI, ev_okB, ev_tru, ev_mkT, ev_obind, ev_tru_bl, ev_andT, ev_orT, ev_notT, ev_chain, ev_chR, ev_fn, ev_of_nx, ev_of_rt, ev_of_ex, ev_outs0, ev_outs1, ev_ioE_n, ev_ioE_f, ev_ioE_o, ev_ioE_i, ev_call, ev_callK, ev_callR, ev_args_nil, ev_args_cons, ev_argC, ev_arg_d, ev_arg_i, ev_argO_f, ev_argO_o, ev_argO_i, ev_apart_nil, ev_apart_d, ev_apart_i, ev_any_nil, ev_any_cons, ev_at_d, ev_at_i, ev_ofF_ret, ev_ofF_exc, ev_back0, ev_back1, ev_b1n, ev_b1f, ev_b1o, ev_b1i, ev_bkO0, ev_bkO1, ev_bkI0, ev_bkI1, ev_look0, ev_look_d, ev_look_i, ev_join, ev_head, ev_tail, ev_call1, ev_go_o, ev_go_f, ev_of1_r, ev_of1_e, op_add_i, op_sub_i, op_iadd_i, op_mul_i, op_fdiv_i, op_mod_i, op_pow8_i, op_powL_i, op_lt_i, op_le_i, op_gt_i, op_ge_i, op_neg_i, op_eq_i, op_ne_i, op_eq_s, op_ne_s, op_is_n, op_len_l, op_len_t, op_len_s, op_abs_i, op_max_i, op_min_i, op_int_i, op_int_b, op_divmod_i, op_tup_l, op_tup_t, op_list_l, op_list_t, op_rev_l, op_rev_t, op_own_o, op_own_i, op_setix, op_setR, op_stN, op_as_o, op_as_i, op_isS, op_mut, op_mutR, op_mutS, op_asg_seq, op_asg_seql, op_asg_cons, op_asg_nil, op_asg_nm, op_asg, op_asgR, ixN_1_0, ixN_1_m1, ixN_2_0, ixN_2_1, ixN_2_m1, ixN_3_0, ixN_3_1, ixN_3_2, ixN_3_m1, ixN_4_0, ixN_4_1, ixN_4_2, ixN_4_3, ixN_4_m1, ixN_5_0, ixN_5_1, ixN_5_2, ixN_5_3, ixN_5_4, ixN_5_m1, ixN_6_0, ixN_6_1, ixN_6_2, ixN_6_3, ixN_6_4, ixN_6_5, ixN_6_m1, ixN_7_0, ixN_7_1, ixN_7_2, ixN_7_3, ixN_7_4, ixN_7_5, ixN_7_6, ixN_7_m1, ixN_8_0, ixN_8_1, ixN_8_2, ixN_8_3, ixN_8_4, ixN_8_5, ixN_8_6, ixN_8_7, ixN_8_m1, ixN_9_0, ixN_9_1, ixN_9_2, ixN_9_3, ixN_9_4, ixN_9_5, ixN_9_6, ixN_9_7, ixN_9_8, ixN_9_m1, ixN_10_0, ixN_10_1, ixN_10_2, ixN_10_3, ixN_10_4, ixN_10_5, ixN_10_6, ixN_10_7, ixN_10_8, ixN_10_9, ixN_10_m1, ixN_11_0, ixN_11_1, ixN_11_2, ixN_11_3, ixN_11_4, ixN_11_5, ixN_11_6, ixN_11_7, ixN_11_8, ixN_11_9, ixN_11_10, ixN_11_m1, ixN_12_0, ixN_12_1, ixN_12_2, ixN_12_3, ixN_12_4, ixN_12_5, ixN_12_6, ixN_12_7, ixN_12_8, ixN_12_9, ixN_12_10, ixN_12_11, ixN_12_m1, ixN_13_0, ixN_13_1, ixN_13_2, ixN_13_3, ixN_13_4, ixN_13_5, ixN_13_6, ixN_13_7, ixN_13_8, ixN_13_9, ixN_13_10, ixN_13_11, ixN_13_12, ixN_13_m1, ixN_14_0, ixN_14_1, ixN_14_2, ixN_14_3, ixN_14_4, ixN_14_5, ixN_14_6, ixN_14_7, ixN_14_8, ixN_14_9, ixN_14_10, ixN_14_11, ixN_14_12, ixN_14_13, ixN_14_m1, ixN_15_0, ixN_15_1, ixN_15_2, ixN_15_3, ixN_15_4, ixN_15_5, ixN_15_6, ixN_15_7, ixN_15_8, ixN_15_9, ixN_15_10, ixN_15_11, ixN_15_12, ixN_15_13, ixN_15_14, ixN_15_m1, ix_l0, ix_t0, ix_l1, ix_t1, ix_l2, ix_t2, ix_l3, ix_t3, ix_l4, ix_t4, ix_l5, ix_t5, ix_l6, ix_t6, ix_l7, ix_t7, ix_l8, ix_t8, ix_l9, ix_t9, ix_l10, ix_t10, ix_l11, ix_t11, ix_l12, ix_t12, ix_l13, ix_t13, ev_for, ev_iSeq, ev_mkI, ev_iter_l, ev_iter_t, ev_iter_s, ev_turn_nx, ev_turn_ct, ev_turn_bk, ev_turn_rt, ev_turn_ex, ev_loop0, ev_forR, ev_enum, ev_enumI, ev_zip, ev_wipe0, ev_wipe1, ev_un0, ev_un1, ev_unO_f, ev_unO_n, ev_comp, ev_lc0, ev_lcR0, ev_turnC, ev_tcR, ev_yes, ev_tryAs, ev_tryS_ex, ev_tryS_nx, ev_tryS_rt, ev_tryR, ev_gone_nx, ev_gone_rt, ev_nest, ev_isE, ev_sl, ev_part0, ev_part1, ev_partR, ev_sl_t, ev_sl_l, ev_cast0, ev_cast1, ev_cast2, ev_cast3, ev_cast4, ev_cast5, ev_cast6, ev_cast7, ev_cast8, ev_cast9, ev_cast10, ev_cast11, ev_cast12, ev_cast13, ev_cast14, ev_cast15, ev_cast16, ev_cast17, ev_cast18, ev_cast19, ev_cast20, ev_isi_tt, ev_isi_ti, ev_is_t, ev_isnot_t, ev_isnot_n, ev_zip_tt, ev_zip_ll, op_eqs, op_nes, ev_aug, ev_augR, ev_augS, ev_try, ev_tryT_ex, ev_tryT_nx, ev_tryT_rt, ev_tryT_bk, ev_tryT_ct, ev_tryU, ev_tryU0, ev_cold_nx, ev_cold_rt, back_eq, wipe_eq, unwipe_eq, List.getElem?_cons_zero, List.getElem?_cons_succ, List.set_cons_zero, List.set_cons_succ, Bool.and_true, Bool.true_and, Bool.or_true, Bool.true_or, Bool.or_false, Bool.false_or, Bool.and_false, Bool.false_and, Bool.not_true, Bool.not_false, List.length_cons, List.length_nil, List.map_cons, List.map_nil, List.replicate_succ, List.replicate_zero, List.cons_append, List.nil_append, if_true, if_false, Nat.reduceAdd, Nat.reduceEqDiff, beq_self_eq_true, reduceIte, Nat.zero_add, eq_self, SZ, List.contains_cons, List.contains_nil, Nat.reduceBEq, Nat.reduceLT, Nat.reduceLeDiff, Int.reduceToNat, Int.reducePow, Int.reduceAdd, Int.reduceSub, Int.reduceMul, Int.reduceNeg, Int.reduceLT, Int.reduceLE, Int.reduceEq, Int.reduceDiv, Int.reduceMod, Option.map_some, Option.map_none, cut1, rg1_eq, rb1_ok, rg2_eq, rb2_ok, bk_d0, bk_d1, bk_d2, bk_d3, bk_d4, bk_i0, bk_i1, bk_i2, bk_i3, e1]
    · rw [if_neg hp] at h
      obtain ⟨z2, z3, z4, ih⟩ := side_loop p x0 l (o + c) q (some (.fz (.str (sideS r)))) (some (.fz (.int c))) h
      refine ⟨z2, z3, z4, ?_⟩
      have e1 : decide (p ≤ o + c) = false := decide_eq_false hp
      revert ih
      generalize loopF (gSeq 2 (gsCons (gNm 3) (gsCons (gNm 4) gsNil))) Lside_at_0 (l.map runD) = kk
      intro ih
      unfold Lside_at_0
      simp (maxSteps := 20000000) (disch := (first | assumption | omega | (simp only [List.length_cons, List.length_nil, List.length_append, List.length_map, SZ]; done) | (simp only [List.length_cons, List.length_nil, List.length_append, List.length_map, SZ]; omega))) only [ev_seq, ev_seq_nx, ev_seq_rt, ev_seq_ex, ev_seq_bk, ev_seq_ct, ev_nil, ev_pass, ev_break, ev_cont, ev_retN, ev_ret, ev_drop, ev_set, ev_raise, ev_if, ev_par, ev_par3, ev_toS_ok, ev_toS_ex, ev_toS_no, ev_bind_ok, ev_bind_ex, ev_bind_no, ev_it, ev_if_f, ev_C, ev_var, ev_var1, ev_var2, ev_mov, ev_mov1, ev_mov2, ev_okV_e, ev_okV_v, ev_okO, ev_run_e, ev_run_v, ev_get_d, ev_get_i, ev_getO, ev_d_fz, ev_d_ow, ev_d_io, ev_op2, ev_get2, ev_g2, ev_op1, ev_get1, ev_g1, ev_mk, ev_mk0, ev_opN, ev_all_nil, ev_all_cons, ev_runO_nil, ev_runO_cons, ev_getN, ev_gN, ev_getL_nil, ev_getL_cons, ev_gL, ev_runE_nil, ev_runE_cons, ev_tup, ev_lst, ev_mIf, ev_and, ev_or, ev_not, ev_blR, ev_toT, ev_blT, ev_okI, ev_okB, ev_tru, ev_mkT, ev_obind, ev_tru_bl, ev_andT, ev_orT, ev_notT, ev_chain, ev_chR, ev_fn, ev_of_nx, ev_of_rt, ev_of_ex, ev_outs0, ev_outs1, ev_ioE_n, ev_ioE_f, ev_ioE_o, ev_ioE_i, ev_call, ev_callK, ev_callR, ev_args_nil, ev_args_cons, ev_argC, ev_arg_d, ev_arg_i, ev_argO_f, ev_argO_o, ev_argO_i, ev_apart_nil, ev_apart_d, ev_apart_i, ev_any_nil, ev_any_cons, ev_at_d, ev_at_i, ev_ofF_ret, ev_ofF_exc, ev_back0, ev_back1, ev_b1n, ev_b1f, ev_b1o, ev_b1i, ev_bkO0, ev_bkO1, ev_bkI0, ev_bkI1, ev_look0, ev_look_d, ev_look_i, ev_join, ev_head, ev_tail, ev_call1, ev_go_o, ev_go_f, ev_of1_r, ev_of1_e, op_add_i, op_sub_i, op_iadd_i, op_mul_i, op_fdiv_i, op_mod_i, op_pow8_i, op_powL_i, op_lt_i, op_le_i, op_gt_i, op_ge_i, op_neg_i, op_eq_i, op_ne_i, op_eq_s, op_ne_s, op_is_n, op_len_l, op_len_t, op_len_s, op_abs_i, op_max_i, op_min_i, op_int_i, op_int_b, op_divmod_i, op_tup_l, op_tup_t, op_list_l, op_list_t, op_rev_l, op_rev_t, op_own_o, op_own_i, op_setix, op_setR, op_stN, op_as_o, op_as_i, op_isS, op_mut, op_mutR, op_mutS, op_asg_seq, op_asg_seql, op_asg_cons, op_asg_nil, op_asg_nm, op_asg, op_asgR, ixN_1_0, ixN_1_m1, ixN_2_0, ixN_2_1, ixN_2_m1, ixN_3_0, ixN_3_1, ixN_3_2, ixN_3_m1, ixN_4_0, ixN_4_1, ixN_4_2, ixN_4_3, ixN_4_m1, ixN_5_0, ixN_5_1, ixN_5_2, ixN_5_3, ixN_5_4, ixN_5_m1, ixN_6_0, ixN_6_1, ixN_6_2, ixN_6_3, ixN_6_4, ixN_6_5, ixN_6_m1, ixN_7_0, ixN_7_1, ixN_7_2, ixN_7_3, ixN_7_4, ixN_7_5, ixN_7_6, ixN_7_m1, ixN_8_0, ixN_8_1, ixN_8_2, ixN_8_3, ixN_8_4, ixN_8_5, ixN_8_6, ixN_8_7, ixN_8_m1, ixN_9_0, ixN_9_1, ixN_9_2, ixN_9_3, ixN_9_4, ixN_9_5, ixN_9_6, ixN_9_7, ixN_9_8, ixN_9_m1, ixN_10_0, ixN_10_1, ixN_10_2, ixN_10_3, ixN_10_4, ixN_10_5, ixN_10_6, ixN_10_7, ixN_10_8, ixN_10_9, ixN_10_m1, ixN_11_0, ixN_11_1, ixN_11_2, ixN_11_3, ixN_11_4, ixN_11_5, ixN_11_6, ixN_11_7, ixN_11_8, ixN_11_9, ixN_11_10, ixN_11_m1, ixN_12_0, ixN_12_1, ixN_12_2, ixN_12_3, ixN_12_4, ixN_12_5, ixN_12_6, ixN_12_7, ixN_12_8, ixN_12_9, ixN_12_10, ixN_12_11, ixN_12_m1, ixN_13_0, ixN_13_1, ixN_13_2, ixN_13_3, ixN_13_4, ixN_13_5, ixN_13_6, ixN_13_7, ixN_13_8, ixN_13_9, ixN_13_10, ixN_13_11, ixN_13_12, ixN_13_m1, ixN_14_0, ixN_14_1, ixN_14_2, ixN_14_3, ixN_14_4, ixN_14_5, ixN_14_6, ixN_14_7, ixN_14_8, ixN_14_9, ixN_14_10, ixN_14_11, ixN_14_12, ixN_14_13, ixN_14_m1, ixN_15_0, ixN_15_1, ixN_15_2, ixN_15_3, ixN_15_4, ixN_15_5, ixN_15_6, ixN_15_7, ixN_15_8, ixN_15_9, ixN_15_10, ixN_15_11, ixN_15_12, ixN_15_13, ixN_15_14, ixN_15_m1, ix_l0, ix_t0, ix_l1, ix_t1, ix_l2, ix_t2, ix_l3, ix_t3, ix_l4, ix_t4, ix_l5, ix_t5, ix_l6, ix_t6, ix_l7, ix_t7, ix_l8, ix_t8, ix_l9, ix_t9, ix_l10, ix_t10, ix_l11, ix_t11, ix_l12, ix_t12, ix_l13, ix_t13, ev_for, ev_iSeq, ev_mkI, ev_iter_l, ev_iter_t, ev_iter_s, ev_turn_nx, ev_turn_ct, ev_turn_bk, ev_turn_rt, ev_turn_ex, ev_loop0, ev_forR, ev_enum, ev_enumI, ev_zip, ev_wipe0, ev_wipe1, ev_un0, ev_un1, ev_unO_f, ev_unO_n, ev_comp, ev_lc0, ev_lcR0, ev_turnC, ev_tcR, ev_yes, ev_tryAs, ev_tryS_ex, ev_tryS_nx, ev_tryS_rt, ev_tryR, ev_gone_nx, ev_gone_rt, ev_nest, ev_isE, ev_sl, ev_part0, ev_part1, ev_partR, ev_sl_t, ev_sl_l, ev_cast0, ev_cast1, ev_cast2, ev_cast3, ev_cast4, ev_cast5, ev_cast6, ev_cast7, ev_cast8, ev_cast9, ev_cast10, ev_cast11, ev_cast12, ev_cast13, ev_cast14, ev_cast15, ev_cast16, ev_cast17, ev_cast18, ev_cast19, ev_cast20, ev_isi_tt, ev_isi_ti, ev_is_t, ev_isnot_t, ev_isnot_n, ev_zip_tt, ev_zip_ll, op_eqs, op_nes, ev_aug, ev_augR, ev_augS, ev_try, ev_tryT_ex, ev_tryT_nx, ev_tryT_rt, ev_tryT_bk, ev_tryT_ct, ev_tryU, ev_tryU0, ev_cold_nx, ev_cold_rt, back_eq, wipe_eq, unwipe_eq, List.getElem?_cons_zero, List.getElem?_cons_succ, List.set_cons_zero, List.set_cons_succ, Bool.and_true, Bool.true_and, Bool.or_true, Bool.true_or, Bool.or_false, Bool.false_or, Bool.and_false, Bool.false_and, Bool.not_true, Bool.not_false, List.length_cons, List.length_nil, List.map_cons, List.map_nil, List.replicate_succ, List.replicate_zero, List.cons_append, List.nil_append, if_true, if_false, Nat.reduceAdd, Nat.reduceEqDiff, beq_self_eq_true, reduceIte, Nat.zero_add, eq_self, SZ, List.contains_cons, List.contains_nil, Nat.reduceBEq, Nat.reduceLT, Nat.reduceLeDiff, Int.reduceToNat, Int.reducePow, Int.reduceAdd, Int.reduceSub, Int.reduceMul, Int.reduceNeg, Int.reduceLT, Int.reduceLE, Int.reduceEq, Int.reduceDiv, Int.reduceMod, Option.map_some, Option.map_none, cut1, rg1_eq, rb1_ok, rg2_eq, rb2_ok, bk_d0, bk_d1, bk_d2, bk_d3, bk_d4, bk_i0, bk_i1, bk_i2, bk_i3, e1, ih]
theorem side_in {l : Runs} (h : Good l) (hn : l ≠ []) (hl : l.length < 900) {p : Int} (h1 : 1 ≤ p) (h2 : p ≤ amt l) {q : Bool} (hq : sideAt p 0 l = some q) :
    Fside_at [.fz (.tup (l.map runD)), .fz (.int p)] = .ret (.fz (.str (sideS q))) [none, none] := by
  have e1 := check_posts_ok h hn hl
  have e2 := place_in hl h1 h2
  obtain ⟨z2, z3, z4, e3⟩ := side_loop p (some (.fz (.tup (l.map runD)))) l 0 q none none hq
  unfold Fside_at Bside_at
  revert e1 e2 e3
  generalize Fcheck_posts = f1
  generalize Fcheck_place = f2
  generalize Lside_at_0 = f3
  generalize l.map runD = ld
  intro e1 e2 e3
  simp (maxSteps := 20000000) (disch := (first | assumption | omega | (simp only [List.length_cons, List.length_nil, List.length_append, List.length_map, SZ]; done) | (simp only [List.length_cons, List.length_nil, List.length_append, List.length_map, SZ]; omega))) only [ev_seq, ev_seq_nx, ev_seq_rt, ev_seq_ex, ev_seq_bk, ev_seq_ct, ev_nil, ev_pass, ev_break, ev_cont, ev_retN, ev_ret, ev_drop, ev_set, ev_raise, ev_if, ev_par, ev_par3, ev_toS_ok, ev_toS_ex, ev_toS_no, ev_bind_ok, ev_bind_ex, ev_bind_no, ev_it, ev_if_f, ev_C, ev_var, ev_var1, ev_var2, ev_mov, ev_mov1, ev_mov2, ev_okV_e, ev_okV_v, ev_okO, ev_run_e, ev_run_v, ev_get_d, ev_get_i, ev_getO, ev_d_fz, ev_d_ow, ev_d_io, ev_op2, ev_get2, ev_g2, ev_op1, ev_get1, ev_g1, ev_mk, ev_mk0, ev_opN, ev_all_nil, ev_all_cons, ev_runO_nil, ev_runO_cons, ev_getN, ev_gN, ev_getL_nil, ev_getL_cons, ev_gL, ev_runE_nil, ev_runE_cons, ev_tup, ev_lst, ev_mIf, ev_and, ev_or, ev_not, ev_blR, ev_toT, ev_blT, ev_okI, ev_okB, ev_tru, ev_mkT, ev_obind, ev_tru_bl, ev_andT, ev_orT, ev_notT, ev_chain, ev_chR, ev_fn, ev_of_nx, ev_of_rt, ev_of_ex, ev_outs0, ev_outs1, ev_ioE_n, ev_ioE_f, ev_ioE_o, ev_ioE_i, ev_call, ev_callK, ev_callR, ev_args_nil, ev_args_cons, ev_argC, ev_arg_d, ev_arg_i, ev_argO_f, ev_argO_o, ev_argO_i, ev_apart_nil, ev_apart_d, ev_apart_i, ev_any_nil, ev_any_cons, ev_at_d, ev_at_i, ev_ofF_ret, ev_ofF_exc, ev_back0, ev_back1, ev_b1n, ev_b1f, ev_b1o, ev_b1i, ev_bkO0, ev_bkO1, ev_bkI0, ev_bkI1, ev_look0, ev_look_d, ev_look_i, ev_join, ev_head, ev_tail, ev_call1, ev_go_o, ev_go_f, ev_of1_r, ev_of1_e, op_add_i, op_sub_i, op_iadd_i, op_mul_i, op_fdiv_i, op_mod_i, op_pow8_i, op_powL_i, op_lt_i, op_le_i, op_gt_i, op_ge_i, op_neg_i, op_eq_i, op_ne_i, op_eq_s, op_ne_s, op_is_n, op_len_l, op_len_t, op_len_s, op_abs_i, op_max_i, op_min_i, op_int_i, op_int_b, op_divmod_i, op_tup_l, op_tup_t, op_list_l, op_list_t, op_rev_l, op_rev_t, op_own_o, op_own_i, op_setix, op_setR, op_stN, op_as_o, op_as_i, op_isS, op_mut, op_mutR, op_mutS, op_asg_seq, op_asg_seql, op_asg_cons, op_asg_nil, op_asg_nm, op_asg, op_asgR, ixN_1_0, ixN_1_m1, ixN_2_0, ixN_2_1, ixN_2_m1, ixN_3_0, ixN_3_1, ixN_3_2, ixN_3_m1, ixN_4_0, ixN_4_1, ixN_4_2, ixN_4_3, ixN_4_m1, ixN_5_0, ixN_5_1, ixN_5_2, ixN_5_3, ixN_5_4, ixN_5_m1, ixN_6_0, ixN_6_1, ixN_6_2, ixN_6_3, ixN_6_4, ixN_6_5, ixN_6_m1, ixN_7_0, ixN_7_1, ixN_7_2, ixN_7_3, ixN_7_4, ixN_7_5, ixN_7_6, ixN_7_m1, ixN_8_0, ixN_8_1, ixN_8_2, ixN_8_3, ixN_8_4, ixN_8_5, ixN_8_6, ixN_8_7, ixN_8_m1, ixN_9_0, ixN_9_1, ixN_9_2, ixN_9_3, ixN_9_4, ixN_9_5, ixN_9_6, ixN_9_7, ixN_9_8, ixN_9_m1, ixN_10_0, ixN_10_1, ixN_10_2, ixN_10_3, ixN_10_4, ixN_10_5, ixN_10_6, ixN_10_7, ixN_10_8, ixN_10_9, ixN_10_m1, ixN_11_0, ixN_11_1, ixN_11_2, ixN_11_3, ixN_11_4, ixN_11_5, ixN_11_6, ixN_11_7, ixN_11_8, ixN_11_9, ixN_11_10, ixN_11_m1, ixN_12_0, ixN_12_1, ixN_12_2, ixN_12_3, ixN_12_4, ixN_12_5, ixN_12_6, ixN_12_7, ixN_12_8, ixN_12_9, ixN_12_10, ixN_12_11, ixN_12_m1, ixN_13_0, ixN_13_1, ixN_13_2, ixN_13_3, ixN_13_4, ixN_13_5, ixN_13_6, ixN_13_7, ixN_13_8, ixN_13_9, ixN_13_10, ixN_13_11, ixN_13_12, ixN_13_m1, ixN_14_0, ixN_14_1, ixN_14_2, ixN_14_3, ixN_14_4, ixN_14_5, ixN_14_6, ixN_14_7, ixN_14_8, ixN_14_9, ixN_14_10, ixN_14_11, ixN_14_12, ixN_14_13, ixN_14_m1, ixN_15_0, ixN_15_1, ixN_15_2, ixN_15_3, ixN_15_4, ixN_15_5, ixN_15_6, ixN_15_7, ixN_15_8, ixN_15_9, ixN_15_10, ixN_15_11, ixN_15_12, ixN_15_13, ixN_15_14, ixN_15_m1, ix_l0, ix_t0, ix_l1, ix_t1, ix_l2, ix_t2, ix_l3, ix_t3, ix_l4, ix_t4, ix_l5, ix_t5, ix_l6, ix_t6, ix_l7, ix_t7, ix_l8, ix_t8, ix_l9, ix_t9, ix_l10, ix_t10, ix_l11, ix_t11, ix_l12, ix_t12, ix_l13, ix_t13, ev_for, ev_iSeq, ev_mkI, ev_iter_l, ev_iter_t, ev_iter_s, ev_turn_nx, ev_turn_ct, ev_turn_bk, ev_turn_rt, ev_turn_ex, ev_loop0, ev_forR, ev_enum, ev_enumI, ev_zip, ev_wipe0, ev_wipe1, ev_un0, ev_un1, ev_unO_f, ev_unO_n, ev_comp, ev_lc0, ev_lcR0, ev_turnC, ev_tcR, ev_yes, ev_tryAs, ev_tryS_ex, ev_tryS_nx, ev_tryS_rt, ev_tryR, ev_gone_nx, ev_gone_rt, ev_nest, ev_isE, ev_sl, ev_part0, ev_part1, ev_partR, ev_sl_t, ev_sl_l, ev_cast0, ev_cast1, ev_cast2, ev_cast3, ev_cast4, ev_cast5, ev_cast6, ev_cast7, ev_cast8, ev_cast9, ev_cast10, ev_cast11, ev_cast12, ev_cast13, ev_cast14, ev_cast15, ev_cast16, ev_cast17, ev_cast18, ev_cast19, ev_cast20, ev_isi_tt, ev_isi_ti, ev_is_t, ev_isnot_t, ev_isnot_n, ev_zip_tt, ev_zip_ll, op_eqs, op_nes, ev_aug, ev_augR, ev_augS, ev_try, ev_tryT_ex, ev_tryT_nx, ev_tryT_rt, ev_tryT_bk, ev_tryT_ct, ev_tryU, ev_tryU0, ev_cold_nx, ev_cold_rt, back_eq, wipe_eq, unwipe_eq, List.getElem?_cons_zero, List.getElem?_cons_succ, List.set_cons_zero, List.set_cons_succ, Bool.and_true, Bool.true_and, Bool.or_true, Bool.true_or, Bool.or_false, Bool.false_or, Bool.and_false, Bool.false_and, Bool.not_true, Bool.not_false, List.length_cons, List.length_nil, List.map_cons, List.map_nil, List.replicate_succ, List.replicate_zero, List.cons_append, List.nil_append, if_true, if_false, Nat.reduceAdd, Nat.reduceEqDiff, beq_self_eq_true, reduceIte, Nat.zero_add, eq_self, SZ, List.contains_cons, List.contains_nil, Nat.reduceBEq, Nat.reduceLT, Nat.reduceLeDiff, Int.reduceToNat, Int.reducePow, Int.reduceAdd, Int.reduceSub, Int.reduceMul, Int.reduceNeg, Int.reduceLT, Int.reduceLE, Int.reduceEq, Int.reduceDiv, Int.reduceMod, Option.map_some, Option.map_none, cut1, rg1_eq, rb1_ok, rg2_eq, rb2_ok, bk_d0, bk_d1, bk_d2, bk_d3, bk_d4, bk_i0, bk_i1, bk_i2, bk_i3, e1, e2, e3]
end G

namespace G
open PySem PySem.Spec PyProof.Rows L2 Mi
/-! ### draws, lines -/
theorem draw_ok (a b c k : Int) (ha : 0 ≤ a) (hb : 0 ≤ b) (hb2 : b < 1000000000000000000000000000000000000000000000000000000000000) (hc : 0 ≤ c) (hc2 : c < 1000000000) (hk : 0 < k) (hk2 : k ≤ 100000000000000000000000000000000000000000000000000000000000000000000000000000000000000000000000000) :
    ∃ r a' c' : Int, F_law_draw [.io [.int a, .int b, .int c], .fz (.int k)] = .ret (.fz (.int r)) [some (.io [.int a', .int b, .int c']), none] ∧ 0 ≤ r ∧ r < k ∧ 0 ≤ a' ∧ 0 ≤ c' ∧ c' ≤ c + 1 := by
  by_cases h : 0 < a
  · unfold F_law_draw B_law_draw
    simp (disch := omega) only [ev_seq, ev_seq_nx, ev_seq_rt, ev_seq_ex, ev_seq_bk, ev_seq_ct, ev_nil, ev_pass, ev_break, ev_cont, ev_retN, ev_ret, ev_drop, ev_set, ev_raise, ev_if, ev_par, ev_par3, ev_toS_ok, ev_toS_ex, ev_toS_no, ev_bind_ok, ev_bind_ex, ev_bind_no, ev_it, ev_if_f, ev_C, ev_var, ev_var1, ev_var2, ev_mov, ev_mov1, ev_mov2, ev_okV_e, ev_okV_v, ev_okO, ev_run_e, ev_run_v, ev_get_d, ev_get_i, ev_getO, ev_d_fz, ev_d_ow, ev_d_io, ev_op2, ev_get2, ev_g2, ev_op1, ev_get1, ev_g1, ev_mk, ev_mk0, ev_opN, ev_all_nil, ev_all_cons, ev_runO_nil, ev_runO_cons, ev_getN, ev_gN, ev_getL_nil, ev_getL_cons, ev_gL, ev_runE_nil, ev_runE_cons, ev_tup, ev_lst, ev_mIf, ev_and, ev_or, ev_not, ev_blR, ev_toT, ev_blT, ev_okI, ev_okB, ev_tru, ev_mkT, ev_obind, ev_tru_bl, ev_andT, ev_orT, ev_notT, ev_chain, ev_chR, ev_fn, ev_of_nx, ev_of_rt, ev_of_ex, ev_outs0, ev_outs1, ev_ioE_n, ev_ioE_f, ev_ioE_o, ev_ioE_i, ev_call, ev_callK, ev_callR, ev_args_nil, ev_args_cons, ev_argC, ev_arg_d, ev_arg_i, ev_argO_f, ev_argO_o, ev_argO_i, ev_apart_nil, ev_apart_d, ev_apart_i, ev_any_nil, ev_any_cons, ev_at_d, ev_at_i, ev_ofF_ret, ev_ofF_exc, ev_back0, ev_back1, ev_b1n, ev_b1f, ev_b1o, ev_b1i, ev_bkO0, ev_bkO1, ev_bkI0, ev_bkI1, ev_look0, ev_look_d, ev_look_i, ev_join, ev_head, ev_tail, ev_call1, ev_go_o, ev_go_f, ev_of1_r, ev_of1_e, op_add_i, op_sub_i, op_iadd_i, op_mul_i, op_fdiv_i, op_mod_i, op_pow8_i, op_powL_i, op_lt_i, op_le_i, op_gt_i, op_ge_i, op_neg_i, op_eq_i, op_ne_i, op_eq_s, op_ne_s, op_is_n, op_len_l, op_len_t, op_len_s, op_abs_i, op_max_i, op_min_i, op_int_i, op_int_b, op_divmod_i, op_tup_l, op_tup_t, op_list_l, op_list_t, op_rev_l, op_rev_t, op_own_o, op_own_i, op_setix, op_setR, op_stN, op_as_o, op_as_i, op_isS, op_mut, op_mutR, op_mutS, op_asg_seq, op_asg_seql, op_asg_cons, op_asg_nil, op_asg_nm, op_asg, op_asgR, ixN_1_0, ixN_1_m1, ixN_2_0, ixN_2_1, ixN_2_m1, ixN_3_0, ixN_3_1, ixN_3_2, ixN_3_m1, ixN_4_0, ixN_4_1, ixN_4_2, ixN_4_3, ixN_4_m1, ixN_5_0, ixN_5_1, ixN_5_2, ixN_5_3, ixN_5_4, ixN_5_m1, ixN_6_0, ixN_6_1, ixN_6_2, ixN_6_3, ixN_6_4, ixN_6_5, ixN_6_m1, ixN_7_0, ixN_7_1, ixN_7_2, ixN_7_3, ixN_7_4, ixN_7_5, ixN_7_6, ixN_7_m1, ixN_8_0, ixN_8_1, ixN_8_2, ixN_8_3, ixN_8_4, ixN_8_5, ixN_8_6, ixN_8_7, ixN_8_m1, ixN_9_0, ixN_9_1, ixN_9_2, ixN_9_3, ixN_9_4, ixN_9_5, ixN_9_6, ixN_9_7, ixN_9_8, ixN_9_m1, ixN_10_0, ixN_10_1, ixN_10_2, ixN_10_3, ixN_10_4, ixN_10_5, ixN_10_6, ixN_10_7, ixN_10_8, ixN_10_9, ixN_10_m1, ixN_11_0, ixN_11_1, ixN_11_2, ixN_11_3, ixN_11_4, ixN_11_5, ixN_11_6, ixN_11_7, ixN_11_8, ixN_11_9, ixN_11_10, ixN_11_m1, ixN_12_0, ixN_12_1, ixN_12_2, ixN_12_3, ixN_12_4, ixN_12_5, ixN_12_6, ixN_12_7, ixN_12_8, ixN_12_9, ixN_12_10, ixN_12_11, ixN_12_m1, ixN_13_0, ixN_13_1, ixN_13_2, ixN_13_3, ixN_13_4, ixN_13_5, ixN_13_6, ixN_13_7, ixN_13_8, ixN_13_9, ixN_13_10, ixN_13_11, ixN_13_12, ixN_13_m1, ixN_14_0, ixN_14_1, ixN_14_2, ixN_14_3, ixN_14_4, ixN_14_5, ixN_14_6, ixN_14_7, ixN_14_8, ixN_14_9, ixN_14_10, ixN_14_11, ixN_14_12, ixN_14_13, ixN_14_m1, ixN_15_0, ixN_15_1, ixN_15_2, ixN_15_3, ixN_15_4, ixN_15_5, ixN_15_6, ixN_15_7, ixN_15_8, ixN_15_9, ixN_15_10, ixN_15_11, ixN_15_12, ixN_15_13, ixN_15_14, ixN_15_m1, ix_l0, ix_t0, ix_l1, ix_t1, ix_l2, ix_t2, ix_l3, ix_t3, ix_l4, ix_t4, ix_l5, ix_t5, ix_l6, ix_t6, ix_l7, ix_t7, ix_l8, ix_t8, ix_l9, ix_t9, ix_l10, ix_t10, ix_l11, ix_t11, ix_l12, ix_t12, ix_l13, ix_t13, ev_for, ev_iSeq, ev_mkI, ev_iter_l, ev_iter_t, ev_iter_s, ev_turn_nx, ev_turn_ct, ev_turn_bk, ev_turn_rt, ev_turn_ex, ev_loop0, ev_forR, ev_enum, ev_enumI, ev_zip, ev_wipe0, ev_wipe1, ev_un0, ev_un1, ev_unO_f, ev_unO_n, ev_comp, ev_lc0, ev_lcR0, ev_turnC, ev_tcR, ev_yes, ev_tryAs, ev_tryS_ex, ev_tryS_nx, ev_tryS_rt, ev_tryR, ev_gone_nx, ev_gone_rt, ev_nest, ev_isE, ev_sl, ev_part0, ev_part1, ev_partR, ev_sl_t, ev_sl_l, ev_cast0, ev_cast1, ev_cast2, ev_cast3, ev_cast4, ev_cast5, ev_cast6, ev_cast7, ev_cast8, ev_cast9, ev_cast10, ev_cast11, ev_cast12, ev_cast13, ev_cast14, ev_cast15, ev_cast16, ev_cast17, ev_cast18, ev_cast19, ev_cast20, ev_isi_tt, ev_isi_ti, ev_is_t, ev_isnot_t, ev_isnot_n, ev_zip_tt, ev_zip_ll, op_eqs, op_nes, ev_aug, ev_augR, ev_augS, ev_try, ev_tryT_ex, ev_tryT_nx, ev_tryT_rt, ev_tryT_bk, ev_tryT_ct, ev_tryU, ev_tryU0, ev_cold_nx, ev_cold_rt, back_eq, wipe_eq, unwipe_eq, List.getElem?_cons_zero, List.getElem?_cons_succ, List.set_cons_zero, List.set_cons_succ, Bool.and_true, Bool.true_and, Bool.or_true, Bool.true_or, Bool.or_false, Bool.false_or, Bool.and_false, Bool.false_and, Bool.not_true, Bool.not_false, List.length_cons, List.length_nil, List.map_cons, List.map_nil, List.replicate_succ, List.replicate_zero, List.cons_append, List.nil_append, if_true, if_false, Nat.reduceAdd, Nat.reduceEqDiff, beq_self_eq_true, reduceIte, Nat.zero_add, eq_self, SZ, List.contains_cons, List.contains_nil, Nat.reduceBEq, Nat.reduceLT, Nat.reduceLeDiff, Int.reduceToNat, Int.reducePow, Int.reduceAdd, Int.reduceSub, Int.reduceMul, Int.reduceNeg, Int.reduceLT, Int.reduceLE, Int.reduceEq, Int.reduceDiv, Int.reduceMod, Option.map_some, Option.map_none, cut1, rg1_eq, rb1_ok, rg2_eq, rb2_ok, bk_d0, bk_d1, bk_d2, bk_d3, bk_d4, bk_i0, bk_i1, bk_i2, bk_i3, h, decide_true]
    exact ⟨_, _, _, rfl, Int.emod_nonneg _ (by omega), Int.emod_lt_of_pos _ hk, Int.ediv_nonneg ha (by omega), hc, by omega⟩
  · unfold F_law_draw B_law_draw
    simp (disch := omega) only [ev_seq, ev_seq_nx, ev_seq_rt, ev_seq_ex, ev_seq_bk, ev_seq_ct, ev_nil, ev_pass, ev_break, ev_cont, ev_retN, ev_ret, ev_drop, ev_set, ev_raise, ev_if, ev_par, ev_par3, ev_toS_ok, ev_toS_ex, ev_toS_no, ev_bind_ok, ev_bind_ex, ev_bind_no, ev_it, ev_if_f, ev_C, ev_var, ev_var1, ev_var2, ev_mov, ev_mov1, ev_mov2, ev_okV_e, ev_okV_v, ev_okO, ev_run_e, ev_run_v, ev_get_d, ev_get_i, ev_getO, ev_d_fz, ev_d_ow, ev_d_io, ev_op2, ev_get2, ev_g2, ev_op1, ev_get1, ev_g1, ev_mk, ev_mk0, ev_opN, ev_all_nil, ev_all_cons, ev_runO_nil, ev_runO_cons, ev_getN, ev_gN, ev_getL_nil, ev_getL_cons, ev_gL, ev_runE_nil, ev_runE_cons, ev_tup, ev_lst, ev_mIf, ev_and, ev_or, ev_not, ev_blR, ev_toT, ev_blT, ev_okI, ev_okB, ev_tru, ev_mkT, ev_obind, ev_tru_bl, ev_andT, ev_orT, ev_notT, ev_chain, ev_chR, ev_fn, ev_of_nx, ev_of_rt, ev_of_ex, ev_outs0, ev_outs1, ev_ioE_n, ev_ioE_f, ev_ioE_o, ev_ioE_i, ev_call, ev_callK, ev_callR, ev_args_nil, ev_args_cons, ev_argC, ev_arg_d, ev_arg_i, ev_argO_f, ev_argO_o, ev_argO_i, ev_apart_nil, ev_apart_d, ev_apart_i, ev_any_nil, ev_any_cons, ev_at_d, ev_at_i, ev_ofF_ret, ev_ofF_exc, ev_back0, ev_back1, ev_b1n, ev_b1f, ev_b1o, ev_b1i, ev_bkO0, ev_bkO1, ev_bkI0, ev_bkI1, ev_look0, ev_look_d, ev_look_i, ev_join, ev_head, ev_tail, ev_call1, ev_go_o, ev_go_f, ev_of1_r, ev_of1_e, op_add_i, op_sub_i, op_iadd_i, op_mul_i, op_fdiv_i, op_mod_i, op_pow8_i, op_powL_i, op_lt_i, op_le_i, op_gt_i, op_ge_i, op_neg_i, op_eq_i, op_ne_i, op_eq_s, op_ne_s, op_is_n, op_len_l, op_len_t, op_len_s, op_abs_i, op_max_i, op_min_i, op_int_i, op_int_b, op_divmod_i, op_tup_l, op_tup_t, op_list_l, op_list_t, op_rev_l, op_rev_t, op_own_o, op_own_i, op_setix, op_setR, op_stN, op_as_o, op_as_i, op_isS, op_mut, op_mutR, op_mutS, op_asg_seq, op_asg_seql, op_asg_cons, op_asg_nil, op_asg_nm, op_asg, op_asgR, ixN_1_0, ixN_1_m1, ixN_2_0, ixN_2_1, ixN_2_m1, ixN_3_0, ixN_3_1, ixN_3_2, ixN_3_m1, ixN_4_0, ixN_4_1, ixN_4_2, ixN_4_3, ixN_4_m1, ixN_5_0, ixN_5_1, ixN_5_2, ixN_5_3, ixN_5_4, ixN_5_m1, ixN_6_0, ixN_6_1, ixN_6_2, ixN_6_3, ixN_6_4, ixN_6_5, ixN_6_m1, ixN_7_0, ixN_7_1, ixN_7_2, ixN_7_3, ixN_7_4, ixN_7_5, ixN_7_6, ixN_7_m1, ixN_8_0, ixN_8_1, ixN_8_2, ixN_8_3, ixN_8_4, ixN_8_5, ixN_8_6, ixN_8_7, ixN_8_m1, ixN_9_0, ixN_9_1, ixN_9_2, ixN_9_3, ixN_9_4, ixN_9_5, ixN_9_6, ixN_9_7, ixN_9_8, ixN_9_m1, ixN_10_0, ixN_10_1, ixN_10_2, ixN_10_3, ixN_10_4, ixN_10_5, ixN_10_6, ixN_10_7, ixN_10_8, ixN_10_9, ixN_10_m1, ixN_11_0, ixN_11_1, ixN_11_2, ixN_11_3, ixN_11_4, ixN_11_5, ixN_11_6, ixN_11_7, ixN_11_8, ixN_11_9, ixN_11_10, ixN_11_m1, ixN_12_0, ixN_12_1, ixN_12_2, ixN_12_3, ixN_12_4, ixN_12_5, ixN_12_6, ixN_12_7, ixN_12_8, ixN_12_9, ixN_12_10, ixN_12_11, ixN_12_m1, ixN_13_0, ixN_13_1, ixN_13_2, ixN_13_3, ixN_13_4, ixN_13_5, ixN_13_6, ixN_13_7, ixN_13_8, ixN_13_9, ixN_13_10, ixN_13_11, ixN_13_12, ixN_13_m1, ixN_14_0, ixN_14_1, ixN_14_2, ixN_14_3, ixN_14_4, ixN_14_5, ixN_14_6, ixN_14_7, ixN_14_8, ixN_14_9, ixN_14_10, ixN_14_11, ixN_14_12, ixN_14_13, ixN_14_m1, ixN_15_0, ixN_15_1, ixN_15_2, ixN_15_3, ixN_15_4, ixN_15_5, ixN_15_6, ixN_15_7, ixN_15_8, ixN_15_9, ixN_15_10, ixN_15_11, ixN_15_12, ixN_15_13, ixN_15_14, ixN_15_m1, ix_l0, ix_t0, ix_l1, ix_t1, ix_l2, ix_t2, ix_l3, ix_t3, ix_l4, ix_t4, ix_l5, ix_t5, ix_l6, ix_t6, ix_l7, ix_t7, ix_l8, ix_t8, ix_l9, ix_t9, ix_l10, ix_t10, ix_l11, ix_t11, ix_l12, ix_t12, ix_l13, ix_t13, ev_for, ev_iSeq, ev_mkI, ev_iter_l, ev_iter_t, ev_iter_s, ev_turn_nx, ev_turn_ct, ev_turn_bk, ev_turn_rt, ev_turn_ex, ev_loop0, ev_forR, ev_enum, ev_enumI, ev_zip, ev_wipe0, ev_wipe1, ev_un0, ev_un1, ev_unO_f, ev_unO_n, ev_comp, ev_lc0, ev_lcR0, ev_turnC, ev_tcR, ev_yes, ev_tryAs, ev_tryS_ex, ev_tryS_nx, ev_tryS_rt, ev_tryR, ev_gone_nx, ev_gone_rt, ev_nest, ev_isE, ev_sl, ev_part0, ev_part1, ev_partR, ev_sl_t, ev_sl_l, ev_cast0, ev_cast1, ev_cast2, ev_cast3, ev_cast4, ev_cast5, ev_cast6, ev_cast7, ev_cast8, ev_cast9, ev_cast10, ev_cast11, ev_cast12, ev_cast13, ev_cast14, ev_cast15, ev_cast16, ev_cast17, ev_cast18, ev_cast19, ev_cast20, ev_isi_tt, ev_isi_ti, ev_is_t, ev_isnot_t, ev_isnot_n, ev_zip_tt, ev_zip_ll, op_eqs, op_nes, ev_aug, ev_augR, ev_augS, ev_try, ev_tryT_ex, ev_tryT_nx, ev_tryT_rt, ev_tryT_bk, ev_tryT_ct, ev_tryU, ev_tryU0, ev_cold_nx, ev_cold_rt, back_eq, wipe_eq, unwipe_eq, List.getElem?_cons_zero, List.getElem?_cons_succ, List.set_cons_zero, List.set_cons_succ, Bool.and_true, Bool.true_and, Bool.or_true, Bool.true_or, Bool.or_false, Bool.false_or, Bool.and_false, Bool.false_and, Bool.not_true, Bool.not_false, List.length_cons, List.length_nil, List.map_cons, List.map_nil, List.replicate_succ, List.replicate_zero, List.cons_append, List.nil_append, if_true, if_false, Nat.reduceAdd, Nat.reduceEqDiff, beq_self_eq_true, reduceIte, Nat.zero_add, eq_self, SZ, List.contains_cons, List.contains_nil, Nat.reduceBEq, Nat.reduceLT, Nat.reduceLeDiff, Int.reduceToNat, Int.reducePow, Int.reduceAdd, Int.reduceSub, Int.reduceMul, Int.reduceNeg, Int.reduceLT, Int.reduceLE, Int.reduceEq, Int.reduceDiv, Int.reduceMod, Option.map_some, Option.map_none, cut1, rg1_eq, rb1_ok, rg2_eq, rb2_ok, bk_d0, bk_d1, bk_d2, bk_d3, bk_d4, bk_i0, bk_i1, bk_i2, bk_i3, h, decide_false]
    exact ⟨_, _, _, rfl, Int.emod_nonneg _ (by omega), Int.emod_lt_of_pos _ hk, ha, by omega, by omega⟩
/-- the state of a source -/
structure Src (a b c : Int) (n : Int) : Prop where
  a0 : 0 ≤ a
  b0 : 0 ≤ b
  b1 : b < 1000000000000000000000000000000000000000000000000000000000000
  c0 : 0 ≤ c
  c1 : c ≤ n
theorem draw_src {a b c n k : Int} (s : Src a b c n) (hn : n < 100000000) (hk : 0 < k) (hk2 : k ≤ 1000000000000000000000000000000000000000000000000000000000000) :
    ∃ r a' c' : Int, F_law_draw [.io [.int a, .int b, .int c], .fz (.int k)] = .ret (.fz (.int r)) [some (.io [.int a', .int b, .int c']), none] ∧ 0 ≤ r ∧ r < k ∧ Src a' b c' (n + 1) := by
  obtain ⟨r, a', c', e, h1, h2, h3, h4, h5⟩ := draw_ok a b c k s.a0 s.b0 s.b1 s.c0 (by have := s.c1; omega) hk (by omega)
  exact ⟨r, a', c', e, h1, h2, h3, s.b0, s.b1, h4, by have := s.c1; omega⟩
theorem Src.up {a b c n m : Int} (s : Src a b c n) (h : n ≤ m) : Src a b c m := ⟨s.a0, s.b0, s.b1, s.c0, by have := s.c1; omega⟩
theorem line_step (kk : Mi.Env → SR) (a b c n w t k : Int) (s : Src a b c n) (hn : n < 1000000) (hw : 0 < w) (hw2 : w ≤ 1000000000000000000000000000000) (fs : List D) (hf : fs.length < 1000) (x1 x5 x6 : Option Sl) :
    ∃ a' c' m : Int, forR L_law_line_0 kk (gNm 5 (.int k) [some (.io [.int a, .int b, .int c]), x1, some (.fz (.int w)), some (.fz (.int t)), some (.ow fs), x5, x6]) = kk [some (.io [.int a', .int b, .int c']), x1, some (.fz (.int w)), some (.fz (.int t)), some (.ow (fs ++ [runD (decide ((t + k) % 2 = 0), m)])), some (.fz (.int k)), some (.fz (.int m))] ∧ 1 ≤ m ∧ m ≤ 1000000000000000000000000000000 ∧ Src a' b c' (n + 3) := by
  obtain ⟨r1, a1, c1, e1, g1, l1, s1⟩ := draw_src (k := 3) s (by omega) (by omega) (by omega)
  obtain ⟨r2, a2, c2, e2, g2, l2, s2⟩ := draw_src (k := w) s1 (by omega) hw (by omega)
  obtain ⟨r3, a3, c3, e3, g3, l3, s3⟩ := draw_src (k := 3) s2 (by omega) (by omega) (by omega)
  obtain ⟨m, em, hm⟩ := pick3i 1 (1 + r1) (1 + r2) r3 g3 l3
  have ex := ix_LR (t + k)
  have ea : fAppend fs [.tup [.str (sideS (decide ((t + k) % 2 = 0))), .int m]] = some (.non, fs ++ [.tup [.str (sideS (decide ((t + k) % 2 = 0))), .int m]]) := op_append (by unfold SZ; omega)
  refine ⟨a3, c3, m, ?_, by omega, by omega, s3.up (by omega)⟩
  have e0 : runD (decide ((t + k) % 2 = 0), m) = .tup [.str (sideS (decide ((t + k) % 2 = 0))), .int m] := rfl
  rw [e0]
  unfold L_law_line_0
  revert e1 e2 e3
  generalize F_law_draw = f1
  intro e1 e2 e3
  generalize sideS (decide ((t + k) % 2 = 0)) = sd at ex ea ⊢
  simp (maxSteps := 20000000) (disch := (first | assumption | omega | (simp only [List.length_cons, List.length_nil, List.length_append, List.length_map, SZ]; done) | (simp only [List.length_cons, List.length_nil, List.length_append, List.length_map, SZ]; omega))) only [ev_seq, ev_seq_nx, ev_seq_rt, ev_seq_ex, ev_seq_bk, ev_seq_ct, ev_nil, ev_pass, ev_break, ev_cont, ev_retN, ev_ret, ev_drop, ev_set, ev_raise, ev_if, ev_par, ev_par3, ev_toS_ok, ev_toS_ex, ev_toS_no, ev_bind_ok, ev_bind_ex, ev_bind_no, ev_it, ev_if_f, ev_C, ev_var, ev_var1, ev_var2, ev_mov, ev_mov1, ev_mov2, ev_okV_e, ev_okV_v, ev_okO, ev_run_e, ev_run_v, ev_get_d, ev_get_i, ev_getO, ev_d_fz, ev_d_ow, ev_d_io, ev_op2, ev_get2, ev_g2, ev_op1, ev_get1, ev_g1, ev_mk, ev_mk0, ev_opN, ev_all_nil, ev_all_cons, ev_runO_nil, ev_runO_cons, ev_getN, ev_gN, ev_getL_nil, ev_getL_cons, ev_gL, ev_runE_nil, ev_runE_cons, ev_tup, ev_lst, ev_mIf, ev_and, ev_or, ev_not, ev_blR, ev_toT, ev_blT, ev_okI, ev_okB, ev_tru, ev_mkT, ev_obind, ev_tru_bl, ev_andT, ev_orT, ev_notT, ev_chain, ev_chR, ev_fn, ev_of_nx, ev_of_rt, ev_of_ex, ev_outs0, ev_outs1, ev_ioE_n, ev_ioE_f, ev_ioE_o, ev_ioE_i, ev_call, ev_callK, ev_callR, ev_args_nil, ev_args_cons, ev_argC, ev_arg_d, ev_arg_i, ev_argO_f, ev_argO_o, ev_argO_i, ev_apart_nil, ev_apart_d, ev_apart_i, ev_any_nil, ev_any_cons, ev_at_d, ev_at_i, ev_ofF_ret, ev_ofF_exc, ev_back0, ev_back1, ev_b1n, ev_b1f, ev_b1o, ev_b1i, ev_bkO0, ev_bkO1, ev_bkI0, ev_bkI1, ev_look0, ev_look_d, ev_look_i, ev_join, ev_head, ev_tail, ev_call1, ev_go_o, ev_go_f, ev_of1_r, ev_of1_e, op_add_i, op_sub_i, op_iadd_i, op_mul_i, op_fdiv_i, op_mod_i, op_pow8_i, op_powL_i, op_lt_i, op_le_i, op_gt_i, op_ge_i, op_neg_i, op_eq_i, op_ne_i, op_eq_s, op_ne_s, op_is_n, op_len_l, op_len_t, op_len_s, op_abs_i, op_max_i, op_min_i, op_int_i, op_int_b, op_divmod_i, op_tup_l, op_tup_t, op_list_l, op_list_t, op_rev_l, op_rev_t, op_own_o, op_own_i, op_setix, op_setR, op_stN, op_as_o, op_as_i, op_isS, op_mut, op_mutR, op_mutS, op_asg_seq, op_asg_seql, op_asg_cons, op_asg_nil, op_asg_nm, op_asg, op_asgR, ixN_1_0, ixN_1_m1, ixN_2_0, ixN_2_1, ixN_2_m1, ixN_3_0, ixN_3_1, ixN_3_2, ixN_3_m1, ixN_4_0, ixN_4_1, ixN_4_2, ixN_4_3, ixN_4_m1, ixN_5_0, ixN_5_1, ixN_5_2, ixN_5_3, ixN_5_4, ixN_5_m1, ixN_6_0, ixN_6_1, ixN_6_2, ixN_6_3, ixN_6_4, ixN_6_5, ixN_6_m1, ixN_7_0, ixN_7_1, ixN_7_2, ixN_7_3, ixN_7_4, ixN_7_5, ixN_7_6, ixN_7_m1, ixN_8_0, ixN_8_1, ixN_8_2, ixN_8_3, ixN_8_4, ixN_8_5, ixN_8_6, ixN_8_7, ixN_8_m1, ixN_9_0, ixN_9_1, ixN_9_2, ixN_9_3, ixN_9_4, ixN_9_5, ixN_9_6, ixN_9_7, ixN_9_8, ixN_9_m1, ixN_10_0, ixN_10_1, ixN_10_2, ixN_10_3, ixN_10_4, ixN_10_5, ixN_10_6, ixN_10_7, ixN_10_8, ixN_10_9, ixN_10_m1, ixN_11_0, ixN_11_1, ixN_11_2, ixN_11_3, ixN_11_4, ixN_11_5, ixN_11_6, ixN_11_7, ixN_11_8, ixN_11_9, ixN_11_10, ixN_11_m1, ixN_12_0, ixN_12_1, ixN_12_2, ixN_12_3, ixN_12_4, ixN_12_5, ixN_12_6, ixN_12_7, ixN_12_8, ixN_12_9, ixN_12_10, ixN_12_11, ixN_12_m1, ixN_13_0, ixN_13_1, ixN_13_2, ixN_13_3, ixN_13_4, ixN_13_5, ixN_13_6, ixN_13_7, ixN_13_8, ixN_13_9, ixN_13_10, ixN_13_11, ixN_13_12, ixN_13_m1, ixN_14_0, ixN_14_1, ixN_14_2, ixN_14_3, ixN_14_4, ixN_14_5, ixN_14_6, ixN_14_7, ixN_14_8, ixN_14_9, ixN_14_10, ixN_14_11, ixN_14_12, ixN_14_13, ixN_14_m1, ixN_15_0, ixN_15_1, ixN_15_2, ixN_15_3, ixN_15_4, ixN_15_5, ixN_15_6, ixN_15_7, ixN_15_8, ixN_15_9, ixN_15_10, ixN_15_11, ixN_15_12, ixN_15_13, ixN_15_14, ixN_15_m1, ix_l0, ix_t0, ix_l1, ix_t1, ix_l2, ix_t2, ix_l3, ix_t3, ix_l4, ix_t4, ix_l5, ix_t5, ix_l6, ix_t6, ix_l7, ix_t7, ix_l8, ix_t8, ix_l9, ix_t9, ix_l10, ix_t10, ix_l11, ix_t11, ix_l12, ix_t12, ix_l13, ix_t13, ev_for, ev_iSeq, ev_mkI, ev_iter_l, ev_iter_t, ev_iter_s, ev_turn_nx, ev_turn_ct, ev_turn_bk, ev_turn_rt, ev_turn_ex, ev_loop0, ev_forR, ev_enum, ev_enumI, ev_zip, ev_wipe0, ev_wipe1, ev_un0, ev_un1, ev_unO_f, ev_unO_n, ev_comp, ev_lc0, ev_lcR0, ev_turnC, ev_tcR, ev_yes, ev_tryAs, ev_tryS_ex, ev_tryS_nx, ev_tryS_rt, ev_tryR, ev_gone_nx, ev_gone_rt, ev_nest, ev_isE, ev_sl, ev_part0, ev_part1, ev_partR, ev_sl_t, ev_sl_l, ev_cast0, ev_cast1, ev_cast2, ev_cast3, ev_cast4, ev_cast5, ev_cast6, ev_cast7, ev_cast8, ev_cast9, ev_cast10, ev_cast11, ev_cast12, ev_cast13, ev_cast14, ev_cast15, ev_cast16, ev_cast17, ev_cast18, ev_cast19, ev_cast20, ev_isi_tt, ev_isi_ti, ev_is_t, ev_isnot_t, ev_isnot_n, ev_zip_tt, ev_zip_ll, op_eqs, op_nes, ev_aug, ev_augR, ev_augS, ev_try, ev_tryT_ex, ev_tryT_nx, ev_tryT_rt, ev_tryT_bk, ev_tryT_ct, ev_tryU, ev_tryU0, ev_cold_nx, ev_cold_rt, back_eq, wipe_eq, unwipe_eq, List.getElem?_cons_zero, List.getElem?_cons_succ, List.set_cons_zero, List.set_cons_succ, Bool.and_true, Bool.true_and, Bool.or_true, Bool.true_or, Bool.or_false, Bool.false_or, Bool.and_false, Bool.false_and, Bool.not_true, Bool.not_false, List.length_cons, List.length_nil, List.map_cons, List.map_nil, List.replicate_succ, List.replicate_zero, List.cons_append, List.nil_append, if_true, if_false, Nat.reduceAdd, Nat.reduceEqDiff, beq_self_eq_true, reduceIte, Nat.zero_add, eq_self, SZ, List.contains_cons, List.contains_nil, Nat.reduceBEq, Nat.reduceLT, Nat.reduceLeDiff, Int.reduceToNat, Int.reducePow, Int.reduceAdd, Int.reduceSub, Int.reduceMul, Int.reduceNeg, Int.reduceLT, Int.reduceLE, Int.reduceEq, Int.reduceDiv, Int.reduceMod, Option.map_some, Option.map_none, cut1, rg1_eq, rb1_ok, rg2_eq, rb2_ok, bk_d0, bk_d1, bk_d2, bk_d3, bk_d4, bk_i0, bk_i1, bk_i2, bk_i3, e1, e2, e3, em, ex, ea]
/-- runs of one to 10 ** 30 posts -/
def Bd (l : Runs) : Prop := ∀ r ∈ l, 1 ≤ r.2 ∧ r.2 ≤ 1000000000000000000000000000000
theorem Bd.ps : ∀ {l : Runs}, Bd l → Ps l
  | [], _ => trivial
  | r :: l, h => ⟨(h r (List.mem_cons_self ..)).1, Bd.ps fun x hx => h x (List.mem_cons_of_mem _ hx)⟩
theorem Bd.amt : ∀ {l : Runs}, Bd l → amt l ≤ l.length * 1000000000000000000000000000000
  | [], _ => by simp [Mi.amt]
  | r :: l, h => by
    have h1 := (h r (List.mem_cons_self ..)).2
    have h2 := Bd.amt (l := l) fun x hx => h x (List.mem_cons_of_mem _ hx)
    simp only [Mi.amt, List.length_cons]
    omega
theorem line_loop (x1 : Option Sl) (b w t : Int) (hw : 0 < w) (hw2 : w ≤ 1000000000000000000000000000000) : ∀ (i : Nat) (k a c n : Int) (fs : List D) (x5 x6 : Option Sl), Src a b c n → n + 3 * i < 1000000 → fs.length + i < 1000 →
    ∃ a' c' : Int, ∃ gs : Runs, ∃ z5 z6, loopF (gNm 5) L_law_line_0 (rangeL k i) [some (.io [.int a, .int b, .int c]), x1, some (.fz (.int w)), some (.fz (.int t)), some (.ow fs), x5, x6] = .nx [some (.io [.int a', .int b, .int c']), x1, some (.fz (.int w)), some (.fz (.int t)), some (.ow (fs ++ gs.map runD)), z5, z6] ∧ gs.length = i ∧ gs.map (·.1) = altB (t + k) i ∧ Bd gs ∧ Src a' b c' (n + 3 * i)
  | 0, k, a, c, n, fs, x5, x6, s, _, _ => ⟨a, c, [], x5, x6, by rw [List.map_nil, List.append_nil]; rfl, rfl, rfl, fun r h => (nomatch h), s.up (by omega)⟩
  | i + 1, k, a, c, n, fs, x5, x6, s, hn, hf => by
    obtain ⟨a1, c1, m, e1, h1, h2, s1⟩ := line_step (loopF (gNm 5) L_law_line_0 (rangeL (k + 1) i)) a b c n w t k s (by omega) hw hw2 fs (by omega) x1 x5 x6
    obtain ⟨a2, c2, gs, z5, z6, e2, g1, g2, g3, s2⟩ := line_loop x1 b w t hw hw2 i (k + 1) a1 c1 (n + 3) (fs ++ [runD (decide ((t + k) % 2 = 0), m)]) (some (.fz (.int k))) (some (.fz (.int m))) s1 (by omega) (by rw [List.length_append, List.length_cons, List.length_nil]; omega)
    refine ⟨a2, c2, (decide ((t + k) % 2 = 0), m) :: gs, z5, z6, ?_, by rw [List.length_cons, g1], ?_, ?_, s2.up (by omega)⟩
    · rw [rangeL_succ, loop_cons, e1, e2, List.append_assoc]
      rfl
    · rw [List.map_cons, g2]
      show _ = decide ((t + k) % 2 = 0) :: altB (t + k + 1) i
      rw [Int.add_assoc]
    · intro r hr
      rcases List.mem_cons.mp hr with rfl | hr
      · exact ⟨h1, h2⟩
      · exact g3 r hr
structure Line (l : Runs) : Prop where
  good : Good l
  ne : l ≠ []
  len : l.length ≤ 20
  bd : Bd l
theorem line_ok (a b c n most w : Int) (s : Src a b c n) (hn : n < 100000) (h1 : 0 < most) (h2 : most ≤ 20) (hw : 0 < w) (hw2 : w ≤ 1000000000000000000000000000000) :
    ∃ a' c' : Int, ∃ l : Runs, F_law_line [.io [.int a, .int b, .int c], .fz (.int most), .fz (.int w)] = .ret (.fz (.tup (l.map runD))) [some (.io [.int a', .int b, .int c']), none, none] ∧ Line l ∧ Src a' b c' (n + 100) := by
  obtain ⟨t, a1, c1, e1, g1, l1, s1⟩ := draw_src (k := 2) s (by omega) (by omega) (by omega)
  obtain ⟨r, a2, c2, e2, g2, l2, s2⟩ := draw_src (k := most) s1 (by omega) (by omega) (by omega)
  obtain ⟨a3, c3, l, z5, z6, e3, q1, q2, q3, s3⟩ := line_loop (some (.fz (.int most))) b w t hw hw2 (1 + r).toNat 0 a2 c2 (n + 1 + 1) [] none none s2 (by omega) (by simp; omega)
  refine ⟨a3, c3, l, ?_, ⟨⟨q3.ps, by rw [q2]; exact altB_alt _ _⟩, ?_, by omega, q3⟩, s3.up (by omega)⟩
  · rw [List.nil_append] at e3
    unfold F_law_line B_law_line
    revert e1 e2 e3
    generalize F_law_draw = f1
    generalize L_law_line_0 = f2
    generalize l.map runD = ld
    intro e1 e2 e3
    simp (maxSteps := 20000000) (disch := (first | assumption | omega | (simp only [List.length_cons, List.length_nil, List.length_append, List.length_map, SZ]; done) | (simp only [List.length_cons, List.length_nil, List.length_append, List.length_map, SZ]; omega))) only [ev_seq, ev_seq_nx, ev_seq_rt, ev_seq_ex, ev_seq_bk, ev_seq_ct, ev_nil, ev_pass, ev_break, ev_cont, ev_retN, ev_ret, ev_drop, ev_set, ev_raise, ev_if, ev_par, ev_par3, ev_toS_ok, ev_toS_ex, ev_toS_no, ev_bind_ok, ev_bind_ex, ev_bind_no, ev_it, ev_if_f, ev_C, ev_var, ev_var1, ev_var2, ev_mov, ev_mov1, ev_mov2, ev_okV_e, ev_okV_v, ev_okO, ev_run_e, ev_run_v, ev_get_d, ev_get_i, ev_getO, ev_d_fz, ev_d_ow, ev_d_io, ev_op2, ev_get2, ev_g2, ev_op1, ev_get1, ev_g1, ev_mk, ev_mk0, ev_opN, ev_all_nil, ev_all_cons, ev_runO_nil, ev_runO_cons, ev_getN, ev_gN, ev_getL_nil, ev_getL_cons, ev_gL, ev_runE_nil, ev_runE_cons, ev_tup, ev_lst, ev_mIf, ev_and, ev_or, ev_not, ev_blR, ev_toT, ev_blT, ev_okI, ev_okB, ev_tru, ev_mkT, ev_obind, ev_tru_bl, ev_andT, ev_orT, ev_notT, ev_chain, ev_chR, ev_fn, ev_of_nx, ev_of_rt, ev_of_ex, ev_outs0, ev_outs1, ev_ioE_n, ev_ioE_f, ev_ioE_o, ev_ioE_i, ev_call, ev_callK, ev_callR, ev_args_nil, ev_args_cons, ev_argC, ev_arg_d, ev_arg_i, ev_argO_f, ev_argO_o, ev_argO_i, ev_apart_nil, ev_apart_d, ev_apart_i, ev_any_nil, ev_any_cons, ev_at_d, ev_at_i, ev_ofF_ret, ev_ofF_exc, ev_back0, ev_back1, ev_b1n, ev_b1f, ev_b1o, ev_b1i, ev_bkO0, ev_bkO1, ev_bkI0, ev_bkI1, ev_look0, ev_look_d, ev_look_i, ev_join, ev_head, ev_tail, ev_call1, ev_go_o, ev_go_f, ev_of1_r, ev_of1_e, op_add_i, op_sub_i, op_iadd_i, op_mul_i, op_fdiv_i, op_mod_i, op_pow8_i, op_powL_i, op_lt_i, op_le_i, op_gt_i, op_ge_i, op_neg_i, op_eq_i, op_ne_i, op_eq_s, op_ne_s, op_is_n, op_len_l, op_len_t, op_len_s, op_abs_i, op_max_i, op_min_i, op_int_i, op_int_b, op_divmod_i, op_tup_l, op_tup_t, op_list_l, op_list_t, op_rev_l, op_rev_t, op_own_o, op_own_i, op_setix, op_setR, op_stN, op_as_o, op_as_i, op_isS, op_mut, op_mutR, op_mutS, op_asg_seq, op_asg_seql, op_asg_cons, op_asg_nil, op_asg_nm, op_asg, op_asgR, ixN_1_0, ixN_1_m1, ixN_2_0, ixN_2_1, ixN_2_m1, ixN_3_0, ixN_3_1, ixN_3_2, ixN_3_m1, ixN_4_0, ixN_4_1, ixN_4_2, ixN_4_3, ixN_4_m1, ixN_5_0, ixN_5_1, ixN_5_2, ixN_5_3, ixN_5_4, ixN_5_m1, ixN_6_0, ixN_6_1, ixN_6_2, ixN_6_3, ixN_6_4, ixN_6_5, ixN_6_m1, ixN_7_0, ixN_7_1, ixN_7_2, ixN_7_3, ixN_7_4, ixN_7_5, ixN_7_6, ixN_7_m1, ixN_8_0, ixN_8_1, ixN_8_2, ixN_8_3, ixN_8_4, ixN_8_5, ixN_8_6, ixN_8_7, ixN_8_m1, ixN_9_0, ixN_9_1, ixN_9_2, ixN_9_3, ixN_9_4, ixN_9_5, ixN_9_6, ixN_9_7, ixN_9_8, ixN_9_m1, ixN_10_0, ixN_10_1, ixN_10_2, ixN_10_3, ixN_10_4, ixN_10_5, ixN_10_6, ixN_10_7, ixN_10_8, ixN_10_9, ixN_10_m1, ixN_11_0, ixN_11_1, ixN_11_2, ixN_11_3, ixN_11_4, ixN_11_5, ixN_11_6, ixN_11_7, ixN_11_8, ixN_11_9, ixN_11_10, ixN_11_m1, ixN_12_0, ixN_12_1, ixN_12_2, ixN_12_3, ixN_12_4, ixN_12_5, ixN_12_6, ixN_12_7, ixN_12_8, ixN_12_9, ixN_12_10, ixN_12_11, ixN_12_m1, ixN_13_0, ixN_13_1, ixN_13_2, ixN_13_3, ixN_13_4, ixN_13_5, ixN_13_6, ixN_13_7, ixN_13_8, ixN_13_9, ixN_13_10, ixN_13_11, ixN_13_12, ixN_13_m1, ixN_14_0, ixN_14_1, ixN_14_2, ixN_14_3, ixN_14_4, ixN_14_5, ixN_14_6, ixN_14_7, ixN_14_8, ixN_14_9, ixN_14_10, ixN_14_11, ixN_14_12, ixN_14_13, ixN_14_m1, ixN_15_0, ixN_15_1, ixN_15_2, ixN_15_3, ixN_15_4, ixN_15_5, ixN_15_6, ixN_15_7, ixN_15_8, ixN_15_9, ixN_15_10, ixN_15_11, ixN_15_12, ixN_15_13, ixN_15_14, ixN_15_m1, ix_l0, ix_t0, ix_l1, ix_t1, ix_l2, ix_t2, ix_l3, ix_t3, ix_l4, ix_t4, ix_l5, ix_t5, ix_l6, ix_t6, ix_l7, ix_t7, ix_l8, ix_t8, ix_l9, ix_t9, ix_l10, ix_t10, ix_l11, ix_t11, ix_l12, ix_t12, ix_l13, ix_t13, ev_for, ev_iSeq, ev_mkI, ev_iter_l, ev_iter_t, ev_iter_s, ev_turn_nx, ev_turn_ct, ev_turn_bk, ev_turn_rt, ev_turn_ex, ev_loop0, ev_forR, ev_enum, ev_enumI, ev_zip, ev_wipe0, ev_wipe1, ev_un0, ev_un1, ev_unO_f, ev_unO_n, ev_comp, ev_lc0, ev_lcR0, ev_turnC, ev_tcR, ev_yes, ev_tryAs, ev_tryS_ex, ev_tryS_nx, ev_tryS_rt, ev_tryR, ev_gone_nx, ev_gone_rt, ev_nest, ev_isE, ev_sl, ev_part0, ev_part1, ev_partR, ev_sl_t, ev_sl_l, ev_cast0, ev_cast1, ev_cast2, ev_cast3, ev_cast4, ev_cast5, ev_cast6, ev_cast7, ev_cast8, ev_cast9, ev_cast10, ev_cast11, ev_cast12, ev_cast13, ev_cast14, ev_cast15, ev_cast16, ev_cast17, ev_cast18, ev_cast19, ev_cast20, ev_isi_tt, ev_isi_ti, ev_is_t, ev_isnot_t, ev_isnot_n, ev_zip_tt, ev_zip_ll, op_eqs, op_nes, ev_aug, ev_augR, ev_augS, ev_try, ev_tryT_ex, ev_tryT_nx, ev_tryT_rt, ev_tryT_bk, ev_tryT_ct, ev_tryU, ev_tryU0, ev_cold_nx, ev_cold_rt, back_eq, wipe_eq, unwipe_eq, List.getElem?_cons_zero, List.getElem?_cons_succ, List.set_cons_zero, List.set_cons_succ, Bool.and_true, Bool.true_and, Bool.or_true, Bool.true_or, Bool.or_false, Bool.false_or, Bool.and_false, Bool.false_and, Bool.not_true, Bool.not_false, List.length_cons, List.length_nil, List.map_cons, List.map_nil, List.replicate_succ, List.replicate_zero, List.cons_append, List.nil_append, if_true, if_false, Nat.reduceAdd, Nat.reduceEqDiff, beq_self_eq_true, reduceIte, Nat.zero_add, eq_self, SZ, List.contains_cons, List.contains_nil, Nat.reduceBEq, Nat.reduceLT, Nat.reduceLeDiff, Int.reduceToNat, Int.reducePow, Int.reduceAdd, Int.reduceSub, Int.reduceMul, Int.reduceNeg, Int.reduceLT, Int.reduceLE, Int.reduceEq, Int.reduceDiv, Int.reduceMod, Option.map_some, Option.map_none, cut1, rg1_eq, rb1_ok, rg2_eq, rb2_ok, bk_d0, bk_d1, bk_d2, bk_d3, bk_d4, bk_i0, bk_i1, bk_i2, bk_i3, e1, e2, e3]
  · intro z
    rw [z] at q1
    simp at q1
    omega
end G

namespace G
open PySem PySem.Spec PyProof.Rows L2 Mi
theorem ix_LRw (w : Int) (h1 : 0 ≤ w) (h2 : w < 2) : ixD (.str "LR") (.int w) = some (.fz (sdD (decide (w = 0)))) := by
  rcases (show w = 0 ∨ w = 1 by omega) with rfl | rfl <;> kernel_rfl
theorem sides_step (kk : Mi.Env → SR) (a b c n w t k : Int) (s : Src a b c n) (hn : n < 1000000) (hw : 0 ≤ w) (hw2 : w < 4) (ht : 0 ≤ t) (ht2 : t < 2) (fs : List D) (hf : fs.length < 1000) (x1 x5 : Option Sl) :
    ∃ a' c' t' : Int, forR L_law_sides_0 kk (gNm 5 (.int k) [some (.io [.int a, .int b, .int c]), x1, some (.fz (.int w)), some (.fz (.int t)), some (.ow fs), x5]) = kk [some (.io [.int a', .int b, .int c']), x1, some (.fz (.int w)), some (.fz (.int t')), some (.ow (fs ++ [sdD (decide (t' = 0))])), some (.fz (.int k))] ∧ 0 ≤ t' ∧ t' < 2 ∧ Src a' b c' (n + 2) := by
  obtain ⟨r1, a1, c1, e1, g1, l1, s1⟩ := draw_src (k := 2) s (by omega) (by omega) (by omega)
  obtain ⟨r2, a2, c2, e2, g2, l2, s2⟩ := draw_src (k := 4) s1 (by omega) (by omega) (by omega)
  obtain ⟨z, hz⟩ : ∃ z, (t + (if (decide (r2 = 0)) = true then 1 else 0)) % 2 = z := ⟨_, rfl⟩
  have hz2 : 0 ≤ z ∧ z < 2 := by rw [← hz]; omega
  obtain ⟨m, em, hm⟩ := pick4i r1 z t (1 - t) w hw hw2
  have ex := ix_LRw m (by omega) (by omega)
  have ea : fAppend fs [sdD (decide (m = 0))] = some (.non, fs ++ [sdD (decide (m = 0))]) := op_append (by unfold SZ; omega)
  refine ⟨a2, c2, m, ?_, by omega, by omega, s2.up (by omega)⟩
  unfold L_law_sides_0
  revert e1 e2 ex ea
  generalize F_law_draw = f1
  generalize sdD (decide (m = 0)) = sd
  intro e1 e2 ex ea
  simp (maxSteps := 20000000) (disch := (first | assumption | omega | (simp only [List.length_cons, List.length_nil, List.length_append, List.length_map, SZ]; done) | (simp only [List.length_cons, List.length_nil, List.length_append, List.length_map, SZ]; omega))) only [ev_seq, ev_seq_nx, ev_seq_rt, ev_seq_ex, ev_seq_bk, ev_seq_ct, ev_nil, ev_pass, ev_break, ev_cont, ev_retN, ev_ret, ev_drop, ev_set, ev_raise, ev_if, ev_par, ev_par3, ev_toS_ok, ev_toS_ex, ev_toS_no, ev_bind_ok, ev_bind_ex, ev_bind_no, ev_it, ev_if_f, ev_C, ev_var, ev_var1, ev_var2, ev_mov, ev_mov1, ev_mov2, ev_okV_e, ev_okV_v, ev_okO, ev_run_e, ev_run_v, ev_get_d, ev_get_i, ev_getO, ev_d_fz, ev_d_ow, ev_d_io, ev_op2, ev_get2, ev_g2, ev_op1, ev_get1, ev_g1, ev_mk, ev_mk0, ev_opN, ev_all_nil, ev_all_cons, ev_runO_nil, ev_runO_cons, ev_getN, ev_gN, ev_getL_nil, ev_getL_cons, ev_gL, ev_runE_nil, ev_runE_cons, ev_tup, ev_lst, ev_mIf, ev_and, ev_or, ev_not, ev_blR, ev_toT, ev_blT, ev_okI, ev_okB, ev_tru, ev_mkT, ev_obind, ev_tru_bl, ev_andT, ev_orT, ev_notT, ev_chain, ev_chR, ev_fn, ev_of_nx, ev_of_rt, ev_of_ex, ev_outs0, ev_outs1, ev_ioE_n, ev_ioE_f, ev_ioE_o, ev_ioE_i, ev_call, ev_callK, ev_callR, ev_args_nil, ev_args_cons, ev_argC, ev_arg_d, ev_arg_i, ev_argO_f, ev_argO_o, ev_argO_i, ev_apart_nil, ev_apart_d, ev_apart_i, ev_any_nil, ev_any_cons, ev_at_d, ev_at_i, ev_ofF_ret, ev_ofF_exc, ev_back0, ev_back1, ev_b1n, ev_b1f, ev_b1o, ev_b1i, ev_bkO0, ev_bkO1, ev_bkI0, ev_bkI1, ev_look0, ev_look_d, ev_look_i, ev_join, ev_head, ev_tail, ev_call1, ev_go_o, ev_go_f, ev_of1_r, ev_of1_e, op_add_i, op_sub_i, op_iadd_i, op_mul_i, op_fdiv_i, op_mod_i, op_pow8_i, op_powL_i, op_lt_i, op_le_i, op_gt_i, op_ge_i, op_neg_i, op_eq_i, op_ne_i, op_eq_s, op_ne_s, op_is_n, op_len_l, op_len_t, op_len_s, op_abs_i, op_max_i, op_min_i, op_int_i, op_int_b, op_divmod_i, op_tup_l, op_tup_t, op_list_l, op_list_t, op_rev_l, op_rev_t, op_own_o, op_own_i, op_setix, op_setR, op_stN, op_as_o, op_as_i, op_isS, op_mut, op_mutR, op_mutS, op_asg_seq, op_asg_seql, op_asg_cons, op_asg_nil, op_asg_nm, op_asg, op_asgR, ixN_1_0, ixN_1_m1, ixN_2_0, ixN_2_1, ixN_2_m1, ixN_3_0, ixN_3_1, ixN_3_2, ixN_3_m1, ixN_4_0, ixN_4_1, ixN_4_2, ixN_4_3, ixN_4_m1, ixN_5_0, ixN_5_1, ixN_5_2, ixN_5_3, ixN_5_4, ixN_5_m1, ixN_6_0, ixN_6_1, ixN_6_2, ixN_6_3, ixN_6_4, ixN_6_5, ixN_6_m1, ixN_7_0, ixN_7_1, ixN_7_2, ixN_7_3, ixN_7_4, ixN_7_5, ixN_7_6, ixN_7_m1, ixN_8_0, ixN_8_1, ixN_8_2, ixN_8_3, ixN_8_4, ixN_8_5, ixN_8_6, ixN_8_7, ixN_8_m1, ixN_9_0, ixN_9_1, ixN_9_2, ixN_9_3, ixN_9_4, ixN_9_5, ixN_9_6, ixN_9_7, ixN_9_8, ixN_9_m1, ixN_10_0, ixN_10_1, ixN_10_2, ixN_10_3, ixN_10_4, ixN_10_5, ixN_10_6, ixN_10_7, ixN_10_8, ixN_10_9, ixN_10_m1, ixN_11_0, ixN_11_1, ixN_11_2, ixN_11_3, ixN_11_4, ixN_11_5, ixN_11_6, ixN_11_7, ixN_11_8, ixN_11_9, ixN_11_10, ixN_11_m1, ixN_12_0, ixN_12_1, ixN_12_2, ixN_12_3, ixN_12_4, ixN_12_5, ixN_12_6, ixN_12_7, ixN_12_8, ixN_12_9, ixN_12_10, ixN_12_11, ixN_12_m1, ixN_13_0, ixN_13_1, ixN_13_2, ixN_13_3, ixN_13_4, ixN_13_5, ixN_13_6, ixN_13_7, ixN_13_8, ixN_13_9, ixN_13_10, ixN_13_11, ixN_13_12, ixN_13_m1, ixN_14_0, ixN_14_1, ixN_14_2, ixN_14_3, ixN_14_4, ixN_14_5, ixN_14_6, ixN_14_7, ixN_14_8, ixN_14_9, ixN_14_10, ixN_14_11, ixN_14_12, ixN_14_13, ixN_14_m1, ixN_15_0, ixN_15_1, ixN_15_2, ixN_15_3, ixN_15_4, ixN_15_5, ixN_15_6, ixN_15_7, ixN_15_8, ixN_15_9, ixN_15_10, ixN_15_11, ixN_15_12, ixN_15_13, ixN_15_14, ixN_15_m1, ix_l0, ix_t0, ix_l1, ix_t1, ix_l2, ix_t2, ix_l3, ix_t3, ix_l4, ix_t4, ix_l5, ix_t5, ix_l6, ix_t6, ix_l7, ix_t7, ix_l8, ix_t8, ix_l9, ix_t9, ix_l10, ix_t10, ix_l11, ix_t11, ix_l12, ix_t12, ix_l13, ix_t13, ev_for, ev_iSeq, ev_mkI, ev_iter_l, ev_iter_t, ev_iter_s, ev_turn_nx, ev_turn_ct, ev_turn_bk, ev_turn_rt, ev_turn_ex, ev_loop0, ev_forR, ev_enum, ev_enumI, ev_zip, ev_wipe0, ev_wipe1, ev_un0, ev_un1, ev_unO_f, ev_unO_n, ev_comp, ev_lc0, ev_lcR0, ev_turnC, ev_tcR, ev_yes, ev_tryAs, ev_tryS_ex, ev_tryS_nx, ev_tryS_rt, ev_tryR, ev_gone_nx, ev_gone_rt, ev_nest, ev_isE, ev_sl, ev_part0, ev_part1, ev_partR, ev_sl_t, ev_sl_l, ev_cast0, ev_cast1, ev_cast2, ev_cast3, ev_cast4, ev_cast5, ev_cast6, ev_cast7, ev_cast8, ev_cast9, ev_cast10, ev_cast11, ev_cast12, ev_cast13, ev_cast14, ev_cast15, ev_cast16, ev_cast17, ev_cast18, ev_cast19, ev_cast20, ev_isi_tt, ev_isi_ti, ev_is_t, ev_isnot_t, ev_isnot_n, ev_zip_tt, ev_zip_ll, op_eqs, op_nes, ev_aug, ev_augR, ev_augS, ev_try, ev_tryT_ex, ev_tryT_nx, ev_tryT_rt, ev_tryT_bk, ev_tryT_ct, ev_tryU, ev_tryU0, ev_cold_nx, ev_cold_rt, back_eq, wipe_eq, unwipe_eq, List.getElem?_cons_zero, List.getElem?_cons_succ, List.set_cons_zero, List.set_cons_succ, Bool.and_true, Bool.true_and, Bool.or_true, Bool.true_or, Bool.or_false, Bool.false_or, Bool.and_false, Bool.false_and, Bool.not_true, Bool.not_false, List.length_cons, List.length_nil, List.map_cons, List.map_nil, List.replicate_succ, List.replicate_zero, List.cons_append, List.nil_append, if_true, if_false, Nat.reduceAdd, Nat.reduceEqDiff, beq_self_eq_true, reduceIte, Nat.zero_add, eq_self, SZ, List.contains_cons, List.contains_nil, Nat.reduceBEq, Nat.reduceLT, Nat.reduceLeDiff, Int.reduceToNat, Int.reducePow, Int.reduceAdd, Int.reduceSub, Int.reduceMul, Int.reduceNeg, Int.reduceLT, Int.reduceLE, Int.reduceEq, Int.reduceDiv, Int.reduceMod, Option.map_some, Option.map_none, cut1, rg1_eq, rb1_ok, rg2_eq, rb2_ok, bk_d0, bk_d1, bk_d2, bk_d3, bk_d4, bk_i0, bk_i1, bk_i2, bk_i3, e1, e2, hz, em, ex, ea]
theorem sides_loop (x1 : Option Sl) (b w : Int) (hw : 0 ≤ w) (hw2 : w < 4) : ∀ (i : Nat) (k a c n t : Int) (fs : List D) (x5 : Option Sl), Src a b c n → 0 ≤ t → t < 2 → n + 2 * i < 1000000 → fs.length + i < 1000 →
    ∃ a' c' t' : Int, ∃ s : List Bool, ∃ z5, loopF (gNm 5) L_law_sides_0 (rangeL k i) [some (.io [.int a, .int b, .int c]), x1, some (.fz (.int w)), some (.fz (.int t)), some (.ow fs), x5] = .nx [some (.io [.int a', .int b, .int c']), x1, some (.fz (.int w)), some (.fz (.int t')), some (.ow (fs ++ s.map sdD)), z5] ∧ s.length = i ∧ Src a' b c' (n + 2 * i)
  | 0, k, a, c, n, t, fs, x5, s, _, _, _, _ => ⟨a, c, t, [], x5, by rw [List.map_nil, List.append_nil]; rfl, rfl, s.up (by omega)⟩
  | i + 1, k, a, c, n, t, fs, x5, s, h1, h2, hn, hf => by
    obtain ⟨a1, c1, t1, e1, g1, g2, s1⟩ := sides_step (loopF (gNm 5) L_law_sides_0 (rangeL (k + 1) i)) a b c n w t k s (by omega) hw hw2 h1 h2 fs (by omega) x1 x5
    obtain ⟨a2, c2, t2, ss, z5, e2, g3, s2⟩ := sides_loop x1 b w hw hw2 i (k + 1) a1 c1 (n + 2) t1 (fs ++ [sdD (decide (t1 = 0))]) (some (.fz (.int k))) s1 g1 g2 (by omega) (by rw [List.length_append, List.length_cons, List.length_nil]; omega)
    refine ⟨a2, c2, t2, decide (t1 = 0) :: ss, z5, ?_, by rw [List.length_cons, g3], s2.up (by omega)⟩
    rw [rangeL_succ, loop_cons, e1, e2, List.append_assoc]
    rfl
theorem sides_ok (a b c n : Int) (s : Src a b c n) (hn : n < 100000) :
    ∃ a' c' : Int, ∃ ss : List Bool, F_law_sides [.io [.int a, .int b, .int c], .fz (.int 14)] = .ret (.ow (ss.map sdD)) [some (.io [.int a', .int b, .int c']), none] ∧ 1 ≤ ss.length ∧ ss.length ≤ 14 ∧ Src a' b c' (n + 100) := by
  obtain ⟨w, a1, c1, e1, g1, l1, s1⟩ := draw_src (k := 4) s (by omega) (by omega) (by omega)
  obtain ⟨t, a2, c2, e2, g2, l2, s2⟩ := draw_src (k := 2) s1 (by omega) (by omega) (by omega)
  obtain ⟨r, a3, c3, e3, g3, l3, s3⟩ := draw_src (k := 14) s2 (by omega) (by omega) (by omega)
  obtain ⟨a4, c4, t4, ss, z5, e4, q1, s4⟩ := sides_loop (some (.fz (.int 14))) b w g1 l1 (1 + r).toNat 0 a3 c3 (n + 1 + 1 + 1) t [] none s3 g2 l2 (by omega) (by simp; omega)
  refine ⟨a4, c4, ss, ?_, by omega, by omega, s4.up (by omega)⟩
  rw [List.nil_append] at e4
  unfold F_law_sides B_law_sides
  revert e1 e2 e3 e4
  generalize F_law_draw = f1
  generalize L_law_sides_0 = f2
  generalize ss.map sdD = sd
  intro e1 e2 e3 e4
  simp (maxSteps := 20000000) (disch := (first | assumption | omega | (simp only [List.length_cons, List.length_nil, List.length_append, List.length_map, SZ]; done) | (simp only [List.length_cons, List.length_nil, List.length_append, List.length_map, SZ]; omega))) only [ev_seq, ev_seq_nx, ev_seq_rt, ev_seq_ex, ev_seq_bk, ev_seq_ct, ev_nil, ev_pass, ev_break, ev_cont, ev_retN, ev_ret, ev_drop, ev_set, ev_raise, ev_if, ev_par, ev_par3, ev_toS_ok, ev_toS_ex, ev_toS_no, ev_bind_ok, ev_bind_ex, ev_bind_no, ev_it, ev_if_f, ev_C, ev_var, ev_var1, ev_var2, ev_mov, ev_mov1, ev_mov2, ev_okV_e, ev_okV_v, ev_okO, ev_run_e, ev_run_v, ev_get_d, ev_get_i, ev_getO, ev_d_fz, ev_d_ow, ev_d_io, ev_op2, ev_get2, ev_g2, ev_op1, ev_get1, ev_g1, ev_mk, ev_mk0, ev_opN, ev_all_nil, ev_all_cons, ev_runO_nil, ev_runO_cons, ev_getN, ev_gN, ev_getL_nil, ev_getL_cons, ev_gL, ev_runE_nil, ev_runE_cons, ev_tup, ev_lst, ev_mIf, ev_and, ev_or, ev_not, ev_blR, ev_toT, ev_blT, ev_okI, ev_okB, ev_tru, ev_mkT, ev_obind, ev_tru_bl, ev_andT, ev_orT, ev_notT, ev_chain, ev_chR, ev_fn, ev_of_nx, ev_of_rt, ev_of_ex, ev_outs0, ev_outs1, ev_ioE_n, ev_ioE_f, ev_ioE_o, ev_ioE_i, ev_call, ev_callK, ev_callR, ev_args_nil, ev_args_cons, ev_argC, ev_arg_d, ev_arg_i, ev_argO_f, ev_argO_o, ev_argO_i, ev_apart_nil, ev_apart_d, ev_apart_i, ev_any_nil, ev_any_cons, ev_at_d, ev_at_i, ev_ofF_ret, ev_ofF_exc, ev_back0, ev_back1, ev_b1n, ev_b1f, ev_b1o, ev_b1i, ev_bkO0, ev_bkO1, ev_bkI0, ev_bkI1, ev_look0, ev_look_d, ev_look_i, ev_join, ev_head, ev_tail, ev_call1, ev_go_o, ev_go_f, ev_of1_r, ev_of1_e, op_add_i, op_sub_i, op_iadd_i, op_mul_i, op_fdiv_i, op_mod_i, op_pow8_i, op_powL_i, op_lt_i, op_le_i, op_gt_i, op_ge_i, op_neg_i, op_eq_i, op_ne_i, op_eq_s, op_ne_s, op_is_n, op_len_l, op_len_t, op_len_s, op_abs_i, op_max_i, op_min_i, op_int_i, op_int_b, op_divmod_i, op_tup_l, op_tup_t, op_list_l, op_list_t, op_rev_l, op_rev_t, op_own_o, op_own_i, op_setix, op_setR, op_stN, op_as_o, op_as_i, op_isS, op_mut, op_mutR, op_mutS, op_asg_seq, op_asg_seql, op_asg_cons, op_asg_nil, op_asg_nm, op_asg, op_asgR, ixN_1_0, ixN_1_m1, ixN_2_0, ixN_2_1, ixN_2_m1, ixN_3_0, ixN_3_1, ixN_3_2, ixN_3_m1, ixN_4_0, ixN_4_1, ixN_4_2, ixN_4_3, ixN_4_m1, ixN_5_0, ixN_5_1, ixN_5_2, ixN_5_3, ixN_5_4, ixN_5_m1, ixN_6_0, ixN_6_1, ixN_6_2, ixN_6_3, ixN_6_4, ixN_6_5, ixN_6_m1, ixN_7_0, ixN_7_1, ixN_7_2, ixN_7_3, ixN_7_4, ixN_7_5, ixN_7_6, ixN_7_m1, ixN_8_0, ixN_8_1, ixN_8_2, ixN_8_3, ixN_8_4, ixN_8_5, ixN_8_6, ixN_8_7, ixN_8_m1, ixN_9_0, ixN_9_1, ixN_9_2, ixN_9_3, ixN_9_4, ixN_9_5, ixN_9_6, ixN_9_7, ixN_9_8, ixN_9_m1, ixN_10_0, ixN_10_1, ixN_10_2, ixN_10_3, ixN_10_4, ixN_10_5, ixN_10_6, ixN_10_7, ixN_10_8, ixN_10_9, ixN_10_m1, ixN_11_0, ixN_11_1, ixN_11_2, ixN_11_3, ixN_11_4, ixN_11_5, ixN_11_6, ixN_11_7, ixN_11_8, ixN_11_9, ixN_11_10, ixN_11_m1, ixN_12_0, ixN_12_1, ixN_12_2, ixN_12_3, ixN_12_4, ixN_12_5, ixN_12_6, ixN_12_7, ixN_12_8, ixN_12_9, ixN_12_10, ixN_12_11, ixN_12_m1, ixN_13_0, ixN_13_1, ixN_13_2, ixN_13_3, ixN_13_4, ixN_13_5, ixN_13_6, ixN_13_7, ixN_13_8, ixN_13_9, ixN_13_10, ixN_13_11, ixN_13_12, ixN_13_m1, ixN_14_0, ixN_14_1, ixN_14_2, ixN_14_3, ixN_14_4, ixN_14_5, ixN_14_6, ixN_14_7, ixN_14_8, ixN_14_9, ixN_14_10, ixN_14_11, ixN_14_12, ixN_14_13, ixN_14_m1, ixN_15_0, ixN_15_1, ixN_15_2, ixN_15_3, ixN_15_4, ixN_15_5, ixN_15_6, ixN_15_7, ixN_15_8, ixN_15_9, ixN_15_10, ixN_15_11, ixN_15_12, ixN_15_13, ixN_15_14, ixN_15_m1, ix_l0, ix_t0, ix_l1, ix_t1, ix_l2, ix_t2, ix_l3, ix_t3, ix_l4, ix_t4, ix_l5, ix_t5, ix_l6, ix_t6, ix_l7, ix_t7, ix_l8, ix_t8, ix_l9, ix_t9, ix_l10, ix_t10, ix_l11, ix_t11, ix_l12, ix_t12, ix_l13, ix_t13, ev_for, ev_iSeq, ev_mkI, ev_iter_l, ev_iter_t, ev_iter_s, ev_turn_nx, ev_turn_ct, ev_turn_bk, ev_turn_rt, ev_turn_ex, ev_loop0, ev_forR, ev_enum, ev_enumI, ev_zip, ev_wipe0, ev_wipe1, ev_un0, ev_un1, ev_unO_f, ev_unO_n, ev_comp, ev_lc0, ev_lcR0, ev_turnC, ev_tcR, ev_yes, ev_tryAs, ev_tryS_ex, ev_tryS_nx, ev_tryS_rt, ev_tryR, ev_gone_nx, ev_gone_rt, ev_nest, ev_isE, ev_sl, ev_part0, ev_part1, ev_partR, ev_sl_t, ev_sl_l, ev_cast0, ev_cast1, ev_cast2, ev_cast3, ev_cast4, ev_cast5, ev_cast6, ev_cast7, ev_cast8, ev_cast9, ev_cast10, ev_cast11, ev_cast12, ev_cast13, ev_cast14, ev_cast15, ev_cast16, ev_cast17, ev_cast18, ev_cast19, ev_cast20, ev_isi_tt, ev_isi_ti, ev_is_t, ev_isnot_t, ev_isnot_n, ev_zip_tt, ev_zip_ll, op_eqs, op_nes, ev_aug, ev_augR, ev_augS, ev_try, ev_tryT_ex, ev_tryT_nx, ev_tryT_rt, ev_tryT_bk, ev_tryT_ct, ev_tryU, ev_tryU0, ev_cold_nx, ev_cold_rt, back_eq, wipe_eq, unwipe_eq, List.getElem?_cons_zero, List.getElem?_cons_succ, List.set_cons_zero, List.set_cons_succ, Bool.and_true, Bool.true_and, Bool.or_true, Bool.true_or, Bool.or_false, Bool.false_or, Bool.and_false, Bool.false_and, Bool.not_true, Bool.not_false, List.length_cons, List.length_nil, List.map_cons, List.map_nil, List.replicate_succ, List.replicate_zero, List.cons_append, List.nil_append, if_true, if_false, Nat.reduceAdd, Nat.reduceEqDiff, beq_self_eq_true, reduceIte, Nat.zero_add, eq_self, SZ, List.contains_cons, List.contains_nil, Nat.reduceBEq, Nat.reduceLT, Nat.reduceLeDiff, Int.reduceToNat, Int.reducePow, Int.reduceAdd, Int.reduceSub, Int.reduceMul, Int.reduceNeg, Int.reduceLT, Int.reduceLE, Int.reduceEq, Int.reduceDiv, Int.reduceMod, Option.map_some, Option.map_none, cut1, rg1_eq, rb1_ok, rg2_eq, rb2_ok, bk_d0, bk_d1, bk_d2, bk_d3, bk_d4, bk_i0, bk_i1, bk_i2, bk_i3, e1, e2, e3, e4]
/-! ### packed -/
theorem packed_step (q : Bool) (fs : Runs) (x0 y2 : Option Sl) (kk : Mi.Env → SR) (h : fs.length < 1000) :
    forR L_law_packed_0 kk (gNm 2 (sdD q) [x0, some (.ow (fs.map runD)), y2]) = kk [x0, some (.ow ((jstep fs (q, 1)).map runD)), some (.fz (sdD q))] := by
  have es : sdD q = .str (sideS q) := rfl
  have hlen : (fs.map runD).length < SZ := by
    rw [List.length_map]
    unfold SZ
    omega
  unfold L_law_packed_0
  rcases List.eq_nil_or_concat fs with rfl | ⟨gs, ⟨p, n⟩, rfl⟩
  · have e1 := ne_nil []
    have e2 : fAppend [] [.tup [.str (sideS q), .int 1]] = some (.non, [.tup [.str (sideS q), .int 1]]) := op_append (by unfold SZ; decide)
    rw [List.map_nil] at e1
    rw [jstep_nil (by decide), es]
    simp (maxSteps := 20000000) (disch := (first | assumption | omega | (simp only [List.length_cons, List.length_nil, List.length_append, List.length_map, SZ]; done) | (simp only [List.length_cons, List.length_nil, List.length_append, List.length_map, SZ]; omega))) only [ev_seq, ev_seq_nx, ev_seq_rt, ev_seq_ex, ev_seq_bk, ev_seq_ct, ev_nil, ev_pass, ev_break, ev_cont, ev_retN, ev_ret, ev_drop, ev_set, ev_raise, ev_if, ev_par, ev_par3, ev_toS_ok, ev_toS_ex, ev_toS_no, ev_bind_ok, ev_bind_ex, ev_bind_no, ev_it, ev_if_f, ev_C, ev_var, ev_var1, ev_var2, ev_mov, ev_mov1, ev_mov2, ev_okV_e, ev_okV_v, ev_okO, ev_run_e, ev_run_v, ev_get_d, ev_get_i, ev_getO, ev_d_fz, ev_d_ow, ev_d_io, ev_op2, ev_get2, ev_g2, ev_op1, ev_get1, ev_g1, ev_mk, ev_mk0, ev_opN, ev_all_nil, ev_all_cons, ev_runO_nil, ev_runO_cons, ev_getN, ev_gN, ev_getL_nil, ev_getL_cons, ev_gL, ev_runE_nil, ev_runE_cons, ev_tup, ev_lst, ev_mIf, ev_and, ev_or, ev_not, ev_blR, ev_toT, ev_blT, ev_okI, ev_okB, ev_tru, ev_mkT, ev_obind, ev_tru_bl, ev_andT, ev_orT, ev_notT, ev_chain, ev_chR, ev_fn, ev_of_nx, ev_of_rt, ev_of_ex, ev_outs0, ev_outs1, ev_ioE_n, ev_ioE_f, ev_ioE_o, ev_ioE_i, ev_call, ev_callK, ev_callR, ev_args_nil, ev_args_cons, ev_argC, ev_arg_d, ev_arg_i, ev_argO_f, ev_argO_o, ev_argO_i, ev_apart_nil, ev_apart_d, ev_apart_i, ev_any_nil, ev_any_cons, ev_at_d, ev_at_i, ev_ofF_ret, ev_ofF_exc, ev_back0, ev_back1, ev_b1n, ev_b1f, ev_b1o, ev_b1i, ev_bkO0, ev_bkO1, ev_bkI0, ev_bkI1, ev_look0, ev_look_d, ev_look_i, ev_join, ev_head, ev_tail, ev_call1, ev_go_o, ev_go_f, ev_of1_r, ev_of1_e, op_add_i, op_sub_i, op_iadd_i, op_mul_i, op_fdiv_i, op_mod_i, op_pow8_i, op_powL_i, op_lt_i, op_le_i, op_gt_i, op_ge_i, op_neg_i, op_eq_i, op_ne_i, op_eq_s, op_ne_s, op_is_n, op_len_l, op_len_t, op_len_s, op_abs_i, op_max_i, op_min_i, op_int_i, op_int_b, op_divmod_i, op_tup_l, op_tup_t, op_list_l, op_list_t, op_rev_l, op_rev_t, op_own_o, op_own_i, op_setix, op_setR, op_stN, op_as_o, op_as_i, op_isS, op_mut, op_mutR, op_mutS, op_asg_seq, op_asg_seql, op_asg_cons, op_asg_nil, op_asg_nm, op_asg, op_asgR, ixN_1_0, ixN_1_m1, ixN_2_0, ixN_2_1, ixN_2_m1, ixN_3_0, ixN_3_1, ixN_3_2, ixN_3_m1, ixN_4_0, ixN_4_1, ixN_4_2, ixN_4_3, ixN_4_m1, ixN_5_0, ixN_5_1, ixN_5_2, ixN_5_3, ixN_5_4, ixN_5_m1, ixN_6_0, ixN_6_1, ixN_6_2, ixN_6_3, ixN_6_4, ixN_6_5, ixN_6_m1, ixN_7_0, ixN_7_1, ixN_7_2, ixN_7_3, ixN_7_4, ixN_7_5, ixN_7_6, ixN_7_m1, ixN_8_0, ixN_8_1, ixN_8_2, ixN_8_3, ixN_8_4, ixN_8_5, ixN_8_6, ixN_8_7, ixN_8_m1, ixN_9_0, ixN_9_1, ixN_9_2, ixN_9_3, ixN_9_4, ixN_9_5, ixN_9_6, ixN_9_7, ixN_9_8, ixN_9_m1, ixN_10_0, ixN_10_1, ixN_10_2, ixN_10_3, ixN_10_4, ixN_10_5, ixN_10_6, ixN_10_7, ixN_10_8, ixN_10_9, ixN_10_m1, ixN_11_0, ixN_11_1, ixN_11_2, ixN_11_3, ixN_11_4, ixN_11_5, ixN_11_6, ixN_11_7, ixN_11_8, ixN_11_9, ixN_11_10, ixN_11_m1, ixN_12_0, ixN_12_1, ixN_12_2, ixN_12_3, ixN_12_4, ixN_12_5, ixN_12_6, ixN_12_7, ixN_12_8, ixN_12_9, ixN_12_10, ixN_12_11, ixN_12_m1, ixN_13_0, ixN_13_1, ixN_13_2, ixN_13_3, ixN_13_4, ixN_13_5, ixN_13_6, ixN_13_7, ixN_13_8, ixN_13_9, ixN_13_10, ixN_13_11, ixN_13_12, ixN_13_m1, ixN_14_0, ixN_14_1, ixN_14_2, ixN_14_3, ixN_14_4, ixN_14_5, ixN_14_6, ixN_14_7, ixN_14_8, ixN_14_9, ixN_14_10, ixN_14_11, ixN_14_12, ixN_14_13, ixN_14_m1, ixN_15_0, ixN_15_1, ixN_15_2, ixN_15_3, ixN_15_4, ixN_15_5, ixN_15_6, ixN_15_7, ixN_15_8, ixN_15_9, ixN_15_10, ixN_15_11, ixN_15_12, ixN_15_13, ixN_15_14, ixN_15_m1, ix_l0, ix_t0, ix_l1, ix_t1, ix_l2, ix_t2, ix_l3, ix_t3, ix_l4, ix_t4, ix_l5, ix_t5, ix_l6, ix_t6, ix_l7, ix_t7, ix_l8, ix_t8, ix_l9, ix_t9, ix_l10, ix_t10, ix_l11, ix_t11, ix_l12, ix_t12, ix_l13, ix_t13, ev_for, ev_iSeq, ev_mkI, ev_iter_l, ev_iter_t, ev_iter_s, ev_turn_nx, ev_turn_ct, ev_turn_bk, ev_turn_rt, ev_turn_ex, ev_loop0, ev_forR, ev_enum, ev_enumI, ev_zip, ev_wipe0, ev_wipe1, ev_un0, ev_un1, ev_unO_f, ev_unO_n, ev_comp, ev_lc0, ev_lcR0, ev_turnC, ev_tcR, ev_yes, ev_tryAs, ev_tryS_ex, ev_tryS_nx, ev_tryS_rt, ev_tryR, ev_gone_nx, ev_gone_rt, ev_nest, ev_isE, ev_sl, ev_part0, ev_part1, ev_partR, ev_sl_t, ev_sl_l, ev_cast0, ev_cast1, ev_cast2, ev_cast3, ev_cast4, ev_cast5, ev_cast6, ev_cast7, ev_cast8, ev_cast9, ev_cast10, ev_cast11, ev_cast12, ev_cast13, ev_cast14, ev_cast15, ev_cast16, ev_cast17, ev_cast18, ev_cast19, ev_cast20, ev_isi_tt, ev_isi_ti, ev_is_t, ev_isnot_t, ev_isnot_n, ev_zip_tt, ev_zip_ll, op_eqs, op_nes, ev_aug, ev_augR, ev_augS, ev_try, ev_tryT_ex, ev_tryT_nx, ev_tryT_rt, ev_tryT_bk, ev_tryT_ct, ev_tryU, ev_tryU0, ev_cold_nx, ev_cold_rt, back_eq, wipe_eq, unwipe_eq, List.getElem?_cons_zero, List.getElem?_cons_succ, List.set_cons_zero, List.set_cons_succ, Bool.and_true, Bool.true_and, Bool.or_true, Bool.true_or, Bool.or_false, Bool.false_or, Bool.and_false, Bool.false_and, Bool.not_true, Bool.not_false, List.length_cons, List.length_nil, List.map_cons, List.map_nil, List.replicate_succ, List.replicate_zero, List.cons_append, List.nil_append, if_true, if_false, Nat.reduceAdd, Nat.reduceEqDiff, beq_self_eq_true, reduceIte, Nat.zero_add, eq_self, SZ, List.contains_cons, List.contains_nil, Nat.reduceBEq, Nat.reduceLT, Nat.reduceLeDiff, Int.reduceToNat, Int.reducePow, Int.reduceAdd, Int.reduceSub, Int.reduceMul, Int.reduceNeg, Int.reduceLT, Int.reduceLE, Int.reduceEq, Int.reduceDiv, Int.reduceMod, Option.map_some, Option.map_none, cut1, rg1_eq, rb1_ok, rg2_eq, rb2_ok, bk_d0, bk_d1, bk_d2, bk_d3, bk_d4, bk_i0, bk_i1, bk_i2, bk_i3, e1, List.isEmpty_nil, e2]
    rfl
  · have e1 := ne_nil (gs ++ [(p, n)])
    have e3 : (gs ++ [(p, n)]).isEmpty = false := by simp
    have e4 : runD (p, n) = .tup [.str (sideS p), .int n] := rfl
    rw [List.concat_eq_append] at hlen h ⊢
    rw [e3, List.map_append, List.map_cons, List.map_nil] at e1
    rw [List.map_append, List.map_cons, List.map_nil] at hlen
    have e5 := ix_last (xs := gs.map runD) (d := runD (p, n))
    rw [e4] at e5
    rw [e4] at e1
    have e6 := op_eq_s (sh_side p) (sh_side q)
    rw [side_eq] at e6
    cases hpq : (p == q) with
    | true =>
      have epq : p = q := by simpa using hpq
      rw [hpq] at e6
      have e7 := ixN_last (xs := gs.map runD) (d := runD (p, n))
      have e8 := set_last (xs := gs.map runD) (d := runD (p, n)) (e := .tup [.str (sideS q), .int (n + 1)])
      rw [e4] at e7 e8
      have e9 : jstep (gs ++ [(p, n)]) (q, 1) = gs ++ [(q, n + 1)] := by rw [epq]; exact jstep_eq (by decide)
      have e10 : (gs ++ [(q, n + 1)]).map runD = gs.map runD ++ [.tup [.str (sideS q), .int (n + 1)]] := by rw [List.map_append]; rfl
      have e11 : (gs ++ [(p, n)]).map runD = gs.map runD ++ [.tup [.str (sideS p), .int n]] := by rw [List.map_append]; rfl
      rw [e9, e10, e11, es]
      simp (maxSteps := 20000000) (disch := (first | assumption | omega | (simp only [List.length_cons, List.length_nil, List.length_append, List.length_map, SZ]; done) | (simp only [List.length_cons, List.length_nil, List.length_append, List.length_map, SZ]; omega))) only [ev_seq, ev_seq_nx, ev_seq_rt, ev_seq_ex, ev_seq_bk, ev_seq_ct, ev_nil, ev_pass, ev_break, ev_cont, ev_retN, ev_ret, ev_drop, ev_set, ev_raise, ev_if, ev_par, ev_par3, ev_toS_ok, ev_toS_ex, ev_toS_no, ev_bind_ok, ev_bind_ex, ev_bind_no, ev_it, ev_if_f, ev_C, ev_var, ev_var1, ev_var2, ev_mov, ev_mov1, ev_mov2, ev_okV_e, ev_okV_v, ev_okO, ev_run_e, ev_run_v, ev_get_d, ev_get_i, ev_getO, ev_d_fz, ev_d_ow, ev_d_io, ev_op2, ev_get2, ev_g2, ev_op1, ev_get1, ev_g1, ev_mk, ev_mk0, ev_opN, ev_all_nil, ev_all_cons, ev_runO_nil, ev_runO_cons, ev_getN, ev_gN, ev_getL_nil, ev_getL_cons, ev_gL, ev_runE_nil, ev_runE_cons, ev_tup, ev_lst, ev_mIf, ev_and, ev_or, ev_not, ev_blR, ev_toT, ev_blT, ev_okI, ev_okB, ev_tru, ev_mkT, ev_obind, ev_tru_bl, ev_andT, ev_orT, ev_notT, ev_chain, ev_chR, ev_fn, ev_of_nx, ev_of_rt, ev_of_ex, ev_outs0, ev_outs1, ev_ioE_n, ev_ioE_f, ev_ioE_o, ev_ioE_i, ev_call, ev_callK, ev_callR, ev_args_nil, ev_args_cons, ev_argC, ev_arg_d, ev_arg_i, ev_argO_f, ev_argO_o, ev_argO_i, ev_apart_nil, ev_apart_d, ev_apart_i, ev_any_nil, ev_any_cons, ev_at_d, ev_at_i, ev_ofF_ret, ev_ofF_exc, ev_back0, ev_back1, ev_b1n, ev_b1f, ev_b1o, ev_b1i, ev_bkO0, ev_bkO1, ev_bkI0, ev_bkI1, ev_look0, ev_look_d, ev_look_i, ev_join, ev_head, ev_tail, ev_call1, ev_go_o, ev_go_f, ev_of1_r, ev_of1_e, op_add_i, op_sub_i, op_iadd_i, op_mul_i, op_fdiv_i, op_mod_i, op_pow8_i, op_powL_i, op_lt_i, op_le_i, op_gt_i, op_ge_i, op_neg_i, op_eq_i, op_ne_i, op_eq_s, op_ne_s, op_is_n, op_len_l, op_len_t, op_len_s, op_abs_i, op_max_i, op_min_i, op_int_i, op_int_b, op_divmod_i, op_tup_l, op_tup_t, op_list_l, op_list_t, op_rev_l, op_rev_t, op_own_o, op_own_i, op_setix, op_setR, op_stN, op_as_o, op_as_i, op_isS, op_mut, op_mutR, op_mutS, op_asg_seq, op_asg_seql, op_asg_cons, op_asg_nil, op_asg_nm, op_asg, op_asgR, ixN_1_0, ixN_1_m1, ixN_2_0, ixN_2_1, ixN_2_m1, ixN_3_0, ixN_3_1, ixN_3_2, ixN_3_m1, ixN_4_0, ixN_4_1, ixN_4_2, ixN_4_3, ixN_4_m1, ixN_5_0, ixN_5_1, ixN_5_2, ixN_5_3, ixN_5_4, ixN_5_m1, ixN_6_0, ixN_6_1, ixN_6_2, ixN_6_3, ixN_6_4, ixN_6_5, ixN_6_m1, ixN_7_0, ixN_7_1, ixN_7_2, ixN_7_3, ixN_7_4, ixN_7_5, ixN_7_6, ixN_7_m1, ixN_8_0, ixN_8_1, ixN_8_2, ixN_8_3, ixN_8_4, ixN_8_5, ixN_8_6, ixN_8_7, ixN_8_m1, ixN_9_0, ixN_9_1, ixN_9_2, ixN_9_3, ixN_9_4, ixN_9_5, ixN_9_6, ixN_9_7, ixN_9_8, ixN_9_m1, ixN_10_0, ixN_10_1, ixN_10_2, ixN_10_3, ixN_10_4, ixN_10_5, ixN_10_6, ixN_10_7, ixN_10_8, ixN_10_9, ixN_10_m1, ixN_11_0, ixN_11_1, ixN_11_2, ixN_11_3, ixN_11_4, ixN_11_5, ixN_11_6, ixN_11_7, ixN_11_8, ixN_11_9, ixN_11_10, ixN_11_m1, ixN_12_0, ixN_12_1, ixN_12_2, ixN_12_3, ixN_12_4, ixN_12_5, ixN_12_6, ixN_12_7, ixN_12_8, ixN_12_9, ixN_12_10, ixN_12_11, ixN_12_m1, ixN_13_0, ixN_13_1, ixN_13_2, ixN_13_3, ixN_13_4, ixN_13_5, ixN_13_6, ixN_13_7, ixN_13_8, ixN_13_9, ixN_13_10, ixN_13_11, ixN_13_12, ixN_13_m1, ixN_14_0, ixN_14_1, ixN_14_2, ixN_14_3, ixN_14_4, ixN_14_5, ixN_14_6, ixN_14_7, ixN_14_8, ixN_14_9, ixN_14_10, ixN_14_11, ixN_14_12, ixN_14_13, ixN_14_m1, ixN_15_0, ixN_15_1, ixN_15_2, ixN_15_3, ixN_15_4, ixN_15_5, ixN_15_6, ixN_15_7, ixN_15_8, ixN_15_9, ixN_15_10, ixN_15_11, ixN_15_12, ixN_15_13, ixN_15_14, ixN_15_m1, ix_l0, ix_t0, ix_l1, ix_t1, ix_l2, ix_t2, ix_l3, ix_t3, ix_l4, ix_t4, ix_l5, ix_t5, ix_l6, ix_t6, ix_l7, ix_t7, ix_l8, ix_t8, ix_l9, ix_t9, ix_l10, ix_t10, ix_l11, ix_t11, ix_l12, ix_t12, ix_l13, ix_t13, ev_for, ev_iSeq, ev_mkI, ev_iter_l, ev_iter_t, ev_iter_s, ev_turn_nx, ev_turn_ct, ev_turn_bk, ev_turn_rt, ev_turn_ex, ev_loop0, ev_forR, ev_enum, ev_enumI, ev_zip, ev_wipe0, ev_wipe1, ev_un0, ev_un1, ev_unO_f, ev_unO_n, ev_comp, ev_lc0, ev_lcR0, ev_turnC, ev_tcR, ev_yes, ev_tryAs, ev_tryS_ex, ev_tryS_nx, ev_tryS_rt, ev_tryR, ev_gone_nx, ev_gone_rt, ev_nest, ev_isE, ev_sl, ev_part0, ev_part1, ev_partR, ev_sl_t, ev_sl_l, ev_cast0, ev_cast1, ev_cast2, ev_cast3, ev_cast4, ev_cast5, ev_cast6, ev_cast7, ev_cast8, ev_cast9, ev_cast10, ev_cast11, ev_cast12, ev_cast13, ev_cast14, ev_cast15, ev_cast16, ev_cast17, ev_cast18, ev_cast19, ev_cast20, ev_isi_tt, ev_isi_ti, ev_is_t, ev_isnot_t, ev_isnot_n, ev_zip_tt, ev_zip_ll, op_eqs, op_nes, ev_aug, ev_augR, ev_augS, ev_try, ev_tryT_ex, ev_tryT_nx, ev_tryT_rt, ev_tryT_bk, ev_tryT_ct, ev_tryU, ev_tryU0, ev_cold_nx, ev_cold_rt, back_eq, wipe_eq, unwipe_eq, List.getElem?_cons_zero, List.getElem?_cons_succ, List.set_cons_zero, List.set_cons_succ, Bool.and_true, Bool.true_and, Bool.or_true, Bool.true_or, Bool.or_false, Bool.false_or, Bool.and_false, Bool.false_and, Bool.not_true, Bool.not_false, List.length_cons, List.length_nil, List.map_cons, List.map_nil, List.replicate_succ, List.replicate_zero, List.cons_append, List.nil_append, if_true, if_false, Nat.reduceAdd, Nat.reduceEqDiff, beq_self_eq_true, reduceIte, Nat.zero_add, eq_self, SZ, List.contains_cons, List.contains_nil, Nat.reduceBEq, Nat.reduceLT, Nat.reduceLeDiff, Int.reduceToNat, Int.reducePow, Int.reduceAdd, Int.reduceSub, Int.reduceMul, Int.reduceNeg, Int.reduceLT, Int.reduceLE, Int.reduceEq, Int.reduceDiv, Int.reduceMod, Option.map_some, Option.map_none, cut1, rg1_eq, rb1_ok, rg2_eq, rb2_ok, bk_d0, bk_d1, bk_d2, bk_d3, bk_d4, bk_i0, bk_i1, bk_i2, bk_i3, e1, e5, e6, e7, e8]
    | false =>
      rw [hpq] at e6
      have e2 : fAppend (gs.map runD ++ [runD (p, n)]) [.tup [.str (sideS q), .int 1]] = some (.non, gs.map runD ++ [runD (p, n)] ++ [.tup [.str (sideS q), .int 1]]) := op_append hlen
      rw [e4] at e2
      have e10 : (gs ++ [(p, n)] ++ [(q, 1)]).map runD = gs.map runD ++ [.tup [.str (sideS p), .int n]] ++ [.tup [.str (sideS q), .int 1]] := by rw [List.map_append, List.map_append]; rfl
      have e11 : (gs ++ [(p, n)]).map runD = gs.map runD ++ [.tup [.str (sideS p), .int n]] := by rw [List.map_append]; rfl
      rw [jstep_ne (by decide) hpq, e10, e11, es]
      simp (maxSteps := 20000000) (disch := (first | assumption | omega | (simp only [List.length_cons, List.length_nil, List.length_append, List.length_map, SZ]; done) | (simp only [List.length_cons, List.length_nil, List.length_append, List.length_map, SZ]; omega))) only [ev_seq, ev_seq_nx, ev_seq_rt, ev_seq_ex, ev_seq_bk, ev_seq_ct, ev_nil, ev_pass, ev_break, ev_cont, ev_retN, ev_ret, ev_drop, ev_set, ev_raise, ev_if, ev_par, ev_par3, ev_toS_ok, ev_toS_ex, ev_toS_no, ev_bind_ok, ev_bind_ex, ev_bind_no, ev_it, ev_if_f, ev_C, ev_var, ev_var1, ev_var2, ev_mov, ev_mov1, ev_mov2, ev_okV_e, ev_okV_v, ev_okO, ev_run_e, ev_run_v, ev_get_d, ev_get_i, ev_getO, ev_d_fz, ev_d_ow, ev_d_io, ev_op2, ev_get2, ev_g2, ev_op1, ev_get1, ev_g1, ev_mk, ev_mk0, ev_opN, ev_all_nil, ev_all_cons, ev_runO_nil, ev_runO_cons, ev_getN, ev_gN, ev_getL_nil, ev_getL_cons, ev_gL, ev_runE_nil, ev_runE_cons, ev_tup, ev_lst, ev_mIf, ev_and, ev_or, ev_not, ev_blR, ev_toT, ev_blT, ev_okI, ev_okB, ev_tru, ev_mkT, ev_obind, ev_tru_bl, ev_andT, ev_orT, ev_notT, ev_chain, ev_chR, ev_fn, ev_of_nx, ev_of_rt, ev_of_ex, ev_outs0, ev_outs1, ev_ioE_n, ev_ioE_f, ev_ioE_o, ev_ioE_i, ev_call, ev_callK, ev_callR, ev_args_nil, ev_args_cons, ev_argC, ev_arg_d, ev_arg_i, ev_argO_f, ev_argO_o, ev_argO_i, ev_apart_nil, ev_apart_d, ev_apart_i, ev_any_nil, ev_any_cons, ev_at_d, ev_at_i, ev_ofF_ret, ev_ofF_exc, ev_back0, ev_back1, ev_b1n, ev_b1f, ev_b1o, ev_b1i, ev_bkO0, ev_bkO1, ev_bkI0, ev_bkI1, ev_look0, ev_look_d, ev_look_i, ev_join, ev_head, ev_tail, ev_call1, ev_go_o, ev_go_f, ev_of1_r, ev_of1_e, op_add_i, op_sub_i, op_iadd_i, op_mul_i, op_fdiv_i, op_mod_i, op_pow8_i, op_powL_i, op_lt_i, op_le_i, op_gt_i, op_ge_i, op_neg_i, op_eq_i, op_ne_i, op_eq_s, op_ne_s, op_is_n, op_len_l, op_len_t, op_len_s, op_abs_i, op_max_i, op_min_i, op_int_i, op_int_b, op_divmod_i, op_tup_l, op_tup_t, op_list_l, op_list_t, op_rev_l, op_rev_t, op_own_o, op_own_i, op_setix, op_setR, op_stN, op_as_o, op_as_i, op_isS, op_mut, op_mutR, op_mutS, op_asg_seq, op_asg_seql, op_asg_cons, op_asg_nil, op_asg_nm, op_asg, op_asgR, ixN_1_0, ixN_1_m1, ixN_2_0, ixN_2_1, ixN_2_m1, ixN_3_0, ixN_3_1, ixN_3_2, ixN_3_m1, ixN_4_0, ixN_4_1, ixN_4_2, ixN_4_3, ixN_4_m1, ixN_5_0, ixN_5_1, ixN_5_2, ixN_5_3, ixN_5_4, ixN_5_m1, ixN_6_0, ixN_6_1, ixN_6_2, ixN_6_3, ixN_6_4, ixN_6_5, ixN_6_m1, ixN_7_0, ixN_7_1, ixN_7_2, ixN_7_3, ixN_7_4, ixN_7_5, ixN_7_6, ixN_7_m1, ixN_8_0, ixN_8_1, ixN_8_2, ixN_8_3, ixN_8_4, ixN_8_5, ixN_8_6, ixN_8_7, ixN_8_m1, ixN_9_0, ixN_9_1, ixN_9_2, ixN_9_3, ixN_9_4, ixN_9_5, ixN_9_6, ixN_9_7, ixN_9_8, ixN_9_m1, ixN_10_0, ixN_10_1, ixN_10_2, ixN_10_3, ixN_10_4, ixN_10_5, ixN_10_6, ixN_10_7, ixN_10_8, ixN_10_9, ixN_10_m1, ixN_11_0, ixN_11_1, ixN_11_2, ixN_11_3, ixN_11_4, ixN_11_5, ixN_11_6, ixN_11_7, ixN_11_8, ixN_11_9, ixN_11_10, ixN_11_m1, ixN_12_0, ixN_12_1, ixN_12_2, ixN_12_3, ixN_12_4, ixN_12_5, ixN_12_6, ixN_12_7, ixN_12_8, ixN_12_9, ixN_12_10, ixN_12_11, ixN_12_m1, ixN_13_0, ixN_13_1, ixN_13_2, ixN_13_3, ixN_13_4, ixN_13_5, ixN_13_6, ixN_13_7, ixN_13_8, ixN_13_9, ixN_13_10, ixN_13_11, ixN_13_12, ixN_13_m1, ixN_14_0, ixN_14_1, ixN_14_2, ixN_14_3, ixN_14_4, ixN_14_5, ixN_14_6, ixN_14_7, ixN_14_8, ixN_14_9, ixN_14_10, ixN_14_11, ixN_14_12, ixN_14_13, ixN_14_m1, ixN_15_0, ixN_15_1, ixN_15_2, ixN_15_3, ixN_15_4, ixN_15_5, ixN_15_6, ixN_15_7, ixN_15_8, ixN_15_9, ixN_15_10, ixN_15_11, ixN_15_12, ixN_15_13, ixN_15_14, ixN_15_m1, ix_l0, ix_t0, ix_l1, ix_t1, ix_l2, ix_t2, ix_l3, ix_t3, ix_l4, ix_t4, ix_l5, ix_t5, ix_l6, ix_t6, ix_l7, ix_t7, ix_l8, ix_t8, ix_l9, ix_t9, ix_l10, ix_t10, ix_l11, ix_t11, ix_l12, ix_t12, ix_l13, ix_t13, ev_for, ev_iSeq, ev_mkI, ev_iter_l, ev_iter_t, ev_iter_s, ev_turn_nx, ev_turn_ct, ev_turn_bk, ev_turn_rt, ev_turn_ex, ev_loop0, ev_forR, ev_enum, ev_enumI, ev_zip, ev_wipe0, ev_wipe1, ev_un0, ev_un1, ev_unO_f, ev_unO_n, ev_comp, ev_lc0, ev_lcR0, ev_turnC, ev_tcR, ev_yes, ev_tryAs, ev_tryS_ex, ev_tryS_nx, ev_tryS_rt, ev_tryR, ev_gone_nx, ev_gone_rt, ev_nest, ev_isE, ev_sl, ev_part0, ev_part1, ev_partR, ev_sl_t, ev_sl_l, ev_cast0, ev_cast1, ev_cast2, ev_cast3, ev_cast4, ev_cast5, ev_cast6, ev_cast7, ev_cast8, ev_cast9, ev_cast10, ev_cast11, ev_cast12, ev_cast13, ev_cast14, ev_cast15, ev_cast16, ev_cast17, ev_cast18, ev_cast19, ev_cast20, ev_isi_tt, ev_isi_ti, ev_is_t, ev_isnot_t, ev_isnot_n, ev_zip_tt, ev_zip_ll, op_eqs, op_nes, ev_aug, ev_augR, ev_augS, ev_try, ev_tryT_ex, ev_tryT_nx, ev_tryT_rt, ev_tryT_bk, ev_tryT_ct, ev_tryU, ev_tryU0, ev_cold_nx, ev_cold_rt, back_eq, wipe_eq, unwipe_eq, List.getElem?_cons_zero, List.getElem?_cons_succ, List.set_cons_zero, List.set_cons_succ, Bool.and_true, Bool.true_and, Bool.or_true, Bool.true_or, Bool.or_false, Bool.false_or, Bool.and_false, Bool.false_and, Bool.not_true, Bool.not_false, List.length_cons, List.length_nil, List.map_cons, List.map_nil, List.replicate_succ, List.replicate_zero, List.cons_append, List.nil_append, if_true, if_false, Nat.reduceAdd, Nat.reduceEqDiff, beq_self_eq_true, reduceIte, Nat.zero_add, eq_self, SZ, List.contains_cons, List.contains_nil, Nat.reduceBEq, Nat.reduceLT, Nat.reduceLeDiff, Int.reduceToNat, Int.reducePow, Int.reduceAdd, Int.reduceSub, Int.reduceMul, Int.reduceNeg, Int.reduceLT, Int.reduceLE, Int.reduceEq, Int.reduceDiv, Int.reduceMod, Option.map_some, Option.map_none, cut1, rg1_eq, rb1_ok, rg2_eq, rb2_ok, bk_d0, bk_d1, bk_d2, bk_d3, bk_d4, bk_i0, bk_i1, bk_i2, bk_i3, e1, e5, e6, e2]
theorem packed_loop (x0 : Option Sl) : ∀ (s : List Bool) (fs : Runs) (y2 : Option Sl), fs.length + s.length < 1000 →
    ∃ z2, loopF (gNm 2) L_law_packed_0 (s.map sdD) [x0, some (.ow (fs.map runD)), y2] = .nx [x0, some (.ow ((jn fs (ones s)).map runD)), z2]
  | [], fs, y2, _ => ⟨y2, rfl⟩
  | q :: s, fs, y2, h => by
    rw [List.length_cons] at h
    have hj : (jstep fs (q, 1)).length ≤ fs.length + 1 := by
      rcases List.eq_nil_or_concat fs with rfl | ⟨gs, ⟨p, n⟩, rfl⟩
      · rw [jstep_nil (by decide)]
        simp
      · rw [List.concat_eq_append]
        cases hpq : p == q with
        | true =>
          have e : p = q := by simpa using hpq
          subst e
          rw [jstep_eq (by decide)]
          simp
        | false =>
          rw [jstep_ne (by decide) hpq]
          simp
    obtain ⟨z2, ih⟩ := packed_loop x0 s (jstep fs (q, 1)) (some (.fz (sdD q))) (by omega)
    refine ⟨z2, ?_⟩
    rw [List.map_cons, loop_cons, packed_step q fs x0 y2 _ (by omega), ih]
    rfl
theorem packed_ok (s : List Bool) (h : s.length < 900) : F_law_packed [.fz (.lst (s.map sdD))] = .ret (.fz (.tup ((pk s).map runD))) [none] := by
  obtain ⟨z2, e⟩ := packed_loop (some (.fz (.lst (s.map sdD)))) s [] none (by simp; omega)
  have e : loopF (gNm 2) L_law_packed_0 (s.map sdD) [some (.fz (.lst (s.map sdD))), some (.ow []), none] = .nx [some (.fz (.lst (s.map sdD))), some (.ow ((pk s).map runD)), z2] := e
  unfold F_law_packed B_law_packed
  revert e
  generalize L_law_packed_0 = f1
  generalize (pk s).map runD = pd
  generalize s.map sdD = sd
  intro e
  simp (maxSteps := 20000000) (disch := (first | assumption | omega | (simp only [List.length_cons, List.length_nil, List.length_append, List.length_map, SZ]; done) | (simp only [List.length_cons, List.length_nil, List.length_append, List.length_map, SZ]; omega))) only [ev_seq, ev_seq_nx, ev_seq_rt, ev_seq_ex, ev_seq_bk, ev_seq_ct, ev_nil, ev_pass, ev_break, ev_cont, ev_retN, ev_ret, ev_drop, ev_set, ev_raise, ev_if, ev_par, ev_par3, ev_toS_ok, ev_toS_ex, ev_toS_no, ev_bind_ok, ev_bind_ex, ev_bind_no, ev_it, ev_if_f, ev_C, ev_var, ev_var1, ev_var2, ev_mov, ev_mov1, ev_mov2, ev_okV_e, ev_okV_v, ev_okO, ev_run_e, ev_run_v, ev_get_d, ev_get_i, ev_getO, ev_d_fz, ev_d_ow, ev_d_io, ev_op2, ev_get2, ev_g2, ev_op1, ev_get1, ev_g1, ev_mk, ev_mk0, ev_opN, ev_all_nil, ev_all_cons, ev_runO_nil, ev_runO_cons, ev_getN, ev_gN, ev_getL_nil, ev_getL_cons, ev_gL, ev_runE_nil, ev_runE_cons, ev_tup, ev_lst, ev_mIf, ev_and, ev_or, ev_not, ev_blR, ev_toT, ev_blT, ev_okI, ev_okB, ev_tru, ev_mkT, ev_obind, ev_tru_bl, ev_andT, ev_orT, ev_notT, ev_chain, ev_chR, ev_fn, ev_of_nx, ev_of_rt, ev_of_ex, ev_outs0, ev_outs1, ev_ioE_n, ev_ioE_f, ev_ioE_o, ev_ioE_i, ev_call, ev_callK, ev_callR, ev_args_nil, ev_args_cons, ev_argC, ev_arg_d, ev_arg_i, ev_argO_f, ev_argO_o, ev_argO_i, ev_apart_nil, ev_apart_d, ev_apart_i, ev_any_nil, ev_any_cons, ev_at_d, ev_at_i, ev_ofF_ret, ev_ofF_exc, ev_back0, ev_back1, ev_b1n, ev_b1f, ev_b1o, ev_b1i, ev_bkO0, ev_bkO1, ev_bkI0, ev_bkI1, ev_look0, ev_look_d, ev_look_i, ev_join, ev_head, ev_tail, ev_call1, ev_go_o, ev_go_f, ev_of1_r, ev_of1_e, op_add_i, op_sub_i, op_iadd_i, op_mul_i, op_fdiv_i, op_mod_i, op_pow8_i, op_powL_i, op_lt_i, op_le_i, op_gt_i, op_ge_i, op_neg_i, op_eq_i, op_ne_i, op_eq_s, op_ne_s, op_is_n, op_len_l, op_len_t, op_len_s, op_abs_i, op_max_i, op_min_i, op_int_i, op_int_b, op_divmod_i, op_tup_l, op_tup_t, op_list_l, op_list_t, op_rev_l, op_rev_t, op_own_o, op_own_i, op_setix, op_setR, op_stN, op_as_o, op_as_i, op_isS, op_mut, op_mutR, op_mutS, op_asg_seq, op_asg_seql, op_asg_cons, op_asg_nil, op_asg_nm, op_asg, op_asgR, ixN_1_0, ixN_1_m1, ixN_2_0, ixN_2_1, ixN_2_m1, ixN_3_0, ixN_3_1, ixN_3_2, ixN_3_m1, ixN_4_0, ixN_4_1, ixN_4_2, ixN_4_3, ixN_4_m1, ixN_5_0, ixN_5_1, ixN_5_2, ixN_5_3, ixN_5_4, ixN_5_m1, ixN_6_0, ixN_6_1, ixN_6_2, ixN_6_3, ixN_6_4, ixN_6_5, ixN_6_m1, ixN_7_0, ixN_7_1, ixN_7_2, ixN_7_3, ixN_7_4, ixN_7_5, ixN_7_6, ixN_7_m1, ixN_8_0, ixN_8_1, ixN_8_2, ixN_8_3, ixN_8_4, ixN_8_5, ixN_8_6, ixN_8_7, ixN_8_m1, ixN_9_0, ixN_9_1, ixN_9_2, ixN_9_3, ixN_9_4, ixN_9_5, ixN_9_6, ixN_9_7, ixN_9_8, ixN_9_m1, ixN_10_0, ixN_10_1, ixN_10_2, ixN_10_3, ixN_10_4, ixN_10_5, ixN_10_6, ixN_10_7, ixN_10_8, ixN_10_9, ixN_10_m1, ixN_11_0, ixN_11_1, ixN_11_2, ixN_11_3, ixN_11_4, ixN_11_5, ixN_11_6, ixN_11_7, ixN_11_8, ixN_11_9, ixN_11_10, ixN_11_m1, ixN_12_0, ixN_12_1, ixN_12_2, ixN_12_3, ixN_12_4, ixN_12_5, ixN_12_6, ixN_12_7, ixN_12_8, ixN_12_9, ixN_12_10, ixN_12_11, ixN_12_m1, ixN_13_0, ixN_13_1, ixN_13_2, ixN_13_3, ixN_13_4, ixN_13_5, ixN_13_6, ixN_13_7, ixN_13_8, ixN_13_9, ixN_13_10, ixN_13_11, ixN_13_12, ixN_13_m1, ixN_14_0, ixN_14_1, ixN_14_2, ixN_14_3, ixN_14_4, ixN_14_5, ixN_14_6, ixN_14_7, ixN_14_8, ixN_14_9, ixN_14_10, ixN_14_11, ixN_14_12, ixN_14_13, ixN_14_m1, ixN_15_0, ixN_15_1, ixN_15_2, ixN_15_3, ixN_15_4, ixN_15_5, ixN_15_6, ixN_15_7, ixN_15_8, ixN_15_9, ixN_15_10, ixN_15_11, ixN_15_12, ixN_15_13, ixN_15_14, ixN_15_m1, ix_l0, ix_t0, ix_l1, ix_t1, ix_l2, ix_t2, ix_l3, ix_t3, ix_l4, ix_t4, ix_l5, ix_t5, ix_l6, ix_t6, ix_l7, ix_t7, ix_l8, ix_t8, ix_l9, ix_t9, ix_l10, ix_t10, ix_l11, ix_t11, ix_l12, ix_t12, ix_l13, ix_t13, ev_for, ev_iSeq, ev_mkI, ev_iter_l, ev_iter_t, ev_iter_s, ev_turn_nx, ev_turn_ct, ev_turn_bk, ev_turn_rt, ev_turn_ex, ev_loop0, ev_forR, ev_enum, ev_enumI, ev_zip, ev_wipe0, ev_wipe1, ev_un0, ev_un1, ev_unO_f, ev_unO_n, ev_comp, ev_lc0, ev_lcR0, ev_turnC, ev_tcR, ev_yes, ev_tryAs, ev_tryS_ex, ev_tryS_nx, ev_tryS_rt, ev_tryR, ev_gone_nx, ev_gone_rt, ev_nest, ev_isE, ev_sl, ev_part0, ev_part1, ev_partR, ev_sl_t, ev_sl_l, ev_cast0, ev_cast1, ev_cast2, ev_cast3, ev_cast4, ev_cast5, ev_cast6, ev_cast7, ev_cast8, ev_cast9, ev_cast10, ev_cast11, ev_cast12, ev_cast13, ev_cast14, ev_cast15, ev_cast16, ev_cast17, ev_cast18, ev_cast19, ev_cast20, ev_isi_tt, ev_isi_ti, ev_is_t, ev_isnot_t, ev_isnot_n, ev_zip_tt, ev_zip_ll, op_eqs, op_nes, ev_aug, ev_augR, ev_augS, ev_try, ev_tryT_ex, ev_tryT_nx, ev_tryT_rt, ev_tryT_bk, ev_tryT_ct, ev_tryU, ev_tryU0, ev_cold_nx, ev_cold_rt, back_eq, wipe_eq, unwipe_eq, List.getElem?_cons_zero, List.getElem?_cons_succ, List.set_cons_zero, List.set_cons_succ, Bool.and_true, Bool.true_and, Bool.or_true, Bool.true_or, Bool.or_false, Bool.false_or, Bool.and_false, Bool.false_and, Bool.not_true, Bool.not_false, List.length_cons, List.length_nil, List.map_cons, List.map_nil, List.replicate_succ, List.replicate_zero, List.cons_append, List.nil_append, if_true, if_false, Nat.reduceAdd, Nat.reduceEqDiff, beq_self_eq_true, reduceIte, Nat.zero_add, eq_self, SZ, List.contains_cons, List.contains_nil, Nat.reduceBEq, Nat.reduceLT, Nat.reduceLeDiff, Int.reduceToNat, Int.reducePow, Int.reduceAdd, Int.reduceSub, Int.reduceMul, Int.reduceNeg, Int.reduceLT, Int.reduceLE, Int.reduceEq, Int.reduceDiv, Int.reduceMod, Option.map_some, Option.map_none, cut1, rg1_eq, rb1_ok, rg2_eq, rb2_ok, bk_d0, bk_d1, bk_d2, bk_d3, bk_d4, bk_i0, bk_i1, bk_i2, bk_i3, e]
/-! ### small lines -/
theorem drop_step {s t : List Bool} {k : Nat} {q : Bool} (h : s.drop k = q :: t) : s[k]? = some q ∧ s.drop (k + 1) = t ∧ k < s.length := by
  have h1 : s[k]? = some q := by
    have := congrArg (fun l : List Bool => l[0]?) h
    simpa using this
  refine ⟨h1, ?_, ?_⟩
  · have := congrArg List.tail h
    simpa using this
  · exact (List.getElem?_eq_some_iff.mp h1).1
theorem ix_sds {s : List Bool} {k : Nat} {q : Bool} (h : s[k]? = some q) : ixD (.lst (s.map sdD)) (.int (k : Nat)) = some (.fz (sdD q)) := by
  have hk := (List.getElem?_eq_some_iff.mp h).1
  rw [ix_l_nn (by omega) (by rw [List.length_map]; omega), Int.toNat_natCast, List.getElem?_map, h]
  rfl
end G

namespace G
open PySem PySem.Spec PyProof.Rows L2 Mi
theorem side_qq (r q : Bool) : eqD (.str (sideS r)) (.str (sideS q)) = some (.fz (.bl (r == q))) := by cases r <;> cases q <;> kernel_rfl
theorem ne_qq (q : Bool) : neD (.str (sideS q)) (.str (sideS q)) = some (.fz (.bl false)) := by cases q <;> kernel_rfl
/-! ### place_of -/
theorem pq_loop (q : Bool) (x0 : Option Sl) : ∀ (l : Runs) (o i : Int) (y4 y5 : Option Sl),
    (∃ p z2 z3 z4 z5, posQ q o i l = some p ∧ loopF (gSeq 2 (gsCons (gNm 4) (gsCons (gNm 5) gsNil))) Lplace_of_side_0 (l.map runD) [x0, some (.fz (.str (sideS q))), some (.fz (.int i)), some (.fz (.int o)), y4, y5] = .rt (.fz (.int p)) [x0, some (.fz (.str (sideS q))), some (.fz (.int z2)), z3, z4, z5]) ∨
    (posQ q o i l = none ∧ ∃ z2 z3 z4 z5, loopF (gSeq 2 (gsCons (gNm 4) (gsCons (gNm 5) gsNil))) Lplace_of_side_0 (l.map runD) [x0, some (.fz (.str (sideS q))), some (.fz (.int i)), some (.fz (.int o)), y4, y5] = .nx [x0, some (.fz (.str (sideS q))), some (.fz (.int z2)), z3, z4, z5])
  | [], o, i, y4, y5 => .inr ⟨rfl, i, _, _, _, rfl⟩
  | (r, c) :: l, o, i, y4, y5 => by
    have e0 : runD (r, c) = .tup [.str (sideS r), .int c] := rfl
    have e1 := side_qq r q
    rw [List.map_cons, loop_cons, e0]
    by_cases hr : r = q
    · have e2 : (r == q) = true := by simpa using hr
      rw [e2] at e1
      have ep : posQ q o i ((r, c) :: l) = if i < c then some (o + 1 + i) else posQ q (o + c) (i - c) l := by
        show (if r = q then _ else _) = _
        rw [if_pos hr]
      rw [ep]
      by_cases hi : i < c
      · left
        rw [if_pos hi]
        have e3 : decide (i < c) = true := decide_eq_true hi
        refine ⟨o + 1 + i, i, some (.fz (.int o)), some (.fz (.str (sideS r))), some (.fz (.int c)), rfl, ?_⟩
        generalize loopF (gSeq 2 (gsCons (gNm 4) (gsCons (gNm 5) gsNil))) Lplace_of_side_0 (l.map runD) = kk
        unfold Lplace_of_side_0
        simp (maxSteps := 20000000) (disch := (first | assumption | omega | (simp only [List.length_cons, List.length_nil, List.length_append, List.length_map, SZ]; done) | (simp only [List.length_cons, List.length_nil, List.length_append, List.length_map, SZ]; omega))) only [ev_seq, ev_seq_nx, ev_seq_rt, ev_seq_ex, ev_seq_bk, ev_seq_ct, ev_nil, ev_pass, ev_break, ev_cont, ev_retN, ev_ret, ev_drop, ev_set, ev_raise, ev_if, ev_par, ev_par3, ev_toS_ok, ev_toS_ex, ev_toS_no, ev_bind_ok, ev_bind_ex, ev_bind_no, ev_it, ev_if_f, ev_C, ev_var, ev_var1, ev_var2, ev_mov, ev_mov1, ev_mov2, ev_okV_e, ev_okV_v, ev_okO, ev_run_e, ev_run_v, ev_get_d, ev_get_i, ev_getO, ev_d_fz, ev_d_ow, ev_d_io, ev_op2, ev_get2, ev_g2, ev_op1, ev_get1, ev_g1, ev_mk, ev_mk0, ev_opN, ev_all_nil, ev_all_cons, ev_runO_nil, ev_runO_cons, ev_getN, ev_gN, ev_getL_nil, ev_getL_cons, ev_gL, ev_runE_nil, ev_runE_cons, ev_tup, ev_lst, ev_mIf, ev_and, ev_or, ev_not, ev_blR, ev_toT, ev_blT, ev_okI, ev_okB, ev_tru, ev_mkT, ev_obind, ev_tru_bl, ev_andT, ev_orT, ev_notT, ev_chain, ev_chR, ev_fn, ev_of_nx, ev_of_rt, ev_of_ex, ev_outs0, ev_outs1, ev_ioE_n, ev_ioE_f, ev_ioE_o, ev_ioE_i, ev_call, ev_callK, ev_callR, ev_args_nil, ev_args_cons, ev_argC, ev_arg_d, ev_arg_i, ev_argO_f, ev_argO_o, ev_argO_i, ev_apart_nil, ev_apart_d, ev_apart_i, ev_any_nil, ev_any_cons, ev_at_d, ev_at_i, ev_ofF_ret, ev_ofF_exc, ev_back0, ev_back1, ev_b1n, ev_b1f, ev_b1o, ev_b1i, ev_bkO0, ev_bkO1, ev_bkI0, ev_bkI1, ev_look0, ev_look_d, ev_look_i, ev_join, ev_head, ev_tail, ev_call1, ev_go_o, ev_go_f, ev_of1_r, ev_of1_e, op_add_i, op_sub_i, op_iadd_i, op_mul_i, op_fdiv_i, op_mod_i, op_pow8_i, op_powL_i, op_lt_i, op_le_i, op_gt_i, op_ge_i, op_neg_i, op_eq_i, op_ne_i, op_eq_s, op_ne_s, op_is_n, op_len_l, op_len_t, op_len_s, op_abs_i, op_max_i, op_min_i, op_int_i, op_int_b, op_divmod_i, op_tup_l, op_tup_t, op_list_l, op_list_t, op_rev_l, op_rev_t, op_own_o, op_own_i, op_setix, op_setR, op_stN, op_as_o, op_as_i, op_isS, op_mut, op_mutR, op_mutS, op_asg_seq, op_asg_seql, op_asg_cons, op_asg_nil, op_asg_nm, op_asg, op_asgR, ixN_1_0, ixN_1_m1, ixN_2_0, ixN_2_1, ixN_2_m1, ixN_3_0, ixN_3_1, ixN_3_2, ixN_3_m1, ixN_4_0, ixN_4_1, ixN_4_2, ixN_4_3, ixN_4_m1, ixN_5_0, ixN_5_1, ixN_5_2, ixN_5_3, ixN_5_4, ixN_5_m1, ixN_6_0, ixN_6_1, ixN_6_2, ixN_6_3, ixN_6_4, ixN_6_5, ixN_6_m1, ixN_7_0, ixN_7_1, ixN_7_2, ixN_7_3, ixN_7_4, ixN_7_5, ixN_7_6, ixN_7_m1, ixN_8_0, ixN_8_1, ixN_8_2, ixN_8_3, ixN_8_4, ixN_8_5, ixN_8_6, ixN_8_7, ixN_8_m1, ixN_9_0, ixN_9_1, ixN_9_2, ixN_9_3, ixN_9_4, ixN_9_5, ixN_9_6, ixN_9_7, ixN_9_8, ixN_9_m1, ixN_10_0, ixN_10_1, ixN_10_2, ixN_10_3, ixN_10_4, ixN_10_5, ixN_10_6, ixN_10_7, ixN_10_8, ixN_10_9, ixN_10_m1, ixN_11_0, ixN_11_1, ixN_11_2, ixN_11_3, ixN_11_4, ixN_11_5, ixN_11_6, ixN_11_7, ixN_11_8, ixN_11_9, ixN_11_10, ixN_11_m1, ixN_12_0, ixN_12_1, ixN_12_2, ixN_12_3, ixN_12_4, ixN_12_5, ixN_12_6, ixN_12_7, ixN_12_8, ixN_12_9, ixN_12_10, ixN_12_11, ixN_12_m1, ixN_13_0, ixN_13_1, ixN_13_2, ixN_13_3, ixN_13_4, ixN_13_5, ixN_13_6, ixN_13_7, ixN_13_8, ixN_13_9, ixN_13_10, ixN_13_11, ixN_13_12, ixN_13_m1, ixN_14_0, ixN_14_1, ixN_14_2, ixN_14_3, ixN_14_4, ixN_14_5, ixN_14_6, ixN_14_7, ixN_14_8, ixN_14_9, ixN_14_10, ixN_14_11, ixN_14_12, ixN_14_13, ixN_14_m1, ixN_15_0, ixN_15_1, ixN_15_2, ixN_15_3, ixN_15_4, ixN_15_5, ixN_15_6, ixN_15_7, ixN_15_8, ixN_15_9, ixN_15_10, ixN_15_11, ixN_15_12, ixN_15_13, ixN_15_14, ixN_15_m1, ix_l0, ix_t0, ix_l1, ix_t1, ix_l2, ix_t2, ix_l3, ix_t3, ix_l4, ix_t4, ix_l5, ix_t5, ix_l6, ix_t6, ix_l7, ix_t7, ix_l8, ix_t8, ix_l9, ix_t9, ix_l10, ix_t10, ix_l11, ix_t11, ix_l12, ix_t12, ix_l13, ix_t13, ev_for, ev_iSeq, ev_mkI, ev_iter_l, ev_iter_t, ev_iter_s, ev_turn_nx, ev_turn_ct, ev_turn_bk, ev_turn_rt, ev_turn_ex, ev_loop0, ev_forR, ev_enum, ev_enumI, ev_zip, ev_wipe0, ev_wipe1, ev_un0, ev_un1, ev_unO_f, ev_unO_n, ev_comp, ev_lc0, ev_lcR0, ev_turnC, ev_tcR, ev_yes, ev_tryAs, ev_tryS_ex, ev_tryS_nx, ev_tryS_rt, ev_tryR, ev_gone_nx, ev_gone_rt, ev_nest, ev_isE, ev_sl, ev_part0, ev_part1, ev_partR, ev_sl_t, ev_sl_l, ev_cast0, ev_cast1, ev_cast2, ev_cast3, ev_cast4, ev_cast5, ev_cast6, ev_cast7, ev_cast8, ev_cast9, ev_cast10, ev_cast11, ev_cast12, ev_cast13, ev_cast14, ev_cast15, ev_cast16, ev_cast17, ev_cast18, ev_cast19, ev_cast20, ev_isi_tt, ev_isi_ti, ev_is_t, ev_isnot_t, ev_isnot_n, ev_zip_tt, ev_zip_ll, op_eqs, op_nes, ev_aug, ev_augR, ev_augS, ev_try, ev_tryT_ex, ev_tryT_nx, ev_tryT_rt, ev_tryT_bk, ev_tryT_ct, ev_tryU, ev_tryU0, ev_cold_nx, ev_cold_rt, back_eq, wipe_eq, unwipe_eq, List.getElem?_cons_zero, List.getElem?_cons_succ, List.set_cons_zero, List.set_cons_succ, Bool.and_true, Bool.true_and, Bool.or_true, Bool.true_or, Bool.or_false, Bool.false_or, Bool.and_false, Bool.false_and, Bool.not_true, Bool.not_false, List.length_cons, List.length_nil, List.map_cons, List.map_nil, List.replicate_succ, List.replicate_zero, List.cons_append, List.nil_append, if_true, if_false, Nat.reduceAdd, Nat.reduceEqDiff, beq_self_eq_true, reduceIte, Nat.zero_add, eq_self, SZ, List.contains_cons, List.contains_nil, Nat.reduceBEq, Nat.reduceLT, Nat.reduceLeDiff, Int.reduceToNat, Int.reducePow, Int.reduceAdd, Int.reduceSub, Int.reduceMul, Int.reduceNeg, Int.reduceLT, Int.reduceLE, Int.reduceEq, Int.reduceDiv, Int.reduceMod, Option.map_some, Option.map_none, cut1, rg1_eq, rb1_ok, rg2_eq, rb2_ok, bk_d0, bk_d1, bk_d2, bk_d3, bk_d4, bk_i0, bk_i1, bk_i2, bk_i3, e1, e3]
      · rw [if_neg hi]
        have e3 : decide (i < c) = false := decide_eq_false hi
        have ih := pq_loop q x0 l (o + c) (i - c) (some (.fz (.str (sideS r)))) (some (.fz (.int c)))
        revert ih
        generalize loopF (gSeq 2 (gsCons (gNm 4) (gsCons (gNm 5) gsNil))) Lplace_of_side_0 (l.map runD) = kk
        intro ih
        have key : forR Lplace_of_side_0 kk (gSeq 2 (gsCons (gNm 4) (gsCons (gNm 5) gsNil)) (.tup [.str (sideS r), .int c]) [x0, some (.fz (.str (sideS q))), some (.fz (.int i)), some (.fz (.int o)), y4, y5]) = kk [x0, some (.fz (.str (sideS q))), some (.fz (.int (i - c))), some (.fz (.int (o + c))), some (.fz (.str (sideS r))), some (.fz (.int c))] := by
          unfold Lplace_of_side_0
          simp (maxSteps := 20000000) (disch := (first | assumption | omega | (simp only [List.length_cons, List.length_nil, List.length_append, List.length_map, SZ]; done) | (simp only [List.length_cons, List.length_nil, List.length_append, List.length_map, SZ]; omega))) only [ev_seq, ev_seq_nx, ev_seq_rt, ev_seq_ex, ev_seq_bk, ev_seq_ct, ev_nil, ev_pass, ev_break, ev_cont, ev_retN, ev_ret, ev_drop, ev_set, ev_raise, ev_if, ev_par, ev_par3, ev_toS_ok, ev_toS_ex, ev_toS_no, ev_bind_ok, ev_bind_ex, ev_bind_no, ev_it, ev_if_f, ev_C, ev_var, ev_var1, ev_var2, ev_mov, ev_mov1, ev_mov2, ev_okV_e, ev_okV_v, ev_okO, ev_run_e, ev_run_v, ev_get_d, ev_get_i, ev_getO, ev_d_fz, ev_d_ow, ev_d_io, ev_op2, ev_get2, ev_g2, ev_op1, ev_get1, ev_g1, ev_mk, ev_mk0, ev_opN, ev_all_nil, ev_all_cons, ev_runO_nil, ev_runO_cons, ev_getN, ev_gN, ev_getL_nil, ev_getL_cons, ev_gL, ev_runE_nil, ev_runE_cons, ev_tup, ev_lst, ev_mIf, ev_and, ev_or, ev_not, ev_blR, ev_toT, ev_blT, ev_okI, ev_okB, ev_tru, ev_mkT, ev_obind, ev_tru_bl, ev_andT, ev_orT, ev_notT, ev_chain, ev_chR, ev_fn, ev_of_nx, ev_of_rt, ev_of_ex, ev_outs0, ev_outs1, ev_ioE_n, ev_ioE_f, ev_ioE_o, ev_ioE_i, ev_call, ev_callK, ev_callR, ev_args_nil, ev_args_cons, ev_argC, ev_arg_d, ev_arg_i, ev_argO_f, ev_argO_o, ev_argO_i, ev_apart_nil, ev_apart_d, ev_apart_i, ev_any_nil, ev_any_cons, ev_at_d, ev_at_i, ev_ofF_ret, ev_ofF_exc, ev_back0, ev_back1, ev_b1n, ev_b1f, ev_b1o, ev_b1i, ev_bkO0, ev_bkO1, ev_bkI0, ev_bkI1, ev_look0, ev_look_d, ev_look_i, ev_join, ev_head, ev_tail, ev_call1, ev_go_o, ev_go_f, ev_of1_r, ev_of1_e, op_add_i, op_sub_i, op_iadd_i, op_mul_i, op_fdiv_i, op_mod_i, op_pow8_i, op_powL_i, op_lt_i, op_le_i, op_gt_i, op_ge_i, op_neg_i, op_eq_i, op_ne_i, op_eq_s, op_ne_s, op_is_n, op_len_l, op_len_t, op_len_s, op_abs_i, op_max_i, op_min_i, op_int_i, op_int_b, op_divmod_i, op_tup_l, op_tup_t, op_list_l, op_list_t, op_rev_l, op_rev_t, op_own_o, op_own_i, op_setix, op_setR, op_stN, op_as_o, op_as_i, op_isS, op_mut, op_mutR, op_mutS, op_asg_seq, op_asg_seql, op_asg_cons, op_asg_nil, op_asg_nm, op_asg, op_asgR, ixN_1_0, ixN_1_m1, ixN_2_0, ixN_2_1, ixN_2_m1, ixN_3_0, ixN_3_1, ixN_3_2, ixN_3_m1, ixN_4_0, ixN_4_1, ixN_4_2, ixN_4_3, ixN_4_m1, ixN_5_0, ixN_5_1, ixN_5_2, ixN_5_3, ixN_5_4, ixN_5_m1, ixN_6_0, ixN_6_1, ixN_6_2, ixN_6_3, ixN_6_4, ixN_6_5, ixN_6_m1, ixN_7_0, ixN_7_1, ixN_7_2, ixN_7_3, ixN_7_4, ixN_7_5, ixN_7_6, ixN_7_m1, ixN_8_0, ixN_8_1, ixN_8_2, ixN_8_3, ixN_8_4, ixN_8_5, ixN_8_6, ixN_8_7, ixN_8_m1, ixN_9_0, ixN_9_1, ixN_9_2, ixN_9_3, ixN_9_4, ixN_9_5, ixN_9_6, ixN_9_7, ixN_9_8, ixN_9_m1, ixN_10_0, ixN_10_1, ixN_10_2, ixN_10_3, ixN_10_4, ixN_10_5, ixN_10_6, ixN_10_7, ixN_10_8, ixN_10_9, ixN_10_m1, ixN_11_0, ixN_11_1, ixN_11_2, ixN_11_3, ixN_11_4, ixN_11_5, ixN_11_6, ixN_11_7, ixN_11_8, ixN_11_9, ixN_11_10, ixN_11_m1, ixN_12_0, ixN_12_1, ixN_12_2, ixN_12_3, ixN_12_4, ixN_12_5, ixN_12_6, ixN_12_7, ixN_12_8, ixN_12_9, ixN_12_10, ixN_12_11, ixN_12_m1, ixN_13_0, ixN_13_1, ixN_13_2, ixN_13_3, ixN_13_4, ixN_13_5, ixN_13_6, ixN_13_7, ixN_13_8, ixN_13_9, ixN_13_10, ixN_13_11, ixN_13_12, ixN_13_m1, ixN_14_0, ixN_14_1, ixN_14_2, ixN_14_3, ixN_14_4, ixN_14_5, ixN_14_6, ixN_14_7, ixN_14_8, ixN_14_9, ixN_14_10, ixN_14_11, ixN_14_12, ixN_14_13, ixN_14_m1, ixN_15_0, ixN_15_1, ixN_15_2, ixN_15_3, ixN_15_4, ixN_15_5, ixN_15_6, ixN_15_7, ixN_15_8, ixN_15_9, ixN_15_10, ixN_15_11, ixN_15_12, ixN_15_13, ixN_15_14, ixN_15_m1, ix_l0, ix_t0, ix_l1, ix_t1, ix_l2, ix_t2, ix_l3, ix_t3, ix_l4, ix_t4, ix_l5, ix_t5, ix_l6, ix_t6, ix_l7, ix_t7, ix_l8, ix_t8, ix_l9, ix_t9, ix_l10, ix_t10, ix_l11, ix_t11, ix_l12, ix_t12, ix_l13, ix_t13, ev_for, ev_iSeq, ev_mkI, ev_iter_l, ev_iter_t, ev_iter_s, ev_turn_nx, ev_turn_ct, ev_turn_bk, ev_turn_rt, ev_turn_ex, ev_loop0, ev_forR, ev_enum, ev_enumI, ev_zip, ev_wipe0, ev_wipe1, ev_un0, ev_un1, ev_unO_f, ev_unO_n, ev_comp, ev_lc0, ev_lcR0, ev_turnC, ev_tcR, ev_yes, ev_tryAs, ev_tryS_ex, ev_tryS_nx, ev_tryS_rt, ev_tryR, ev_gone_nx, ev_gone_rt, ev_nest, ev_isE, ev_sl, ev_part0, ev_part1, ev_partR, ev_sl_t, ev_sl_l, ev_cast0, ev_cast1, ev_cast2, ev_cast3, ev_cast4, ev_cast5, ev_cast6, ev_cast7, ev_cast8, ev_cast9, ev_cast10, ev_cast11, ev_cast12, ev_cast13, ev_cast14, ev_cast15, ev_cast16, ev_cast17, ev_cast18, ev_cast19, ev_cast20, ev_isi_tt, ev_isi_ti, ev_is_t, ev_isnot_t, ev_isnot_n, ev_zip_tt, ev_zip_ll, op_eqs, op_nes, ev_aug, ev_augR, ev_augS, ev_try, ev_tryT_ex, ev_tryT_nx, ev_tryT_rt, ev_tryT_bk, ev_tryT_ct, ev_tryU, ev_tryU0, ev_cold_nx, ev_cold_rt, back_eq, wipe_eq, unwipe_eq, List.getElem?_cons_zero, List.getElem?_cons_succ, List.set_cons_zero, List.set_cons_succ, Bool.and_true, Bool.true_and, Bool.or_true, Bool.true_or, Bool.or_false, Bool.false_or, Bool.and_false, Bool.false_and, Bool.not_true, Bool.not_false, List.length_cons, List.length_nil, List.map_cons, List.map_nil, List.replicate_succ, List.replicate_zero, List.cons_append, List.nil_append, if_true, if_false, Nat.reduceAdd, Nat.reduceEqDiff, beq_self_eq_true, reduceIte, Nat.zero_add, eq_self, SZ, List.contains_cons, List.contains_nil, Nat.reduceBEq, Nat.reduceLT, Nat.reduceLeDiff, Int.reduceToNat, Int.reducePow, Int.reduceAdd, Int.reduceSub, Int.reduceMul, Int.reduceNeg, Int.reduceLT, Int.reduceLE, Int.reduceEq, Int.reduceDiv, Int.reduceMod, Option.map_some, Option.map_none, cut1, rg1_eq, rb1_ok, rg2_eq, rb2_ok, bk_d0, bk_d1, bk_d2, bk_d3, bk_d4, bk_i0, bk_i1, bk_i2, bk_i3, e1, e3]
        rw [key]
        exact ih
    · have e2 : (r == q) = false := by simpa using hr
      rw [e2] at e1
      have ep : posQ q o i ((r, c) :: l) = posQ q (o + c) i l := by
        show (if r = q then _ else _) = _
        rw [if_neg hr]
      rw [ep]
      have ih := pq_loop q x0 l (o + c) i (some (.fz (.str (sideS r)))) (some (.fz (.int c)))
      revert ih
      generalize loopF (gSeq 2 (gsCons (gNm 4) (gsCons (gNm 5) gsNil))) Lplace_of_side_0 (l.map runD) = kk
      intro ih
      have key : forR Lplace_of_side_0 kk (gSeq 2 (gsCons (gNm 4) (gsCons (gNm 5) gsNil)) (.tup [.str (sideS r), .int c]) [x0, some (.fz (.str (sideS q))), some (.fz (.int i)), some (.fz (.int o)), y4, y5]) = kk [x0, some (.fz (.str (sideS q))), some (.fz (.int i)), some (.fz (.int (o + c))), some (.fz (.str (sideS r))), some (.fz (.int c))] := by
        unfold Lplace_of_side_0
        simp (maxSteps := 20000000) (disch := (first | assumption | omega | (simp only [List.length_cons, List.length_nil, List.length_append, List.length_map, SZ]; done) | (simp only [List.length_cons, List.length_nil, List.length_append, List.length_map, SZ]; omega))) only [ev_seq, ev_seq_nx, ev_seq_rt, ev_seq_ex, ev_seq_bk, ev_seq_ct, ev_nil, ev_pass, ev_break, ev_cont, ev_retN, ev_ret, ev_drop, ev_set, ev_raise, ev_if, ev_par, ev_par3, ev_toS_ok, ev_toS_ex, ev_toS_no, ev_bind_ok, ev_bind_ex, ev_bind_no, ev_it, ev_if_f, ev_C, ev_var, ev_var1, ev_var2, ev_mov, ev_mov1, ev_mov2, ev_okV_e, ev_okV_v, ev_okO, ev_run_e, ev_run_v, ev_get_d, ev_get_i, ev_getO, ev_d_fz, ev_d_ow, ev_d_io, ev_op2, ev_get2, ev_g2, ev_op1, ev_get1, ev_g1, ev_mk, ev_mk0, ev_opN, ev_all_nil, ev_all_cons, ev_runO_nil, ev_runO_cons, ev_getN, ev_gN, ev_getL_nil, ev_getL_cons, ev_gL, ev_runE_nil, ev_runE_cons, ev_tup, ev_lst, ev_mIf, ev_and, ev_or, ev_not, ev_blR, ev_toT, ev_blT, ev_okI, ev_okB, ev_tru, ev_mkT, ev_obind, ev_tru_bl, ev_andT, ev_orT, ev_notT, ev_chain, ev_chR, ev_fn, ev_of_nx, ev_of_rt, ev_of_ex, ev_outs0, ev_outs1, ev_ioE_n, ev_ioE_f, ev_ioE_o, ev_ioE_i, ev_call, ev_callK, ev_callR, ev_args_nil, ev_args_cons, ev_argC, ev_arg_d, ev_arg_i, ev_argO_f, ev_argO_o, ev_argO_i, ev_apart_nil, ev_apart_d, ev_apart_i, ev_any_nil, ev_any_cons, ev_at_d, ev_at_i, ev_ofF_ret, ev_ofF_exc, ev_back0, ev_back1, ev_b1n, ev_b1f, ev_b1o, ev_b1i, ev_bkO0, ev_bkO1, ev_bkI0, ev_bkI1, ev_look0, ev_look_d, ev_look_i, ev_join, ev_head, ev_tail, ev_call1, ev_go_o, ev_go_f, ev_of1_r, ev_of1_e, op_add_i, op_sub_i, op_iadd_i, op_mul_i, op_fdiv_i, op_mod_i, op_pow8_i, op_powL_i, op_lt_i, op_le_i, op_gt_i, op_ge_i, op_neg_i, op_eq_i, op_ne_i, op_eq_s, op_ne_s, op_is_n, op_len_l, op_len_t, op_len_s, op_abs_i, op_max_i, op_min_i, op_int_i, op_int_b, op_divmod_i, op_tup_l, op_tup_t, op_list_l, op_list_t, op_rev_l, op_rev_t, op_own_o, op_own_i, op_setix, op_setR, op_stN, op_as_o, op_as_i, op_isS, op_mut, op_mutR, op_mutS, op_asg_seq, op_asg_seql, op_asg_cons, op_asg_nil, op_asg_nm, op_asg, op_asgR, ixN_1_0, ixN_1_m1, ixN_2_0, ixN_2_1, ixN_2_m1, ixN_3_0, ixN_3_1, ixN_3_2, ixN_3_m1, ixN_4_0, ixN_4_1, ixN_4_2, ixN_4_3, ixN_4_m1, ixN_5_0, ixN_5_1, ixN_5_2, ixN_5_3, ixN_5_4, ixN_5_m1, ixN_6_0, ixN_6_1, ixN_6_2, ixN_6_3, ixN_6_4, ixN_6_5, ixN_6_m1, ixN_7_0, ixN_7_1, ixN_7_2, ixN_7_3, ixN_7_4, ixN_7_5, ixN_7_6, ixN_7_m1, ixN_8_0, ixN_8_1, ixN_8_2, ixN_8_3, ixN_8_4, ixN_8_5, ixN_8_6, ixN_8_7, ixN_8_m1, ixN_9_0, ixN_9_1, ixN_9_2, ixN_9_3, ixN_9_4, ixN_9_5, ixN_9_6, ixN_9_7, ixN_9_8, ixN_9_m1, ixN_10_0, ixN_10_1, ixN_10_2, ixN_10_3, ixN_10_4, ixN_10_5, ixN_10_6, ixN_10_7, ixN_10_8, ixN_10_9, ixN_10_m1, ixN_11_0, ixN_11_1, ixN_11_2, ixN_11_3, ixN_11_4, ixN_11_5, ixN_11_6, ixN_11_7, ixN_11_8, ixN_11_9, ixN_11_10, ixN_11_m1, ixN_12_0, ixN_12_1, ixN_12_2, ixN_12_3, ixN_12_4, ixN_12_5, ixN_12_6, ixN_12_7, ixN_12_8, ixN_12_9, ixN_12_10, ixN_12_11, ixN_12_m1, ixN_13_0, ixN_13_1, ixN_13_2, ixN_13_3, ixN_13_4, ixN_13_5, ixN_13_6, ixN_13_7, ixN_13_8, ixN_13_9, ixN_13_10, ixN_13_11, ixN_13_12, ixN_13_m1, ixN_14_0, ixN_14_1, ixN_14_2, ixN_14_3, ixN_14_4, ixN_14_5, ixN_14_6, ixN_14_7, ixN_14_8, ixN_14_9, ixN_14_10, ixN_14_11, ixN_14_12, ixN_14_13, ixN_14_m1, ixN_15_0, ixN_15_1, ixN_15_2, ixN_15_3, ixN_15_4, ixN_15_5, ixN_15_6, ixN_15_7, ixN_15_8, ixN_15_9, ixN_15_10, ixN_15_11, ixN_15_12, ixN_15_13, ixN_15_14, ixN_15_m1, ix_l0, ix_t0, ix_l1, ix_t1, ix_l2, ix_t2, ix_l3, ix_t3, ix_l4, ix_t4, ix_l5, ix_t5, ix_l6, ix_t6, ix_l7, ix_t7, ix_l8, ix_t8, ix_l9, ix_t9, ix_l10, ix_t10, ix_l11, ix_t11, ix_l12, ix_t12, ix_l13, ix_t13, ev_for, ev_iSeq, ev_mkI, ev_iter_l, ev_iter_t, ev_iter_s, ev_turn_nx, ev_turn_ct, ev_turn_bk, ev_turn_rt, ev_turn_ex, ev_loop0, ev_forR, ev_enum, ev_enumI, ev_zip, ev_wipe0, ev_wipe1, ev_un0, ev_un1, ev_unO_f, ev_unO_n, ev_comp, ev_lc0, ev_lcR0, ev_turnC, ev_tcR, ev_yes, ev_tryAs, ev_tryS_ex, ev_tryS_nx, ev_tryS_rt, ev_tryR, ev_gone_nx, ev_gone_rt, ev_nest, ev_isE, ev_sl, ev_part0, ev_part1, ev_partR, ev_sl_t, ev_sl_l, ev_cast0, ev_cast1, ev_cast2, ev_cast3, ev_cast4, ev_cast5, ev_cast6, ev_cast7, ev_cast8, ev_cast9, ev_cast10, ev_cast11, ev_cast12, ev_cast13, ev_cast14, ev_cast15, ev_cast16, ev_cast17, ev_cast18, ev_cast19, ev_cast20, ev_isi_tt, ev_isi_ti, ev_is_t, ev_isnot_t, ev_isnot_n, ev_zip_tt, ev_zip_ll, op_eqs, op_nes, ev_aug, ev_augR, ev_augS, ev_try, ev_tryT_ex, ev_tryT_nx, ev_tryT_rt, ev_tryT_bk, ev_tryT_ct, ev_tryU, ev_tryU0, ev_cold_nx, ev_cold_rt, back_eq, wipe_eq, unwipe_eq, List.getElem?_cons_zero, List.getElem?_cons_succ, List.set_cons_zero, List.set_cons_succ, Bool.and_true, Bool.true_and, Bool.or_true, Bool.true_or, Bool.or_false, Bool.false_or, Bool.and_false, Bool.false_and, Bool.not_true, Bool.not_false, List.length_cons, List.length_nil, List.map_cons, List.map_nil, List.replicate_succ, List.replicate_zero, List.cons_append, List.nil_append, if_true, if_false, Nat.reduceAdd, Nat.reduceEqDiff, beq_self_eq_true, reduceIte, Nat.zero_add, eq_self, SZ, List.contains_cons, List.contains_nil, Nat.reduceBEq, Nat.reduceLT, Nat.reduceLeDiff, Int.reduceToNat, Int.reducePow, Int.reduceAdd, Int.reduceSub, Int.reduceMul, Int.reduceNeg, Int.reduceLT, Int.reduceLE, Int.reduceEq, Int.reduceDiv, Int.reduceMod, Option.map_some, Option.map_none, cut1, rg1_eq, rb1_ok, rg2_eq, rb2_ok, bk_d0, bk_d1, bk_d2, bk_d3, bk_d4, bk_i0, bk_i1, bk_i2, bk_i3, e1]
      rw [key]
      exact ih
theorem pside_ok (q : Bool) (l : Runs) (i : Int) : Fplace_of_side [.fz (.tup (l.map runD)), .fz (.str (sideS q)), .fz (.int i)] = .ret (.fz (optD (posQ q 0 i l))) [none, none, none] := by
  have e := pq_loop q (some (.fz (.tup (l.map runD)))) l 0 i none none
  unfold Fplace_of_side Bplace_of_side
  revert e
  generalize Lplace_of_side_0 = f1
  generalize posQ q 0 i l = po
  generalize l.map runD = ld
  generalize sideS q = sq
  intro e
  rcases e with ⟨p, z2, z3, z4, z5, rfl, e⟩ | ⟨rfl, z2, z3, z4, z5, e⟩
  · show _ = FR.ret (.fz (.int p)) [none, none, none]
    simp (maxSteps := 20000000) (disch := (first | assumption | omega | (simp only [List.length_cons, List.length_nil, List.length_append, List.length_map, SZ]; done) | (simp only [List.length_cons, List.length_nil, List.length_append, List.length_map, SZ]; omega))) only [ev_seq, ev_seq_nx, ev_seq_rt, ev_seq_ex, ev_seq_bk, ev_seq_ct, ev_nil, ev_pass, ev_break, ev_cont, ev_retN, ev_ret, ev_drop, ev_set, ev_raise, ev_if, ev_par, ev_par3, ev_toS_ok, ev_toS_ex, ev_toS_no, ev_bind_ok, ev_bind_ex, ev_bind_no, ev_it, ev_if_f, ev_C, ev_var, ev_var1, ev_var2, ev_mov, ev_mov1, ev_mov2, ev_okV_e, ev_okV_v, ev_okO, ev_run_e, ev_run_v, ev_get_d, ev_get_i, ev_getO, ev_d_fz, ev_d_ow, ev_d_io, ev_op2, ev_get2, ev_g2, ev_op1, ev_get1, ev_g1, ev_mk, ev_mk0, ev_opN, ev_all_nil, ev_all_cons, ev_runO_nil, ev_runO_cons, ev_getN, ev_gN, ev_getL_nil, ev_getL_cons, ev_gL, ev_runE_nil, ev_runE_cons, ev_tup, ev_lst, ev_mIf, ev_and, ev_or, ev_not, ev_blR, ev_toT, ev_blT, ev_okI, ev_okB, ev_tru, ev_mkT, ev_obind, ev_tru_bl, ev_andT, ev_orT, ev_notT, ev_chain, ev_chR, ev_fn, ev_of_nx, ev_of_rt, ev_of_ex, ev_outs0, ev_outs1, ev_ioE_n, ev_ioE_f, ev_ioE_o, ev_ioE_i, ev_call, ev_callK, ev_callR, ev_args_nil, ev_args_cons, ev_argC, ev_arg_d, ev_arg_i, ev_argO_f, ev_argO_o, ev_argO_i, ev_apart_nil, ev_apart_d, ev_apart_i, ev_any_nil, ev_any_cons, ev_at_d, ev_at_i, ev_ofF_ret, ev_ofF_exc, ev_back0, ev_back1, ev_b1n, ev_b1f, ev_b1o, ev_b1i, ev_bkO0, ev_bkO1, ev_bkI0, ev_bkI1, ev_look0, ev_look_d, ev_look_i, ev_join, ev_head, ev_tail, ev_call1, ev_go_o, ev_go_f, ev_of1_r, ev_of1_e, op_add_i, op_sub_i, op_iadd_i, op_mul_i, op_fdiv_i, op_mod_i, op_pow8_i, op_powL_i, op_lt_i, op_le_i, op_gt_i, op_ge_i, op_neg_i, op_eq_i, op_ne_i, op_eq_s, op_ne_s, op_is_n, op_len_l, op_len_t, op_len_s, op_abs_i, op_max_i, op_min_i, op_int_i, op_int_b, op_divmod_i, op_tup_l, op_tup_t, op_list_l, op_list_t, op_rev_l, op_rev_t, op_own_o, op_own_i, op_setix, op_setR, op_stN, op_as_o, op_as_i, op_isS, op_mut, op_mutR, op_mutS, op_asg_seq, op_asg_seql, op_asg_cons, op_asg_nil, op_asg_nm, op_asg, op_asgR, ixN_1_0, ixN_1_m1, ixN_2_0, ixN_2_1, ixN_2_m1, ixN_3_0, ixN_3_1, ixN_3_2, ixN_3_m1, ixN_4_0, ixN_4_1, ixN_4_2, ixN_4_3, ixN_4_m1, ixN_5_0, ixN_5_1, ixN_5_2, ixN_5_3, ixN_5_4, ixN_5_m1, ixN_6_0, ixN_6_1, ixN_6_2, ixN_6_3, ixN_6_4, ixN_6_5, ixN_6_m1, ixN_7_0, ixN_7_1, ixN_7_2, ixN_7_3, ixN_7_4, ixN_7_5, ixN_7_6, ixN_7_m1, ixN_8_0, ixN_8_1, ixN_8_2, ixN_8_3, ixN_8_4, ixN_8_5, ixN_8_6, ixN_8_7, ixN_8_m1, ixN_9_0, ixN_9_1, ixN_9_2, ixN_9_3, ixN_9_4, ixN_9_5, ixN_9_6, ixN_9_7, ixN_9_8, ixN_9_m1, ixN_10_0, ixN_10_1, ixN_10_2, ixN_10_3, ixN_10_4, ixN_10_5, ixN_10_6, ixN_10_7, ixN_10_8, ixN_10_9, ixN_10_m1, ixN_11_0, ixN_11_1, ixN_11_2, ixN_11_3, ixN_11_4, ixN_11_5, ixN_11_6, ixN_11_7, ixN_11_8, ixN_11_9, ixN_11_10, ixN_11_m1, ixN_12_0, ixN_12_1, ixN_12_2, ixN_12_3, ixN_12_4, ixN_12_5, ixN_12_6, ixN_12_7, ixN_12_8, ixN_12_9, ixN_12_10, ixN_12_11, ixN_12_m1, ixN_13_0, ixN_13_1, ixN_13_2, ixN_13_3, ixN_13_4, ixN_13_5, ixN_13_6, ixN_13_7, ixN_13_8, ixN_13_9, ixN_13_10, ixN_13_11, ixN_13_12, ixN_13_m1, ixN_14_0, ixN_14_1, ixN_14_2, ixN_14_3, ixN_14_4, ixN_14_5, ixN_14_6, ixN_14_7, ixN_14_8, ixN_14_9, ixN_14_10, ixN_14_11, ixN_14_12, ixN_14_13, ixN_14_m1, ixN_15_0, ixN_15_1, ixN_15_2, ixN_15_3, ixN_15_4, ixN_15_5, ixN_15_6, ixN_15_7, ixN_15_8, ixN_15_9, ixN_15_10, ixN_15_11, ixN_15_12, ixN_15_13, ixN_15_14, ixN_15_m1, ix_l0, ix_t0, ix_l1, ix_t1, ix_l2, ix_t2, ix_l3, ix_t3, ix_l4, ix_t4, ix_l5, ix_t5, ix_l6, ix_t6, ix_l7, ix_t7, ix_l8, ix_t8, ix_l9, ix_t9, ix_l10, ix_t10, ix_l11, ix_t11, ix_l12, ix_t12, ix_l13, ix_t13, ev_for, ev_iSeq, ev_mkI, ev_iter_l, ev_iter_t, ev_iter_s, ev_turn_nx, ev_turn_ct, ev_turn_bk, ev_turn_rt, ev_turn_ex, ev_loop0, ev_forR, ev_enum, ev_enumI, ev_zip, ev_wipe0, ev_wipe1, ev_un0, ev_un1, ev_unO_f, ev_unO_n, ev_comp, ev_lc0, ev_lcR0, ev_turnC, ev_tcR, ev_yes, ev_tryAs, ev_tryS_ex, ev_tryS_nx, ev_tryS_rt, ev_tryR, ev_gone_nx, ev_gone_rt, ev_nest, ev_isE, ev_sl, ev_part0, ev_part1, ev_partR, ev_sl_t, ev_sl_l, ev_cast0, ev_cast1, ev_cast2, ev_cast3, ev_cast4, ev_cast5, ev_cast6, ev_cast7, ev_cast8, ev_cast9, ev_cast10, ev_cast11, ev_cast12, ev_cast13, ev_cast14, ev_cast15, ev_cast16, ev_cast17, ev_cast18, ev_cast19, ev_cast20, ev_isi_tt, ev_isi_ti, ev_is_t, ev_isnot_t, ev_isnot_n, ev_zip_tt, ev_zip_ll, op_eqs, op_nes, ev_aug, ev_augR, ev_augS, ev_try, ev_tryT_ex, ev_tryT_nx, ev_tryT_rt, ev_tryT_bk, ev_tryT_ct, ev_tryU, ev_tryU0, ev_cold_nx, ev_cold_rt, back_eq, wipe_eq, unwipe_eq, List.getElem?_cons_zero, List.getElem?_cons_succ, List.set_cons_zero, List.set_cons_succ, Bool.and_true, Bool.true_and, Bool.or_true, Bool.true_or, Bool.or_false, Bool.false_or, Bool.and_false, Bool.false_and, Bool.not_true, Bool.not_false, List.length_cons, List.length_nil, List.map_cons, List.map_nil, List.replicate_succ, List.replicate_zero, List.cons_append, List.nil_append, if_true, if_false, Nat.reduceAdd, Nat.reduceEqDiff, beq_self_eq_true, reduceIte, Nat.zero_add, eq_self, SZ, List.contains_cons, List.contains_nil, Nat.reduceBEq, Nat.reduceLT, Nat.reduceLeDiff, Int.reduceToNat, Int.reducePow, Int.reduceAdd, Int.reduceSub, Int.reduceMul, Int.reduceNeg, Int.reduceLT, Int.reduceLE, Int.reduceEq, Int.reduceDiv, Int.reduceMod, Option.map_some, Option.map_none, cut1, rg1_eq, rb1_ok, rg2_eq, rb2_ok, bk_d0, bk_d1, bk_d2, bk_d3, bk_d4, bk_i0, bk_i1, bk_i2, bk_i3, e]
  · show _ = FR.ret (.fz .non) [none, none, none]
    simp (maxSteps := 20000000) (disch := (first | assumption | omega | (simp only [List.length_cons, List.length_nil, List.length_append, List.length_map, SZ]; done) | (simp only [List.length_cons, List.length_nil, List.length_append, List.length_map, SZ]; omega))) only [ev_seq, ev_seq_nx, ev_seq_rt, ev_seq_ex, ev_seq_bk, ev_seq_ct, ev_nil, ev_pass, ev_break, ev_cont, ev_retN, ev_ret, ev_drop, ev_set, ev_raise, ev_if, ev_par, ev_par3, ev_toS_ok, ev_toS_ex, ev_toS_no, ev_bind_ok, ev_bind_ex, ev_bind_no, ev_it, ev_if_f, ev_C, ev_var, ev_var1, ev_var2, ev_mov, ev_mov1, ev_mov2, ev_okV_e, ev_okV_v, ev_okO, ev_run_e, ev_run_v, ev_get_d, ev_get_i, ev_getO, ev_d_fz, ev_d_ow, ev_d_io, ev_op2, ev_get2, ev_g2, ev_op1, ev_get1, ev_g1, ev_mk, ev_mk0, ev_opN, ev_all_nil, ev_all_cons, ev_runO_nil, ev_runO_cons, ev_getN, ev_gN, ev_getL_nil, ev_getL_cons, ev_gL, ev_runE_nil, ev_runE_cons, ev_tup, ev_lst, ev_mIf, ev_and, ev_or, ev_not, ev_blR, ev_toT, ev_blT, ev_okI, ev_okB, ev_tru, ev_mkT, ev_obind, ev_tru_bl, ev_andT, ev_orT, ev_notT, ev_chain, ev_chR, ev_fn, ev_of_nx, ev_of_rt, ev_of_ex, ev_outs0, ev_outs1, ev_ioE_n, ev_ioE_f, ev_ioE_o, ev_ioE_i, ev_call, ev_callK, ev_callR, ev_args_nil, ev_args_cons, ev_argC, ev_arg_d, ev_arg_i, ev_argO_f, ev_argO_o, ev_argO_i, ev_apart_nil, ev_apart_d, ev_apart_i, ev_any_nil, ev_any_cons, ev_at_d, ev_at_i, ev_ofF_ret, ev_ofF_exc, ev_back0, ev_back1, ev_b1n, ev_b1f, ev_b1o, ev_b1i, ev_bkO0, ev_bkO1, ev_bkI0, ev_bkI1, ev_look0, ev_look_d, ev_look_i, ev_join, ev_head, ev_tail, ev_call1, ev_go_o, ev_go_f, ev_of1_r, ev_of1_e, op_add_i, op_sub_i, op_iadd_i, op_mul_i, op_fdiv_i, op_mod_i, op_pow8_i, op_powL_i, op_lt_i, op_le_i, op_gt_i, op_ge_i, op_neg_i, op_eq_i, op_ne_i, op_eq_s, op_ne_s, op_is_n, op_len_l, op_len_t, op_len_s, op_abs_i, op_max_i, op_min_i, op_int_i, op_int_b, op_divmod_i, op_tup_l, op_tup_t, op_list_l, op_list_t, op_rev_l, op_rev_t, op_own_o, op_own_i, op_setix, op_setR, op_stN, op_as_o, op_as_i, op_isS, op_mut, op_mutR, op_mutS, op_asg_seq, op_asg_seql, op_asg_cons, op_asg_nil, op_asg_nm, op_asg, op_asgR, ixN_1_0, ixN_1_m1, ixN_2_0, ixN_2_1, ixN_2_m1, ixN_3_0, ixN_3_1, ixN_3_2, ixN_3_m1, ixN_4_0, ixN_4_1, ixN_4_2, ixN_4_3, ixN_4_m1, ixN_5_0, ixN_5_1, ixN_5_2, ixN_5_3, ixN_5_4, ixN_5_m1, ixN_6_0, ixN_6_1, ixN_6_2, ixN_6_3, ixN_6_4, ixN_6_5, ixN_6_m1, ixN_7_0, ixN_7_1, ixN_7_2, ixN_7_3, ixN_7_4, ixN_7_5, ixN_7_6, ixN_7_m1, ixN_8_0, ixN_8_1, ixN_8_2, ixN_8_3, ixN_8_4, ixN_8_5, ixN_8_6, ixN_8_7, ixN_8_m1, ixN_9_0, ixN_9_1, ixN_9_2, ixN_9_3, ixN_9_4, ixN_9_5, ixN_9_6, ixN_9_7, ixN_9_8, ixN_9_m1, ixN_10_0, ixN_10_1, ixN_10_2, ixN_10_3, ixN_10_4, ixN_10_5, ixN_10_6, ixN_10_7, ixN_10_8, ixN_10_9, ixN_10_m1, ixN_11_0, ixN_11_1, ixN_11_2, ixN_11_3, ixN_11_4, ixN_11_5, ixN_11_6, ixN_11_7, ixN_11_8, ixN_11_9, ixN_11_10, ixN_11_m1, ixN_12_0, ixN_12_1, ixN_12_2, ixN_12_3, ixN_12_4, ixN_12_5, ixN_12_6, ixN_12_7, ixN_12_8, ixN_12_9, ixN_12_10, ixN_12_11, ixN_12_m1, ixN_13_0, ixN_13_1, ixN_13_2, ixN_13_3, ixN_13_4, ixN_13_5, ixN_13_6, ixN_13_7, ixN_13_8, ixN_13_9, ixN_13_10, ixN_13_11, ixN_13_12, ixN_13_m1, ixN_14_0, ixN_14_1, ixN_14_2, ixN_14_3, ixN_14_4, ixN_14_5, ixN_14_6, ixN_14_7, ixN_14_8, ixN_14_9, ixN_14_10, ixN_14_11, ixN_14_12, ixN_14_13, ixN_14_m1, ixN_15_0, ixN_15_1, ixN_15_2, ixN_15_3, ixN_15_4, ixN_15_5, ixN_15_6, ixN_15_7, ixN_15_8, ixN_15_9, ixN_15_10, ixN_15_11, ixN_15_12, ixN_15_13, ixN_15_14, ixN_15_m1, ix_l0, ix_t0, ix_l1, ix_t1, ix_l2, ix_t2, ix_l3, ix_t3, ix_l4, ix_t4, ix_l5, ix_t5, ix_l6, ix_t6, ix_l7, ix_t7, ix_l8, ix_t8, ix_l9, ix_t9, ix_l10, ix_t10, ix_l11, ix_t11, ix_l12, ix_t12, ix_l13, ix_t13, ev_for, ev_iSeq, ev_mkI, ev_iter_l, ev_iter_t, ev_iter_s, ev_turn_nx, ev_turn_ct, ev_turn_bk, ev_turn_rt, ev_turn_ex, ev_loop0, ev_forR, ev_enum, ev_enumI, ev_zip, ev_wipe0, ev_wipe1, ev_un0, ev_un1, ev_unO_f, ev_unO_n, ev_comp, ev_lc0, ev_lcR0, ev_turnC, ev_tcR, ev_yes, ev_tryAs, ev_tryS_ex, ev_tryS_nx, ev_tryS_rt, ev_tryR, ev_gone_nx, ev_gone_rt, ev_nest, ev_isE, ev_sl, ev_part0, ev_part1, ev_partR, ev_sl_t, ev_sl_l, ev_cast0, ev_cast1, ev_cast2, ev_cast3, ev_cast4, ev_cast5, ev_cast6, ev_cast7, ev_cast8, ev_cast9, ev_cast10, ev_cast11, ev_cast12, ev_cast13, ev_cast14, ev_cast15, ev_cast16, ev_cast17, ev_cast18, ev_cast19, ev_cast20, ev_isi_tt, ev_isi_ti, ev_is_t, ev_isnot_t, ev_isnot_n, ev_zip_tt, ev_zip_ll, op_eqs, op_nes, ev_aug, ev_augR, ev_augS, ev_try, ev_tryT_ex, ev_tryT_nx, ev_tryT_rt, ev_tryT_bk, ev_tryT_ct, ev_tryU, ev_tryU0, ev_cold_nx, ev_cold_rt, back_eq, wipe_eq, unwipe_eq, List.getElem?_cons_zero, List.getElem?_cons_succ, List.set_cons_zero, List.set_cons_succ, Bool.and_true, Bool.true_and, Bool.or_true, Bool.true_or, Bool.or_false, Bool.false_or, Bool.and_false, Bool.false_and, Bool.not_true, Bool.not_false, List.length_cons, List.length_nil, List.map_cons, List.map_nil, List.replicate_succ, List.replicate_zero, List.cons_append, List.nil_append, if_true, if_false, Nat.reduceAdd, Nat.reduceEqDiff, beq_self_eq_true, reduceIte, Nat.zero_add, eq_self, SZ, List.contains_cons, List.contains_nil, Nat.reduceBEq, Nat.reduceLT, Nat.reduceLeDiff, Int.reduceToNat, Int.reducePow, Int.reduceAdd, Int.reduceSub, Int.reduceMul, Int.reduceNeg, Int.reduceLT, Int.reduceLE, Int.reduceEq, Int.reduceDiv, Int.reduceMod, Option.map_some, Option.map_none, cut1, rg1_eq, rb1_ok, rg2_eq, rb2_ok, bk_d0, bk_d1, bk_d2, bk_d3, bk_d4, bk_i0, bk_i1, bk_i2, bk_i3, e]
theorem place_of_ok {l : Runs} (h : Good l) (hn : l ≠ []) (hl : l.length < 900) (q : Bool) {i : Int} (hi : 0 ≤ i) : Fplace_of [.fz (.tup (l.map runD)), .fz (.str (sideS q)), .fz (.int i)] = .ret (.fz (optD (posQ q 0 i l))) [none, none, none] := by
  have e1 := check_posts_ok h hn hl
  have e2 := is_side_ok q
  have e3 := is_int_i i 0
  rw [decide_eq_true hi] at e3
  have e4 := pside_ok q l i
  unfold Fplace_of Bplace_of
  revert e1 e2 e3 e4
  generalize Fcheck_posts = f1
  generalize Fis_side = f2
  generalize Fis_integer = f3
  generalize Fplace_of_side = f4
  generalize optD (posQ q 0 i l) = od
  generalize D.tup (l.map runD) = ld
  generalize sideS q = sq
  intro e1 e2 e3 e4
  simp (maxSteps := 20000000) (disch := (first | assumption | omega | (simp only [List.length_cons, List.length_nil, List.length_append, List.length_map, SZ]; done) | (simp only [List.length_cons, List.length_nil, List.length_append, List.length_map, SZ]; omega))) only [ev_seq, ev_seq_nx, ev_seq_rt, ev_seq_ex, ev_seq_bk, ev_seq_ct, ev_nil, ev_pass, ev_break, ev_cont, ev_retN, ev_ret, ev_drop, ev_set, ev_raise, ev_if, ev_par, ev_par3, ev_toS_ok, ev_toS_ex, ev_toS_no, ev_bind_ok, ev_bind_ex, ev_bind_no, ev_it, ev_if_f, ev_C, ev_var, ev_var1, ev_var2, ev_mov, ev_mov1, ev_mov2, ev_okV_e, ev_okV_v, ev_okO, ev_run_e, ev_run_v, ev_get_d, ev_get_i, ev_getO, ev_d_fz, ev_d_ow, ev_d_io, ev_op2, ev_get2, ev_g2, ev_op1, ev_get1, ev_g1, ev_mk, ev_mk0, ev_opN, ev_all_nil, ev_all_cons, ev_runO_nil, ev_runO_cons, ev_getN, ev_gN, ev_getL_nil, ev_getL_cons, ev_gL, ev_runE_nil, ev_runE_cons, ev_tup, ev_lst, ev_mIf, ev_and, ev_or, ev_not, ev_blR, ev_toT, ev_blT, ev_okI, ev_okB, ev_tru, ev_mkT, ev_obind, ev_tru_bl, ev_andT, ev_orT, ev_notT, ev_chain, ev_chR, ev_fn, ev_of_nx, ev_of_rt, ev_of_ex, ev_outs0, ev_outs1, ev_ioE_n, ev_ioE_f, ev_ioE_o, ev_ioE_i, ev_call, ev_callK, ev_callR, ev_args_nil, ev_args_cons, ev_argC, ev_arg_d, ev_arg_i, ev_argO_f, ev_argO_o, ev_argO_i, ev_apart_nil, ev_apart_d, ev_apart_i, ev_any_nil, ev_any_cons, ev_at_d, ev_at_i, ev_ofF_ret, ev_ofF_exc, ev_back0, ev_back1, ev_b1n, ev_b1f, ev_b1o, ev_b1i, ev_bkO0, ev_bkO1, ev_bkI0, ev_bkI1, ev_look0, ev_look_d, ev_look_i, ev_join, ev_head, ev_tail, ev_call1, ev_go_o, ev_go_f, ev_of1_r, ev_of1_e, op_add_i, op_sub_i, op_iadd_i, op_mul_i, op_fdiv_i, op_mod_i, op_pow8_i, op_powL_i, op_lt_i, op_le_i, op_gt_i, op_ge_i, op_neg_i, op_eq_i, op_ne_i, op_eq_s, op_ne_s, op_is_n, op_len_l, op_len_t, op_len_s, op_abs_i, op_max_i, op_min_i, op_int_i, op_int_b, op_divmod_i, op_tup_l, op_tup_t, op_list_l, op_list_t, op_rev_l, op_rev_t, op_own_o, op_own_i, op_setix, op_setR, op_stN, op_as_o, op_as_i, op_isS, op_mut, op_mutR, op_mutS, op_asg_seq, op_asg_seql, op_asg_cons, op_asg_nil, op_asg_nm, op_asg, op_asgR, ixN_1_0, ixN_1_m1, ixN_2_0, ixN_2_1, ixN_2_m1, ixN_3_0, ixN_3_1, ixN_3_2, ixN_3_m1, ixN_4_0, ixN_4_1, ixN_4_2, ixN_4_3, ixN_4_m1, ixN_5_0, ixN_5_1, ixN_5_2, ixN_5_3, ixN_5_4, ixN_5_m1, ixN_6_0, ixN_6_1, ixN_6_2, ixN_6_3, ixN_6_4, ixN_6_5, ixN_6_m1, ixN_7_0, ixN_7_1, ixN_7_2, ixN_7_3, ixN_7_4, ixN_7_5, ixN_7_6, ixN_7_m1, ixN_8_0, ixN_8_1, ixN_8_2, ixN_8_3, ixN_8_4, ixN_8_5, ixN_8_6, ixN_8_7, ixN_8_m1, ixN_9_0, ixN_9_1, ixN_9_2, ixN_9_3, ixN_9_4, ixN_9_5, ixN_9_6, ixN_9_7, ixN_9_8, ixN_9_m1, ixN_10_0, ixN_10_1, ixN_10_2, ixN_10_3, ixN_10_4, ixN_10_5, ixN_10_6, ixN_10_7, ixN_10_8, ixN_10_9, ixN_10_m1, ixN_11_0, ixN_11_1, ixN_11_2, ixN_11_3, ixN_11_4, ixN_11_5, ixN_11_6, ixN_11_7, ixN_11_8, ixN_11_9, ixN_11_10, ixN_11_m1, ixN_12_0, ixN_12_1, ixN_12_2, ixN_12_3, ixN_12_4, ixN_12_5, ixN_12_6, ixN_12_7, ixN_12_8, ixN_12_9, ixN_12_10, ixN_12_11, ixN_12_m1, ixN_13_0, ixN_13_1, ixN_13_2, ixN_13_3, ixN_13_4, ixN_13_5, ixN_13_6, ixN_13_7, ixN_13_8, ixN_13_9, ixN_13_10, ixN_13_11, ixN_13_12, ixN_13_m1, ixN_14_0, ixN_14_1, ixN_14_2, ixN_14_3, ixN_14_4, ixN_14_5, ixN_14_6, ixN_14_7, ixN_14_8, ixN_14_9, ixN_14_10, ixN_14_11, ixN_14_12, ixN_14_13, ixN_14_m1, ixN_15_0, ixN_15_1, ixN_15_2, ixN_15_3, ixN_15_4, ixN_15_5, ixN_15_6, ixN_15_7, ixN_15_8, ixN_15_9, ixN_15_10, ixN_15_11, ixN_15_12, ixN_15_13, ixN_15_14, ixN_15_m1, ix_l0, ix_t0, ix_l1, ix_t1, ix_l2, ix_t2, ix_l3, ix_t3, ix_l4, ix_t4, ix_l5, ix_t5, ix_l6, ix_t6, ix_l7, ix_t7, ix_l8, ix_t8, ix_l9, ix_t9, ix_l10, ix_t10, ix_l11, ix_t11, ix_l12, ix_t12, ix_l13, ix_t13, ev_for, ev_iSeq, ev_mkI, ev_iter_l, ev_iter_t, ev_iter_s, ev_turn_nx, ev_turn_ct, ev_turn_bk, ev_turn_rt, ev_turn_ex, ev_loop0, ev_forR, ev_enum, ev_enumI, ev_zip, ev_wipe0, ev_wipe1, ev_un0, ev_un1, ev_unO_f, ev_unO_n, ev_comp, ev_lc0, ev_lcR0, ev_turnC, ev_tcR, ev_yes, ev_tryAs, ev_tryS_ex, ev_tryS_nx, ev_tryS_rt, ev_tryR, ev_gone_nx, ev_gone_rt, ev_nest, ev_isE, ev_sl, ev_part0, ev_part1, ev_partR, ev_sl_t, ev_sl_l, ev_cast0, ev_cast1, ev_cast2, ev_cast3, ev_cast4, ev_cast5, ev_cast6, ev_cast7, ev_cast8, ev_cast9, ev_cast10, ev_cast11, ev_cast12, ev_cast13, ev_cast14, ev_cast15, ev_cast16, ev_cast17, ev_cast18, ev_cast19, ev_cast20, ev_isi_tt, ev_isi_ti, ev_is_t, ev_isnot_t, ev_isnot_n, ev_zip_tt, ev_zip_ll, op_eqs, op_nes, ev_aug, ev_augR, ev_augS, ev_try, ev_tryT_ex, ev_tryT_nx, ev_tryT_rt, ev_tryT_bk, ev_tryT_ct, ev_tryU, ev_tryU0, ev_cold_nx, ev_cold_rt, back_eq, wipe_eq, unwipe_eq, List.getElem?_cons_zero, List.getElem?_cons_succ, List.set_cons_zero, List.set_cons_succ, Bool.and_true, Bool.true_and, Bool.or_true, Bool.true_or, Bool.or_false, Bool.false_or, Bool.and_false, Bool.false_and, Bool.not_true, Bool.not_false, List.length_cons, List.length_nil, List.map_cons, List.map_nil, List.replicate_succ, List.replicate_zero, List.cons_append, List.nil_append, if_true, if_false, Nat.reduceAdd, Nat.reduceEqDiff, beq_self_eq_true, reduceIte, Nat.zero_add, eq_self, SZ, List.contains_cons, List.contains_nil, Nat.reduceBEq, Nat.reduceLT, Nat.reduceLeDiff, Int.reduceToNat, Int.reducePow, Int.reduceAdd, Int.reduceSub, Int.reduceMul, Int.reduceNeg, Int.reduceLT, Int.reduceLE, Int.reduceEq, Int.reduceDiv, Int.reduceMod, Option.map_some, Option.map_none, cut1, rg1_eq, rb1_ok, rg2_eq, rb2_ok, bk_d0, bk_d1, bk_d2, bk_d3, bk_d4, bk_i0, bk_i1, bk_i2, bk_i3, e1, e2, e3, e4]
/-! ### the law's rows -/
def rwD (x : Int × Int × Int) : D := .tup [.int x.1, .int x.2.1, .int x.2.2]
theorem rows_loop (q : Bool) (x0 : Option Sl) : ∀ (l : Runs) (o b : Int) (acc : List D) (y5 y6 : Option Sl), acc.length + l.length < 1000 →
    ∃ z3 z4 z5 z6, loopF (gSeq 2 (gsCons (gNm 5) (gsCons (gNm 6) gsNil))) L_law_rows_0 (l.map runD) [x0, some (.fz (.str (sideS q))), some (.ow acc), some (.fz (.int o)), some (.fz (.int b)), y5, y6] = .nx [x0, some (.fz (.str (sideS q))), some (.ow (acc ++ (rws q o b l).map rwD)), z3, z4, z5, z6]
  | [], o, b, acc, y5, y6, _ => ⟨some (.fz (.int o)), some (.fz (.int b)), y5, y6, by rw [show acc ++ (rws q o b []).map rwD = acc from List.append_nil _]; rfl⟩
  | (r, c) :: l, o, b, acc, y5, y6, h => by
    rw [List.length_cons] at h
    have e0 : runD (r, c) = .tup [.str (sideS r), .int c] := rfl
    have e1 := side_qq r q
    rw [List.map_cons, loop_cons, e0]
    by_cases hr : r = q
    · have e2 : (r == q) = true := by simpa using hr
      rw [e2] at e1
      have ep : rws q o b ((r, c) :: l) = (b, o + 1, c) :: rws q (o + c) (b + c) l := by
        show (if r = q then _ else _) = _
        rw [if_pos hr]
      have ea : fAppend acc [.tup [.int b, .int (o + 1), .int c]] = some (.non, acc ++ [.tup [.int b, .int (o + 1), .int c]]) := op_append (by unfold SZ; omega)
      obtain ⟨z3, z4, z5, z6, ih⟩ := rows_loop q x0 l (o + c) (b + c) (acc ++ [.tup [.int b, .int (o + 1), .int c]]) (some (.fz (.str (sideS r)))) (some (.fz (.int c))) (by rw [List.length_append, List.length_cons, List.length_nil]; omega)
      refine ⟨z3, z4, z5, z6, ?_⟩
      have e3 : acc ++ (rws q o b ((r, c) :: l)).map rwD = acc ++ [.tup [.int b, .int (o + 1), .int c]] ++ (rws q (o + c) (b + c) l).map rwD := by
        rw [ep, List.append_assoc]
        rfl
      rw [e3]
      revert ih ea
      generalize loopF (gSeq 2 (gsCons (gNm 5) (gsCons (gNm 6) gsNil))) L_law_rows_0 (l.map runD) = kk
      intro ih ea
      unfold L_law_rows_0
      simp (maxSteps := 20000000) (disch := (first | assumption | omega | (simp only [List.length_cons, List.length_nil, List.length_append, List.length_map, SZ]; done) | (simp only [List.length_cons, List.length_nil, List.length_append, List.length_map, SZ]; omega))) only [ev_seq, ev_seq_nx, ev_seq_rt, ev_seq_ex, ev_seq_bk, ev_seq_ct, ev_nil, ev_pass, ev_break, ev_cont, ev_retN, ev_ret, ev_drop, ev_set, ev_raise, ev_if, ev_par, ev_par3, ev_toS_ok, ev_toS_ex, ev_toS_no, ev_bind_ok, ev_bind_ex, ev_bind_no, ev_it, ev_if_f, ev_C, ev_var, ev_var1, ev_var2, ev_mov, ev_mov1, ev_mov2, ev_okV_e, ev_okV_v, ev_okO, ev_run_e, ev_run_v, ev_get_d, ev_get_i, ev_getO, ev_d_fz, ev_d_ow, ev_d_io, ev_op2, ev_get2, ev_g2, ev_op1, ev_get1, ev_g1, ev_mk, ev_mk0, ev_opN, ev_all_nil, ev_all_cons, ev_runO_nil, ev_runO_cons, ev_getN, ev_gN, ev_getL_nil, ev_getL_cons, ev_gL, ev_runE_nil, ev_runE_cons, ev_tup, ev_lst, ev_mIf, ev_and, ev_or, ev_not, ev_blR, ev_toT, ev_blT, ev_okI, ev_okB, ev_tru, ev_mkT, ev_obind, ev_tru_bl, ev_andT, ev_orT, ev_notT, ev_chain, ev_chR, ev_fn, ev_of_nx, ev_of_rt, ev_of_ex, ev_outs0, ev_outs1, ev_ioE_n, ev_ioE_f, ev_ioE_o, ev_ioE_i, ev_call, ev_callK, ev_callR, ev_args_nil, ev_args_cons, ev_argC, ev_arg_d, ev_arg_i, ev_argO_f, ev_argO_o, ev_argO_i, ev_apart_nil, ev_apart_d, ev_apart_i, ev_any_nil, ev_any_cons, ev_at_d, ev_at_i, ev_ofF_ret, ev_ofF_exc, ev_back0, ev_back1, ev_b1n, ev_b1f, ev_b1o, ev_b1i, ev_bkO0, ev_bkO1, ev_bkI0, ev_bkI1, ev_look0, ev_look_d, ev_look_i, ev_join, ev_head, ev_tail, ev_call1, ev_go_o, ev_go_f, ev_of1_r, ev_of1_e, op_add_i, op_sub_i, op_iadd_i, op_mul_i, op_fdiv_i, op_mod_i, op_pow8_i, op_powL_i, op_lt_i, op_le_i, op_gt_i, op_ge_i, op_neg_i, op_eq_i, op_ne_i, op_eq_s, op_ne_s, op_is_n, op_len_l, op_len_t, op_len_s, op_abs_i, op_max_i, op_min_i, op_int_i, op_int_b, op_divmod_i, op_tup_l, op_tup_t, op_list_l, op_list_t, op_rev_l, op_rev_t, op_own_o, op_own_i, op_setix, op_setR, op_stN, op_as_o, op_as_i, op_isS, op_mut, op_mutR, op_mutS, op_asg_seq, op_asg_seql, op_asg_cons, op_asg_nil, op_asg_nm, op_asg, op_asgR, ixN_1_0, ixN_1_m1, ixN_2_0, ixN_2_1, ixN_2_m1, ixN_3_0, ixN_3_1, ixN_3_2, ixN_3_m1, ixN_4_0, ixN_4_1, ixN_4_2, ixN_4_3, ixN_4_m1, ixN_5_0, ixN_5_1, ixN_5_2, ixN_5_3, ixN_5_4, ixN_5_m1, ixN_6_0, ixN_6_1, ixN_6_2, ixN_6_3, ixN_6_4, ixN_6_5, ixN_6_m1, ixN_7_0, ixN_7_1, ixN_7_2, ixN_7_3, ixN_7_4, ixN_7_5, ixN_7_6, ixN_7_m1, ixN_8_0, ixN_8_1, ixN_8_2, ixN_8_3, ixN_8_4, ixN_8_5, ixN_8_6, ixN_8_7, ixN_8_m1, ixN_9_0, ixN_9_1, ixN_9_2, ixN_9_3, ixN_9_4, ixN_9_5, ixN_9_6, ixN_9_7, ixN_9_8, ixN_9_m1, ixN_10_0, ixN_10_1, ixN_10_2, ixN_10_3, ixN_10_4, ixN_10_5, ixN_10_6, ixN_10_7, ixN_10_8, ixN_10_9, ixN_10_m1, ixN_11_0, ixN_11_1, ixN_11_2, ixN_11_3, ixN_11_4, ixN_11_5, ixN_11_6, ixN_11_7, ixN_11_8, ixN_11_9, ixN_11_10, ixN_11_m1, ixN_12_0, ixN_12_1, ixN_12_2, ixN_12_3, ixN_12_4, ixN_12_5, ixN_12_6, ixN_12_7, ixN_12_8, ixN_12_9, ixN_12_10, ixN_12_11, ixN_12_m1, ixN_13_0, ixN_13_1, ixN_13_2, ixN_13_3, ixN_13_4, ixN_13_5, ixN_13_6, ixN_13_7, ixN_13_8, ixN_13_9, ixN_13_10, ixN_13_11, ixN_13_12, ixN_13_m1, ixN_14_0, ixN_14_1, ixN_14_2, ixN_14_3, ixN_14_4, ixN_14_5, ixN_14_6, ixN_14_7, ixN_14_8, ixN_14_9, ixN_14_10, ixN_14_11, ixN_14_12, ixN_14_13, ixN_14_m1, ixN_15_0, ixN_15_1, ixN_15_2, ixN_15_3, ixN_15_4, ixN_15_5, ixN_15_6, ixN_15_7, ixN_15_8, ixN_15_9, ixN_15_10, ixN_15_11, ixN_15_12, ixN_15_13, ixN_15_14, ixN_15_m1, ix_l0, ix_t0, ix_l1, ix_t1, ix_l2, ix_t2, ix_l3, ix_t3, ix_l4, ix_t4, ix_l5, ix_t5, ix_l6, ix_t6, ix_l7, ix_t7, ix_l8, ix_t8, ix_l9, ix_t9, ix_l10, ix_t10, ix_l11, ix_t11, ix_l12, ix_t12, ix_l13, ix_t13, ev_for, ev_iSeq, ev_mkI, ev_iter_l, ev_iter_t, ev_iter_s, ev_turn_nx, ev_turn_ct, ev_turn_bk, ev_turn_rt, ev_turn_ex, ev_loop0, ev_forR, ev_enum, ev_enumI, ev_zip, ev_wipe0, ev_wipe1, ev_un0, ev_un1, ev_unO_f, ev_unO_n, ev_comp, ev_lc0, ev_lcR0, ev_turnC, ev_tcR, ev_yes, ev_tryAs, ev_tryS_ex, ev_tryS_nx, ev_tryS_rt, ev_tryR, ev_gone_nx, ev_gone_rt, ev_nest, ev_isE, ev_sl, ev_part0, ev_part1, ev_partR, ev_sl_t, ev_sl_l, ev_cast0, ev_cast1, ev_cast2, ev_cast3, ev_cast4, ev_cast5, ev_cast6, ev_cast7, ev_cast8, ev_cast9, ev_cast10, ev_cast11, ev_cast12, ev_cast13, ev_cast14, ev_cast15, ev_cast16, ev_cast17, ev_cast18, ev_cast19, ev_cast20, ev_isi_tt, ev_isi_ti, ev_is_t, ev_isnot_t, ev_isnot_n, ev_zip_tt, ev_zip_ll, op_eqs, op_nes, ev_aug, ev_augR, ev_augS, ev_try, ev_tryT_ex, ev_tryT_nx, ev_tryT_rt, ev_tryT_bk, ev_tryT_ct, ev_tryU, ev_tryU0, ev_cold_nx, ev_cold_rt, back_eq, wipe_eq, unwipe_eq, List.getElem?_cons_zero, List.getElem?_cons_succ, List.set_cons_zero, List.set_cons_succ, Bool.and_true, Bool.true_and, Bool.or_true, Bool.true_or, Bool.or_false, Bool.false_or, Bool.and_false, Bool.false_and, Bool.not_true, Bool.not_false, List.length_cons, List.length_nil, List.map_cons, List.map_nil, List.replicate_succ, List.replicate_zero, List.cons_append, List.nil_append, if_true, if_false, Nat.reduceAdd, Nat.reduceEqDiff, beq_self_eq_true, reduceIte, Nat.zero_add, eq_self, SZ, List.contains_cons, List.contains_nil, Nat.reduceBEq, Nat.reduceLT, Nat.reduceLeDiff, Int.reduceToNat, Int.reducePow, Int.reduceAdd, Int.reduceSub, Int.reduceMul, Int.reduceNeg, Int.reduceLT, Int.reduceLE, Int.reduceEq, Int.reduceDiv, Int.reduceMod, Option.map_some, Option.map_none, cut1, rg1_eq, rb1_ok, rg2_eq, rb2_ok, bk_d0, bk_d1, bk_d2, bk_d3, bk_d4, bk_i0, bk_i1, bk_i2, bk_i3, e1, ea, ih]
    · have e2 : (r == q) = false := by simpa using hr
      rw [e2] at e1
      have ep : rws q o b ((r, c) :: l) = rws q (o + c) b l := by
        show (if r = q then _ else _) = _
        rw [if_neg hr]
      obtain ⟨z3, z4, z5, z6, ih⟩ := rows_loop q x0 l (o + c) b acc (some (.fz (.str (sideS r)))) (some (.fz (.int c))) (by omega)
      refine ⟨z3, z4, z5, z6, ?_⟩
      rw [ep]
      revert ih
      generalize loopF (gSeq 2 (gsCons (gNm 5) (gsCons (gNm 6) gsNil))) L_law_rows_0 (l.map runD) = kk
      intro ih
      unfold L_law_rows_0
      simp (maxSteps := 20000000) (disch := (first | assumption | omega | (simp only [List.length_cons, List.length_nil, List.length_append, List.length_map, SZ]; done) | (simp only [List.length_cons, List.length_nil, List.length_append, List.length_map, SZ]; omega))) only [ev_seq, ev_seq_nx, ev_seq_rt, ev_seq_ex, ev_seq_bk, ev_seq_ct, ev_nil, ev_pass, ev_break, ev_cont, ev_retN, ev_ret, ev_drop, ev_set, ev_raise, ev_if, ev_par, ev_par3, ev_toS_ok, ev_toS_ex, ev_toS_no, ev_bind_ok, ev_bind_ex, ev_bind_no, ev_it, ev_if_f, ev_C, ev_var, ev_var1, ev_var2, ev_mov, ev_mov1, ev_mov2, ev_okV_e, ev_okV_v, ev_okO, ev_run_e, ev_run_v, ev_get_d, ev_get_i, ev_getO, ev_d_fz, ev_d_ow, ev_d_io, ev_op2, ev_get2, ev_g2, ev_op1, ev_get1, ev_g1, ev_mk, ev_mk0, ev_opN, ev_all_nil, ev_all_cons, ev_runO_nil, ev_runO_cons, ev_getN, ev_gN, ev_getL_nil, ev_getL_cons, ev_gL, ev_runE_nil, ev_runE_cons, ev_tup, ev_lst, ev_mIf, ev_and, ev_or, ev_not, ev_blR, ev_toT, ev_blT, ev_okI, ev_okB, ev_tru, ev_mkT, ev_obind, ev_tru_bl, ev_andT, ev_orT, ev_notT, ev_chain, ev_chR, ev_fn, ev_of_nx, ev_of_rt, ev_of_ex, ev_outs0, ev_outs1, ev_ioE_n, ev_ioE_f, ev_ioE_o, ev_ioE_i, ev_call, ev_callK, ev_callR, ev_args_nil, ev_args_cons, ev_argC, ev_arg_d, ev_arg_i, ev_argO_f, ev_argO_o, ev_argO_i, ev_apart_nil, ev_apart_d, ev_apart_i, ev_any_nil, ev_any_cons, ev_at_d, ev_at_i, ev_ofF_ret, ev_ofF_exc, ev_back0, ev_back1, ev_b1n, ev_b1f, ev_b1o, ev_b1i, ev_bkO0, ev_bkO1, ev_bkI0, ev_bkI1, ev_look0, ev_look_d, ev_look_i, ev_join, ev_head, ev_tail, ev_call1, ev_go_o, ev_go_f, ev_of1_r, ev_of1_e, op_add_i, op_sub_i, op_iadd_i, op_mul_i, op_fdiv_i, op_mod_i, op_pow8_i, op_powL_i, op_lt_i, op_le_i, op_gt_i, op_ge_i, op_neg_i, op_eq_i, op_ne_i, op_eq_s, op_ne_s, op_is_n, op_len_l, op_len_t, op_len_s, op_abs_i, op_max_i, op_min_i, op_int_i, op_int_b, op_divmod_i, op_tup_l, op_tup_t, op_list_l, op_list_t, op_rev_l, op_rev_t, op_own_o, op_own_i, op_setix, op_setR, op_stN, op_as_o, op_as_i, op_isS, op_mut, op_mutR, op_mutS, op_asg_seq, op_asg_seql, op_asg_cons, op_asg_nil, op_asg_nm, op_asg, op_asgR, ixN_1_0, ixN_1_m1, ixN_2_0, ixN_2_1, ixN_2_m1, ixN_3_0, ixN_3_1, ixN_3_2, ixN_3_m1, ixN_4_0, ixN_4_1, ixN_4_2, ixN_4_3, ixN_4_m1, ixN_5_0, ixN_5_1, ixN_5_2, ixN_5_3, ixN_5_4, ixN_5_m1, ixN_6_0, ixN_6_1, ixN_6_2, ixN_6_3, ixN_6_4, ixN_6_5, ixN_6_m1, ixN_7_0, ixN_7_1, ixN_7_2, ixN_7_3, ixN_7_4, ixN_7_5, ixN_7_6, ixN_7_m1, ixN_8_0, ixN_8_1, ixN_8_2, ixN_8_3, ixN_8_4, ixN_8_5, ixN_8_6, ixN_8_7, ixN_8_m1, ixN_9_0, ixN_9_1, ixN_9_2, ixN_9_3, ixN_9_4, ixN_9_5, ixN_9_6, ixN_9_7, ixN_9_8, ixN_9_m1, ixN_10_0, ixN_10_1, ixN_10_2, ixN_10_3, ixN_10_4, ixN_10_5, ixN_10_6, ixN_10_7, ixN_10_8, ixN_10_9, ixN_10_m1, ixN_11_0, ixN_11_1, ixN_11_2, ixN_11_3, ixN_11_4, ixN_11_5, ixN_11_6, ixN_11_7, ixN_11_8, ixN_11_9, ixN_11_10, ixN_11_m1, ixN_12_0, ixN_12_1, ixN_12_2, ixN_12_3, ixN_12_4, ixN_12_5, ixN_12_6, ixN_12_7, ixN_12_8, ixN_12_9, ixN_12_10, ixN_12_11, ixN_12_m1, ixN_13_0, ixN_13_1, ixN_13_2, ixN_13_3, ixN_13_4, ixN_13_5, ixN_13_6, ixN_13_7, ixN_13_8, ixN_13_9, ixN_13_10, ixN_13_11, ixN_13_12, ixN_13_m1, ixN_14_0, ixN_14_1, ixN_14_2, ixN_14_3, ixN_14_4, ixN_14_5, ixN_14_6, ixN_14_7, ixN_14_8, ixN_14_9, ixN_14_10, ixN_14_11, ixN_14_12, ixN_14_13, ixN_14_m1, ixN_15_0, ixN_15_1, ixN_15_2, ixN_15_3, ixN_15_4, ixN_15_5, ixN_15_6, ixN_15_7, ixN_15_8, ixN_15_9, ixN_15_10, ixN_15_11, ixN_15_12, ixN_15_13, ixN_15_14, ixN_15_m1, ix_l0, ix_t0, ix_l1, ix_t1, ix_l2, ix_t2, ix_l3, ix_t3, ix_l4, ix_t4, ix_l5, ix_t5, ix_l6, ix_t6, ix_l7, ix_t7, ix_l8, ix_t8, ix_l9, ix_t9, ix_l10, ix_t10, ix_l11, ix_t11, ix_l12, ix_t12, ix_l13, ix_t13, ev_for, ev_iSeq, ev_mkI, ev_iter_l, ev_iter_t, ev_iter_s, ev_turn_nx, ev_turn_ct, ev_turn_bk, ev_turn_rt, ev_turn_ex, ev_loop0, ev_forR, ev_enum, ev_enumI, ev_zip, ev_wipe0, ev_wipe1, ev_un0, ev_un1, ev_unO_f, ev_unO_n, ev_comp, ev_lc0, ev_lcR0, ev_turnC, ev_tcR, ev_yes, ev_tryAs, ev_tryS_ex, ev_tryS_nx, ev_tryS_rt, ev_tryR, ev_gone_nx, ev_gone_rt, ev_nest, ev_isE, ev_sl, ev_part0, ev_part1, ev_partR, ev_sl_t, ev_sl_l, ev_cast0, ev_cast1, ev_cast2, ev_cast3, ev_cast4, ev_cast5, ev_cast6, ev_cast7, ev_cast8, ev_cast9, ev_cast10, ev_cast11, ev_cast12, ev_cast13, ev_cast14, ev_cast15, ev_cast16, ev_cast17, ev_cast18, ev_cast19, ev_cast20, ev_isi_tt, ev_isi_ti, ev_is_t, ev_isnot_t, ev_isnot_n, ev_zip_tt, ev_zip_ll, op_eqs, op_nes, ev_aug, ev_augR, ev_augS, ev_try, ev_tryT_ex, ev_tryT_nx, ev_tryT_rt, ev_tryT_bk, ev_tryT_ct, ev_tryU, ev_tryU0, ev_cold_nx, ev_cold_rt, back_eq, wipe_eq, unwipe_eq, List.getElem?_cons_zero, List.getElem?_cons_succ, List.set_cons_zero, List.set_cons_succ, Bool.and_true, Bool.true_and, Bool.or_true, Bool.true_or, Bool.or_false, Bool.false_or, Bool.and_false, Bool.false_and, Bool.not_true, Bool.not_false, List.length_cons, List.length_nil, List.map_cons, List.map_nil, List.replicate_succ, List.replicate_zero, List.cons_append, List.nil_append, if_true, if_false, Nat.reduceAdd, Nat.reduceEqDiff, beq_self_eq_true, reduceIte, Nat.zero_add, eq_self, SZ, List.contains_cons, List.contains_nil, Nat.reduceBEq, Nat.reduceLT, Nat.reduceLeDiff, Int.reduceToNat, Int.reducePow, Int.reduceAdd, Int.reduceSub, Int.reduceMul, Int.reduceNeg, Int.reduceLT, Int.reduceLE, Int.reduceEq, Int.reduceDiv, Int.reduceMod, Option.map_some, Option.map_none, cut1, rg1_eq, rb1_ok, rg2_eq, rb2_ok, bk_d0, bk_d1, bk_d2, bk_d3, bk_d4, bk_i0, bk_i1, bk_i2, bk_i3, e1, ih]
theorem rows_ok (q : Bool) (l : Runs) (h : l.length < 900) : F_law_rows [.fz (.tup (l.map runD)), .fz (.str (sideS q))] = .ret (.ow ((rws q 0 0 l).map rwD)) [none, none] := by
  obtain ⟨z3, z4, z5, z6, e⟩ := rows_loop q (some (.fz (.tup (l.map runD)))) l 0 0 [] none none (by simp; omega)
  rw [List.nil_append] at e
  unfold F_law_rows B_law_rows
  revert e
  generalize L_law_rows_0 = f1
  generalize (rws q 0 0 l).map rwD = rd
  generalize l.map runD = ld
  generalize sideS q = sq
  intro e
  simp (maxSteps := 20000000) (disch := (first | assumption | omega | (simp only [List.length_cons, List.length_nil, List.length_append, List.length_map, SZ]; done) | (simp only [List.length_cons, List.length_nil, List.length_append, List.length_map, SZ]; omega))) only [ev_seq, ev_seq_nx, ev_seq_rt, ev_seq_ex, ev_seq_bk, ev_seq_ct, ev_nil, ev_pass, ev_break, ev_cont, ev_retN, ev_ret, ev_drop, ev_set, ev_raise, ev_if, ev_par, ev_par3, ev_toS_ok, ev_toS_ex, ev_toS_no, ev_bind_ok, ev_bind_ex, ev_bind_no, ev_it, ev_if_f, ev_C, ev_var, ev_var1, ev_var2, ev_mov, ev_mov1, ev_mov2, ev_okV_e, ev_okV_v, ev_okO, ev_run_e, ev_run_v, ev_get_d, ev_get_i, ev_getO, ev_d_fz, ev_d_ow, ev_d_io, ev_op2, ev_get2, ev_g2, ev_op1, ev_get1, ev_g1, ev_mk, ev_mk0, ev_opN, ev_all_nil, ev_all_cons, ev_runO_nil, ev_runO_cons, ev_getN, ev_gN, ev_getL_nil, ev_getL_cons, ev_gL, ev_runE_nil, ev_runE_cons, ev_tup, ev_lst, ev_mIf, ev_and, ev_or, ev_not, ev_blR, ev_toT, ev_blT, ev_okI, ev_okB, ev_tru, ev_mkT, ev_obind, ev_tru_bl, ev_andT, ev_orT, ev_notT, ev_chain, ev_chR, ev_fn, ev_of_nx, ev_of_rt, ev_of_ex, ev_outs0, ev_outs1, ev_ioE_n, ev_ioE_f, ev_ioE_o, ev_ioE_i, ev_call, ev_callK, ev_callR, ev_args_nil, ev_args_cons, ev_argC, ev_arg_d, ev_arg_i, ev_argO_f, ev_argO_o, ev_argO_i, ev_apart_nil, ev_apart_d, ev_apart_i, ev_any_nil, ev_any_cons, ev_at_d, ev_at_i, ev_ofF_ret, ev_ofF_exc, ev_back0, ev_back1, ev_b1n, ev_b1f, ev_b1o, ev_b1i, ev_bkO0, ev_bkO1, ev_bkI0, ev_bkI1, ev_look0, ev_look_d, ev_look_i, ev_join, ev_head, ev_tail, ev_call1, ev_go_o, ev_go_f, ev_of1_r, ev_of1_e, op_add_i, op_sub_i, op_iadd_i, op_mul_i, op_fdiv_i, op_mod_i, op_pow8_i, op_powL_i, op_lt_i, op_le_i, op_gt_i, op_ge_i, op_neg_i, op_eq_i, op_ne_i, op_eq_s, op_ne_s, op_is_n, op_len_l, op_len_t, op_len_s, op_abs_i, op_max_i, op_min_i, op_int_i, op_int_b, op_divmod_i, op_tup_l, op_tup_t, op_list_l, op_list_t, op_rev_l, op_rev_t, op_own_o, op_own_i, op_setix, op_setR, op_stN, op_as_o, op_as_i, op_isS, op_mut, op_mutR, op_mutS, op_asg_seq, op_asg_seql, op_asg_cons, op_asg_nil, op_asg_nm, op_asg, op_asgR, ixN_1_0, ixN_1_m1, ixN_2_0, ixN_2_1, ixN_2_m1, ixN_3_0, ixN_3_1, ixN_3_2, ixN_3_m1, ixN_4_0, ixN_4_1, ixN_4_2, ixN_4_3, ixN_4_m1, ixN_5_0, ixN_5_1, ixN_5_2, ixN_5_3, ixN_5_4, ixN_5_m1, ixN_6_0, ixN_6_1, ixN_6_2, ixN_6_3, ixN_6_4, ixN_6_5, ixN_6_m1, ixN_7_0, ixN_7_1, ixN_7_2, ixN_7_3, ixN_7_4, ixN_7_5, ixN_7_6, ixN_7_m1, ixN_8_0, ixN_8_1, ixN_8_2, ixN_8_3, ixN_8_4, ixN_8_5, ixN_8_6, ixN_8_7, ixN_8_m1, ixN_9_0, ixN_9_1, ixN_9_2, ixN_9_3, ixN_9_4, ixN_9_5, ixN_9_6, ixN_9_7, ixN_9_8, ixN_9_m1, ixN_10_0, ixN_10_1, ixN_10_2, ixN_10_3, ixN_10_4, ixN_10_5, ixN_10_6, ixN_10_7, ixN_10_8, ixN_10_9, ixN_10_m1, ixN_11_0, ixN_11_1, ixN_11_2, ixN_11_3, ixN_11_4, ixN_11_5, ixN_11_6, ixN_11_7, ixN_11_8, ixN_11_9, ixN_11_10, ixN_11_m1, ixN_12_0, ixN_12_1, ixN_12_2, ixN_12_3, ixN_12_4, ixN_12_5, ixN_12_6, ixN_12_7, ixN_12_8, ixN_12_9, ixN_12_10, ixN_12_11, ixN_12_m1, ixN_13_0, ixN_13_1, ixN_13_2, ixN_13_3, ixN_13_4, ixN_13_5, ixN_13_6, ixN_13_7, ixN_13_8, ixN_13_9, ixN_13_10, ixN_13_11, ixN_13_12, ixN_13_m1, ixN_14_0, ixN_14_1, ixN_14_2, ixN_14_3, ixN_14_4, ixN_14_5, ixN_14_6, ixN_14_7, ixN_14_8, ixN_14_9, ixN_14_10, ixN_14_11, ixN_14_12, ixN_14_13, ixN_14_m1, ixN_15_0, ixN_15_1, ixN_15_2, ixN_15_3, ixN_15_4, ixN_15_5, ixN_15_6, ixN_15_7, ixN_15_8, ixN_15_9, ixN_15_10, ixN_15_11, ixN_15_12, ixN_15_13, ixN_15_14, ixN_15_m1, ix_l0, ix_t0, ix_l1, ix_t1, ix_l2, ix_t2, ix_l3, ix_t3, ix_l4, ix_t4, ix_l5, ix_t5, ix_l6, ix_t6, ix_l7, ix_t7, ix_l8, ix_t8, ix_l9, ix_t9, ix_l10, ix_t10, ix_l11, ix_t11, ix_l12, ix_t12, ix_l13, ix_t13, ev_for, ev_iSeq, ev_mkI, ev_iter_l, ev_iter_t, ev_iter_s, ev_turn_nx, ev_turn_ct, ev_turn_bk, ev_turn_rt, ev_turn_ex, ev_loop0, ev_forR, ev_enum, ev_enumI, ev_zip, ev_wipe0, ev_wipe1, ev_un0, ev_un1, ev_unO_f, ev_unO_n, ev_comp, ev_lc0, ev_lcR0, ev_turnC, ev_tcR, ev_yes, ev_tryAs, ev_tryS_ex, ev_tryS_nx, ev_tryS_rt, ev_tryR, ev_gone_nx, ev_gone_rt, ev_nest, ev_isE, ev_sl, ev_part0, ev_part1, ev_partR, ev_sl_t, ev_sl_l, ev_cast0, ev_cast1, ev_cast2, ev_cast3, ev_cast4, ev_cast5, ev_cast6, ev_cast7, ev_cast8, ev_cast9, ev_cast10, ev_cast11, ev_cast12, ev_cast13, ev_cast14, ev_cast15, ev_cast16, ev_cast17, ev_cast18, ev_cast19, ev_cast20, ev_isi_tt, ev_isi_ti, ev_is_t, ev_isnot_t, ev_isnot_n, ev_zip_tt, ev_zip_ll, op_eqs, op_nes, ev_aug, ev_augR, ev_augS, ev_try, ev_tryT_ex, ev_tryT_nx, ev_tryT_rt, ev_tryT_bk, ev_tryT_ct, ev_tryU, ev_tryU0, ev_cold_nx, ev_cold_rt, back_eq, wipe_eq, unwipe_eq, List.getElem?_cons_zero, List.getElem?_cons_succ, List.set_cons_zero, List.set_cons_succ, Bool.and_true, Bool.true_and, Bool.or_true, Bool.true_or, Bool.or_false, Bool.false_or, Bool.and_false, Bool.false_and, Bool.not_true, Bool.not_false, List.length_cons, List.length_nil, List.map_cons, List.map_nil, List.replicate_succ, List.replicate_zero, List.cons_append, List.nil_append, if_true, if_false, Nat.reduceAdd, Nat.reduceEqDiff, beq_self_eq_true, reduceIte, Nat.zero_add, eq_self, SZ, List.contains_cons, List.contains_nil, Nat.reduceBEq, Nat.reduceLT, Nat.reduceLeDiff, Int.reduceToNat, Int.reducePow, Int.reduceAdd, Int.reduceSub, Int.reduceMul, Int.reduceNeg, Int.reduceLT, Int.reduceLE, Int.reduceEq, Int.reduceDiv, Int.reduceMod, Option.map_some, Option.map_none, cut1, rg1_eq, rb1_ok, rg2_eq, rb2_ok, bk_d0, bk_d1, bk_d2, bk_d3, bk_d4, bk_i0, bk_i1, bk_i2, bk_i3, e]
def RowOk (rs : List (Int × Int × Int)) : Prop := ∀ x ∈ rs, 0 ≤ x.1 ∧ 1 ≤ x.2.2 ∧ x.2.2 ≤ 1000000000000000000000000000000
theorem rws_row (q : Bool) : ∀ {l : Runs} {o b : Int}, Bd l → 0 ≤ b → RowOk (rws q o b l) ∧ (rws q o b l).length ≤ l.length
  | [], _, _, _, _ => ⟨fun x h => (nomatch h), Nat.le_refl _⟩
  | (r, c) :: l, o, b, hB, hb => by
    have h1 := hB (r, c) (List.mem_cons_self ..)
    have h2 : Bd l := fun x hx => hB x (List.mem_cons_of_mem _ hx)
    unfold rws
    by_cases hr : r = q
    · rw [if_pos hr]
      obtain ⟨h3, h4⟩ := rws_row q (o := o + c) (b := b + c) h2 (by have : (1 : Int) ≤ c := h1.1; omega)
      refine ⟨fun x hx => ?_, by simp only [List.length_cons]; omega⟩
      rcases List.mem_cons.mp hx with rfl | hx
      · exact ⟨hb, h1.1, h1.2⟩
      · exact h3 x hx
    · rw [if_neg hr]
      obtain ⟨h3, h4⟩ := rws_row q (o := o + c) (b := b) h2 hb
      exact ⟨h3, by simp only [List.length_cons]; omega⟩
theorem sum_rows (x0 x1 x2 x3 x4 x5 x6 x10 x11 x12 : Option Sl) : ∀ (rs : List (Int × Int × Int)) (acc : List D), acc.length + rs.length < 1000 →
    loopC (turnC (gSeq 3 (gsCons (gNm 7) (gsCons (gNm 8) (gsCons (gNm 9) gsNil)))) tYesE E_law_right_0 [7, 8, 9]) (rs.map rwD) [x0, x1, x2, x3, x4, x5, x6, none, none, none, x10, x11, x12] acc = .ok (acc ++ (rs.map (·.2.2)).map .int) [x0, x1, x2, x3, x4, x5, x6, none, none, none, x10, x11, x12]
  | [], acc, _ => by simp [ev_lc0]
  | (b, f, c) :: rs, acc, h => by
    rw [List.length_cons] at h
    have ih := sum_rows x0 x1 x2 x3 x4 x5 x6 x10 x11 x12 rs (acc ++ [.int c]) (by rw [List.length_append, List.length_cons, List.length_nil]; omega)
    have e7 : turnC (gSeq 3 (gsCons (gNm 7) (gsCons (gNm 8) (gsCons (gNm 9) gsNil)))) tYesE E_law_right_0 [7, 8, 9] (rwD (b, f, c)) [x0, x1, x2, x3, x4, x5, x6, none, none, none, x10, x11, x12] = .ok (some (.int c)) [x0, x1, x2, x3, x4, x5, x6, none, none, none, x10, x11, x12] := by
      unfold E_law_right_0 rwD
      simp (maxSteps := 20000000) (disch := (first | assumption | omega | (simp only [List.length_cons, List.length_nil, List.length_append, List.length_map, SZ]; done) | (simp only [List.length_cons, List.length_nil, List.length_append, List.length_map, SZ]; omega))) only [ev_seq, ev_seq_nx, ev_seq_rt, ev_seq_ex, ev_seq_bk, ev_seq_ct, ev_nil, ev_pass, ev_break, ev_cont, ev_retN, ev_ret, ev_drop, ev_set, ev_raise, ev_if, ev_par, ev_par3, ev_toS_ok, ev_toS_ex, ev_toS_no, ev_bind_ok, ev_bind_ex, ev_bind_no, ev_it, ev_if_f, ev_C, ev_var, ev_var1, ev_var2, ev_mov, ev_mov1, ev_mov2, ev_okV_e, ev_okV_v, ev_okO, ev_run_e, ev_run_v, ev_get_d, ev_get_i, ev_getO, ev_d_fz, ev_d_ow, ev_d_io, ev_op2, ev_get2, ev_g2, ev_op1, ev_get1, ev_g1, ev_mk, ev_mk0, ev_opN, ev_all_nil, ev_all_cons, ev_runO_nil, ev_runO_cons, ev_getN, ev_gN, ev_getL_nil, ev_getL_cons, ev_gL, ev_runE_nil, ev_runE_cons, ev_tup, ev_lst, ev_mIf, ev_and, ev_or, ev_not, ev_blR, ev_toT, ev_blT, ev_okI, ev_okB, ev_tru, ev_mkT, ev_obind, ev_tru_bl, ev_andT, ev_orT, ev_notT, ev_chain, ev_chR, ev_fn, ev_of_nx, ev_of_rt, ev_of_ex, ev_outs0, ev_outs1, ev_ioE_n, ev_ioE_f, ev_ioE_o, ev_ioE_i, ev_call, ev_callK, ev_callR, ev_args_nil, ev_args_cons, ev_argC, ev_arg_d, ev_arg_i, ev_argO_f, ev_argO_o, ev_argO_i, ev_apart_nil, ev_apart_d, ev_apart_i, ev_any_nil, ev_any_cons, ev_at_d, ev_at_i, ev_ofF_ret, ev_ofF_exc, ev_back0, ev_back1, ev_b1n, ev_b1f, ev_b1o, ev_b1i, ev_bkO0, ev_bkO1, ev_bkI0, ev_bkI1, ev_look0, ev_look_d, ev_look_i, ev_join, ev_head, ev_tail, ev_call1, ev_go_o, ev_go_f, ev_of1_r, ev_of1_e, op_add_i, op_sub_i, op_iadd_i, op_mul_i, op_fdiv_i, op_mod_i, op_pow8_i, op_powL_i, op_lt_i, op_le_i, op_gt_i, op_ge_i, op_neg_i, op_eq_i, op_ne_i, op_eq_s, op_ne_s, op_is_n, op_len_l, op_len_t, op_len_s, op_abs_i, op_max_i, op_min_i, op_int_i, op_int_b, op_divmod_i, op_tup_l, op_tup_t, op_list_l, op_list_t, op_rev_l, op_rev_t, op_own_o, op_own_i, op_setix, op_setR, op_stN, op_as_o, op_as_i, op_isS, op_mut, op_mutR, op_mutS, op_asg_seq, op_asg_seql, op_asg_cons, op_asg_nil, op_asg_nm, op_asg, op_asgR, ixN_1_0, ixN_1_m1, ixN_2_0, ixN_2_1, ixN_2_m1, ixN_3_0, ixN_3_1, ixN_3_2, ixN_3_m1, ixN_4_0, ixN_4_1, ixN_4_2, ixN_4_3, ixN_4_m1, ixN_5_0, ixN_5_1, ixN_5_2, ixN_5_3, ixN_5_4, ixN_5_m1, ixN_6_0, ixN_6_1, ixN_6_2, ixN_6_3, ixN_6_4, ixN_6_5, ixN_6_m1, ixN_7_0, ixN_7_1, ixN_7_2, ixN_7_3, ixN_7_4, ixN_7_5, ixN_7_6, ixN_7_m1, ixN_8_0, ixN_8_1, ixN_8_2, ixN_8_3, ixN_8_4, ixN_8_5, ixN_8_6, ixN_8_7, ixN_8_m1, ixN_9_0, ixN_9_1, ixN_9_2, ixN_9_3, ixN_9_4, ixN_9_5, ixN_9_6, ixN_9_7, ixN_9_8, ixN_9_m1, ixN_10_0, ixN_10_1, ixN_10_2, ixN_10_3, ixN_10_4, ixN_10_5, ixN_10_6, ixN_10_7, ixN_10_8, ixN_10_9, ixN_10_m1, ixN_11_0, ixN_11_1, ixN_11_2, ixN_11_3, ixN_11_4, ixN_11_5, ixN_11_6, ixN_11_7, ixN_11_8, ixN_11_9, ixN_11_10, ixN_11_m1, ixN_12_0, ixN_12_1, ixN_12_2, ixN_12_3, ixN_12_4, ixN_12_5, ixN_12_6, ixN_12_7, ixN_12_8, ixN_12_9, ixN_12_10, ixN_12_11, ixN_12_m1, ixN_13_0, ixN_13_1, ixN_13_2, ixN_13_3, ixN_13_4, ixN_13_5, ixN_13_6, ixN_13_7, ixN_13_8, ixN_13_9, ixN_13_10, ixN_13_11, ixN_13_12, ixN_13_m1, ixN_14_0, ixN_14_1, ixN_14_2, ixN_14_3, ixN_14_4, ixN_14_5, ixN_14_6, ixN_14_7, ixN_14_8, ixN_14_9, ixN_14_10, ixN_14_11, ixN_14_12, ixN_14_13, ixN_14_m1, ixN_15_0, ixN_15_1, ixN_15_2, ixN_15_3, ixN_15_4, ixN_15_5, ixN_15_6, ixN_15_7, ixN_15_8, ixN_15_9, ixN_15_10, ixN_15_11, ixN_15_12, ixN_15_13, ixN_15_14, ixN_15_m1, ix_l0, ix_t0, ix_l1, ix_t1, ix_l2, ix_t2, ix_l3, ix_t3, ix_l4, ix_t4, ix_l5, ix_t5, ix_l6, ix_t6, ix_l7, ix_t7, ix_l8, ix_t8, ix_l9, ix_t9, ix_l10, ix_t10, ix_l11, ix_t11, ix_l12, ix_t12, ix_l13, ix_t13, ev_for, ev_iSeq, ev_mkI, ev_iter_l, ev_iter_t, ev_iter_s, ev_turn_nx, ev_turn_ct, ev_turn_bk, ev_turn_rt, ev_turn_ex, ev_loop0, ev_forR, ev_enum, ev_enumI, ev_zip, ev_wipe0, ev_wipe1, ev_un0, ev_un1, ev_unO_f, ev_unO_n, ev_comp, ev_lc0, ev_lcR0, ev_turnC, ev_tcR, ev_yes, ev_tryAs, ev_tryS_ex, ev_tryS_nx, ev_tryS_rt, ev_tryR, ev_gone_nx, ev_gone_rt, ev_nest, ev_isE, ev_sl, ev_part0, ev_part1, ev_partR, ev_sl_t, ev_sl_l, ev_cast0, ev_cast1, ev_cast2, ev_cast3, ev_cast4, ev_cast5, ev_cast6, ev_cast7, ev_cast8, ev_cast9, ev_cast10, ev_cast11, ev_cast12, ev_cast13, ev_cast14, ev_cast15, ev_cast16, ev_cast17, ev_cast18, ev_cast19, ev_cast20, ev_isi_tt, ev_isi_ti, ev_is_t, ev_isnot_t, ev_isnot_n, ev_zip_tt, ev_zip_ll, op_eqs, op_nes, ev_aug, ev_augR, ev_augS, ev_try, ev_tryT_ex, ev_tryT_nx, ev_tryT_rt, ev_tryT_bk, ev_tryT_ct, ev_tryU, ev_tryU0, ev_cold_nx, ev_cold_rt, back_eq, wipe_eq, unwipe_eq, List.getElem?_cons_zero, List.getElem?_cons_succ, List.set_cons_zero, List.set_cons_succ, Bool.and_true, Bool.true_and, Bool.or_true, Bool.true_or, Bool.or_false, Bool.false_or, Bool.and_false, Bool.false_and, Bool.not_true, Bool.not_false, List.length_cons, List.length_nil, List.map_cons, List.map_nil, List.replicate_succ, List.replicate_zero, List.cons_append, List.nil_append, if_true, if_false, Nat.reduceAdd, Nat.reduceEqDiff, beq_self_eq_true, reduceIte, Nat.zero_add, eq_self, SZ, List.contains_cons, List.contains_nil, Nat.reduceBEq, Nat.reduceLT, Nat.reduceLeDiff, Int.reduceToNat, Int.reducePow, Int.reduceAdd, Int.reduceSub, Int.reduceMul, Int.reduceNeg, Int.reduceLT, Int.reduceLE, Int.reduceEq, Int.reduceDiv, Int.reduceMod, Option.map_some, Option.map_none, cut1, rg1_eq, rb1_ok, rg2_eq, rb2_ok, bk_d0, bk_d1, bk_d2, bk_d3, bk_d4, bk_i0, bk_i1, bk_i2, bk_i3]
    rw [List.map_cons, lc_cons, e7, ev_lcR1 (by unfold SZ; omega), ih]
    simp
theorem sum_nn : ∀ {rs : List (Int × Int × Int)}, RowOk rs → 0 ≤ (rs.map (·.2.2)).sum
  | [], _ => Int.le_refl _
  | x :: rs, h => by
    have h1 := h x (List.mem_cons_self ..)
    have h2 := sum_nn (rs := rs) fun y hy => h y (List.mem_cons_of_mem _ hy)
    simp only [List.map_cons, List.sum_cons]
    omega
def Nns (ns : List Int) : Prop := ∀ n ∈ ns, 0 ≤ n
/-- what a slot may hold that a comprehension's names stand in -/
def Fzs (z : Option Sl) : Prop := z = none ∨ ∃ d, z = some (.fz d)
theorem Fzs.un {z : Option Sl} (h : Fzs z) (e : Option Sl) : unO e (some z) = z := by
  rcases h with rfl | ⟨d, rfl⟩ <;> rfl
theorem num_loop (b0 : Int) (x1 x2 x3 x4 x5 x10 x11 x12 : Option Sl) : ∀ (rs : List (Int × Int × Int)) (ns : List Int) (a c n : Int) (y7 y8 y9 : Option Sl), RowOk rs → Nns ns → ns.length + 3 * rs.length < 1000 → Src a b0 c n → n + rs.length < 1000000 → Fzs y7 → Fzs y8 → Fzs y9 →
    ∃ a' c' : Int, ∃ ms : List Int, ∃ z7 z8 z9, loopF (gSeq 3 (gsCons (gNm 7) (gsCons (gNm 8) (gsCons (gNm 9) gsNil)))) L_law_right_1 (rs.map rwD) [some (.io [.int a, .int b0, .int c]), x1, x2, x3, x4, x5, some (.ow (ns.map .int)), y7, y8, y9, x10, x11, x12] = .nx [some (.io [.int a', .int b0, .int c']), x1, x2, x3, x4, x5, some (.ow (ms.map .int)), z7, z8, z9, x10, x11, x12] ∧ Nns ms ∧ ms.length = ns.length + 3 * rs.length ∧ Src a' b0 c' (n + rs.length) ∧ Fzs z7 ∧ Fzs z8 ∧ Fzs z9
  | [], ns, a, c, n, y7, y8, y9, _, h2, _, s, _, k7, k8, k9 => ⟨a, c, ns, y7, y8, y9, rfl, h2, rfl, s.up (by simp), k7, k8, k9⟩
  | (b, f, m) :: rs, ns, a, c, n, y7, y8, y9, h1, h2, h3, s, hn, k7, k8, k9 => by
    rw [List.length_cons] at h3 hn
    obtain ⟨g1, g2, g3⟩ := h1 (b, f, m) (List.mem_cons_self ..)
    have g1 : 0 ≤ b := g1
    have g2 : 1 ≤ m := g2
    have g3 : m ≤ 1000000000000000000000000000000 := g3
    obtain ⟨r, a1, c1, e1, d1, d2, s1⟩ := draw_src (k := m) s (by omega) (by omega) (by omega)
    have ea : addD (.lst (ns.map .int)) (.lst [.int b, .int (b + m - 1), .int (b + r)]) = some (.ow ((ns ++ [b, b + m - 1, b + r]).map .int)) := by
      rw [List.map_append]
      exact op_add_l (by rw [List.length_map]; simp only [List.length_cons, List.length_nil, SZ]; omega)
    obtain ⟨a2, c2, ms, z7, z8, z9, ih, q1, q2, s2, q3⟩ := num_loop b0 x1 x2 x3 x4 x5 x10 x11 x12 rs (ns ++ [b, b + m - 1, b + r]) a1 c1 (n + 1) (some (.fz (.int b))) (some (.fz (.int f))) (some (.fz (.int m))) (fun x hx => h1 x (List.mem_cons_of_mem _ hx)) (fun y hy => by
      rcases List.mem_append.mp hy with hy | hy
      · exact h2 y hy
      · simp only [List.mem_cons, List.not_mem_nil, or_false] at hy
        rcases hy with rfl | rfl | rfl <;> omega) (by simp; omega) s1 (by omega) (.inr ⟨_, rfl⟩) (.inr ⟨_, rfl⟩) (.inr ⟨_, rfl⟩)
    refine ⟨a2, c2, ms, z7, z8, z9, ?_, q1, by rw [q2]; simp; omega, s2.up (by rw [List.length_cons]; omega), q3⟩
    have e0 : rwD (b, f, m) = .tup [.int b, .int f, .int m] := rfl
    rw [List.map_cons, loop_cons, e0]
    revert ih ea e1
    generalize loopF (gSeq 3 (gsCons (gNm 7) (gsCons (gNm 8) (gsCons (gNm 9) gsNil)))) L_law_right_1 (rs.map rwD) = kk
    generalize (ns ++ [b, b + m - 1, b + r]).map D.int = nd
    generalize ns.map D.int = od
    unfold L_law_right_1
    generalize F_law_draw = f1
    intro ih ea e1
    simp (maxSteps := 20000000) (disch := (first | assumption | omega | (simp only [List.length_cons, List.length_nil, List.length_append, List.length_map, SZ]; done) | (simp only [List.length_cons, List.length_nil, List.length_append, List.length_map, SZ]; omega))) only [ev_seq, ev_seq_nx, ev_seq_rt, ev_seq_ex, ev_seq_bk, ev_seq_ct, ev_nil, ev_pass, ev_break, ev_cont, ev_retN, ev_ret, ev_drop, ev_set, ev_raise, ev_if, ev_par, ev_par3, ev_toS_ok, ev_toS_ex, ev_toS_no, ev_bind_ok, ev_bind_ex, ev_bind_no, ev_it, ev_if_f, ev_C, ev_var, ev_var1, ev_var2, ev_mov, ev_mov1, ev_mov2, ev_okV_e, ev_okV_v, ev_okO, ev_run_e, ev_run_v, ev_get_d, ev_get_i, ev_getO, ev_d_fz, ev_d_ow, ev_d_io, ev_op2, ev_get2, ev_g2, ev_op1, ev_get1, ev_g1, ev_mk, ev_mk0, ev_opN, ev_all_nil, ev_all_cons, ev_runO_nil, ev_runO_cons, ev_getN, ev_gN, ev_getL_nil, ev_getL_cons, ev_gL, ev_runE_nil, ev_runE_cons, ev_tup, ev_lst, ev_mIf, ev_and, ev_or, ev_not, ev_blR, ev_toT, ev_blT, ev_okI, ev_okB, ev_tru, ev_mkT, ev_obind, ev_tru_bl, ev_andT, ev_orT, ev_notT, ev_chain, ev_chR, ev_fn, ev_of_nx, ev_of_rt, ev_of_ex, ev_outs0, ev_outs1, ev_ioE_n, ev_ioE_f, ev_ioE_o, ev_ioE_i, ev_call, ev_callK, ev_callR, ev_args_nil, ev_args_cons, ev_argC, ev_arg_d, ev_arg_i, ev_argO_f, ev_argO_o, ev_argO_i, ev_apart_nil, ev_apart_d, ev_apart_i, ev_any_nil, ev_any_cons, ev_at_d, ev_at_i, ev_ofF_ret, ev_ofF_exc, ev_back0, ev_back1, ev_b1n, ev_b1f, ev_b1o, ev_b1i, ev_bkO0, ev_bkO1, ev_bkI0, ev_bkI1, ev_look0, ev_look_d, ev_look_i, ev_join, ev_head, ev_tail, ev_call1, ev_go_o, ev_go_f, ev_of1_r, ev_of1_e, op_add_i, op_sub_i, op_iadd_i, op_mul_i, op_fdiv_i, op_mod_i, op_pow8_i, op_powL_i, op_lt_i, op_le_i, op_gt_i, op_ge_i, op_neg_i, op_eq_i, op_ne_i, op_eq_s, op_ne_s, op_is_n, op_len_l, op_len_t, op_len_s, op_abs_i, op_max_i, op_min_i, op_int_i, op_int_b, op_divmod_i, op_tup_l, op_tup_t, op_list_l, op_list_t, op_rev_l, op_rev_t, op_own_o, op_own_i, op_setix, op_setR, op_stN, op_as_o, op_as_i, op_isS, op_mut, op_mutR, op_mutS, op_asg_seq, op_asg_seql, op_asg_cons, op_asg_nil, op_asg_nm, op_asg, op_asgR, ixN_1_0, ixN_1_m1, ixN_2_0, ixN_2_1, ixN_2_m1, ixN_3_0, ixN_3_1, ixN_3_2, ixN_3_m1, ixN_4_0, ixN_4_1, ixN_4_2, ixN_4_3, ixN_4_m1, ixN_5_0, ixN_5_1, ixN_5_2, ixN_5_3, ixN_5_4, ixN_5_m1, ixN_6_0, ixN_6_1, ixN_6_2, ixN_6_3, ixN_6_4, ixN_6_5, ixN_6_m1, ixN_7_0, ixN_7_1, ixN_7_2, ixN_7_3, ixN_7_4, ixN_7_5, ixN_7_6, ixN_7_m1, ixN_8_0, ixN_8_1, ixN_8_2, ixN_8_3, ixN_8_4, ixN_8_5, ixN_8_6, ixN_8_7, ixN_8_m1, ixN_9_0, ixN_9_1, ixN_9_2, ixN_9_3, ixN_9_4, ixN_9_5, ixN_9_6, ixN_9_7, ixN_9_8, ixN_9_m1, ixN_10_0, ixN_10_1, ixN_10_2, ixN_10_3, ixN_10_4, ixN_10_5, ixN_10_6, ixN_10_7, ixN_10_8, ixN_10_9, ixN_10_m1, ixN_11_0, ixN_11_1, ixN_11_2, ixN_11_3, ixN_11_4, ixN_11_5, ixN_11_6, ixN_11_7, ixN_11_8, ixN_11_9, ixN_11_10, ixN_11_m1, ixN_12_0, ixN_12_1, ixN_12_2, ixN_12_3, ixN_12_4, ixN_12_5, ixN_12_6, ixN_12_7, ixN_12_8, ixN_12_9, ixN_12_10, ixN_12_11, ixN_12_m1, ixN_13_0, ixN_13_1, ixN_13_2, ixN_13_3, ixN_13_4, ixN_13_5, ixN_13_6, ixN_13_7, ixN_13_8, ixN_13_9, ixN_13_10, ixN_13_11, ixN_13_12, ixN_13_m1, ixN_14_0, ixN_14_1, ixN_14_2, ixN_14_3, ixN_14_4, ixN_14_5, ixN_14_6, ixN_14_7, ixN_14_8, ixN_14_9, ixN_14_10, ixN_14_11, ixN_14_12, ixN_14_13, ixN_14_m1, ixN_15_0, ixN_15_1, ixN_15_2, ixN_15_3, ixN_15_4, ixN_15_5, ixN_15_6, ixN_15_7, ixN_15_8, ixN_15_9, ixN_15_10, ixN_15_11, ixN_15_12, ixN_15_13, ixN_15_14, ixN_15_m1, ix_l0, ix_t0, ix_l1, ix_t1, ix_l2, ix_t2, ix_l3, ix_t3, ix_l4, ix_t4, ix_l5, ix_t5, ix_l6, ix_t6, ix_l7, ix_t7, ix_l8, ix_t8, ix_l9, ix_t9, ix_l10, ix_t10, ix_l11, ix_t11, ix_l12, ix_t12, ix_l13, ix_t13, ev_for, ev_iSeq, ev_mkI, ev_iter_l, ev_iter_t, ev_iter_s, ev_turn_nx, ev_turn_ct, ev_turn_bk, ev_turn_rt, ev_turn_ex, ev_loop0, ev_forR, ev_enum, ev_enumI, ev_zip, ev_wipe0, ev_wipe1, ev_un0, ev_un1, ev_unO_f, ev_unO_n, ev_comp, ev_lc0, ev_lcR0, ev_turnC, ev_tcR, ev_yes, ev_tryAs, ev_tryS_ex, ev_tryS_nx, ev_tryS_rt, ev_tryR, ev_gone_nx, ev_gone_rt, ev_nest, ev_isE, ev_sl, ev_part0, ev_part1, ev_partR, ev_sl_t, ev_sl_l, ev_cast0, ev_cast1, ev_cast2, ev_cast3, ev_cast4, ev_cast5, ev_cast6, ev_cast7, ev_cast8, ev_cast9, ev_cast10, ev_cast11, ev_cast12, ev_cast13, ev_cast14, ev_cast15, ev_cast16, ev_cast17, ev_cast18, ev_cast19, ev_cast20, ev_isi_tt, ev_isi_ti, ev_is_t, ev_isnot_t, ev_isnot_n, ev_zip_tt, ev_zip_ll, op_eqs, op_nes, ev_aug, ev_augR, ev_augS, ev_try, ev_tryT_ex, ev_tryT_nx, ev_tryT_rt, ev_tryT_bk, ev_tryT_ct, ev_tryU, ev_tryU0, ev_cold_nx, ev_cold_rt, back_eq, wipe_eq, unwipe_eq, List.getElem?_cons_zero, List.getElem?_cons_succ, List.set_cons_zero, List.set_cons_succ, Bool.and_true, Bool.true_and, Bool.or_true, Bool.true_or, Bool.or_false, Bool.false_or, Bool.and_false, Bool.false_and, Bool.not_true, Bool.not_false, List.length_cons, List.length_nil, List.map_cons, List.map_nil, List.replicate_succ, List.replicate_zero, List.cons_append, List.nil_append, if_true, if_false, Nat.reduceAdd, Nat.reduceEqDiff, beq_self_eq_true, reduceIte, Nat.zero_add, eq_self, SZ, List.contains_cons, List.contains_nil, Nat.reduceBEq, Nat.reduceLT, Nat.reduceLeDiff, Int.reduceToNat, Int.reducePow, Int.reduceAdd, Int.reduceSub, Int.reduceMul, Int.reduceNeg, Int.reduceLT, Int.reduceLE, Int.reduceEq, Int.reduceDiv, Int.reduceMod, Option.map_some, Option.map_none, cut1, rg1_eq, rb1_ok, rg2_eq, rb2_ok, bk_d0, bk_d1, bk_d2, bk_d3, bk_d4, bk_i0, bk_i1, bk_i2, bk_i3, e1, ea, ih]
theorem due_loop (n : Int) (x0 x1 x2 x3 x4 x5 x6 x11 x12 : Option Sl) : ∀ (rs : List (Int × Int × Int)) (acc : List D), acc.length + rs.length < 1000 →
    loopC (turnC (gSeq 3 (gsCons (gNm 7) (gsCons (gNm 8) (gsCons (gNm 9) gsNil)))) (toT (mChain leD ltD (.v 7) (.v 10) (.e (mOp2 addD (.v 7) (.v 9))))) E_law_right_2 [7, 8, 9]) (rs.map rwD) [x0, x1, x2, x3, x4, x5, x6, none, none, none, some (.fz (.int n)), x11, x12] acc = .ok (acc ++ (duL n rs).map .int) [x0, x1, x2, x3, x4, x5, x6, none, none, none, some (.fz (.int n)), x11, x12]
  | [], acc, _ => by rw [show acc ++ (duL n []).map D.int = acc from List.append_nil _]; rfl
  | (b, f, c) :: rs, acc, h => by
    rw [List.length_cons] at h
    have e0 : rwD (b, f, c) = .tup [.int b, .int f, .int c] := rfl
    rw [List.map_cons, lc_cons, e0]
    by_cases hc : b ≤ n ∧ n < b + c
    · have ed : duL n ((b, f, c) :: rs) = (f + n - b) :: duL n rs := if_pos hc
      have ih := due_loop n x0 x1 x2 x3 x4 x5 x6 x11 x12 rs (acc ++ [.int (f + n - b)]) (by rw [List.length_append, List.length_cons, List.length_nil]; omega)
      have d1 : decide (b ≤ n) = true := decide_eq_true hc.1
      have d2 : decide (n < b + c) = true := decide_eq_true hc.2
      have e7 : turnC (gSeq 3 (gsCons (gNm 7) (gsCons (gNm 8) (gsCons (gNm 9) gsNil)))) (toT (mChain leD ltD (.v 7) (.v 10) (.e (mOp2 addD (.v 7) (.v 9))))) E_law_right_2 [7, 8, 9] (.tup [.int b, .int f, .int c]) [x0, x1, x2, x3, x4, x5, x6, none, none, none, some (.fz (.int n)), x11, x12] = .ok (some (.int (f + n - b))) [x0, x1, x2, x3, x4, x5, x6, none, none, none, some (.fz (.int n)), x11, x12] := by
        unfold E_law_right_2
        simp (maxSteps := 20000000) (disch := (first | assumption | omega | (simp only [List.length_cons, List.length_nil, List.length_append, List.length_map, SZ]; done) | (simp only [List.length_cons, List.length_nil, List.length_append, List.length_map, SZ]; omega))) only [ev_seq, ev_seq_nx, ev_seq_rt, ev_seq_ex, ev_seq_bk, ev_seq_ct, ev_nil, ev_pass, ev_break, ev_cont, ev_retN, ev_ret, ev_drop, ev_set, ev_raise, ev_if, ev_par, ev_par3, ev_toS_ok, ev_toS_ex, ev_toS_no, ev_bind_ok, ev_bind_ex, ev_bind_no, ev_it, ev_if_f, ev_C, ev_var, ev_var1, ev_var2, ev_mov, ev_mov1, ev_mov2, ev_okV_e, ev_okV_v, ev_okO, ev_run_e, ev_run_v, ev_get_d, ev_get_i, ev_getO, ev_d_fz, ev_d_ow, ev_d_io, ev_op2, ev_get2, ev_g2, ev_op1, ev_get1, ev_g1, ev_mk, ev_mk0, ev_opN, ev_all_nil, ev_all_cons, ev_runO_nil, ev_runO_cons, ev_getN, ev_gN, ev_getL_nil, ev_getL_cons, ev_gL, ev_runE_nil, ev_runE_cons, ev_tup, ev_lst, ev_mIf, ev_and, ev_or, ev_not, ev_blR, ev_toT, ev_blT, ev_okI, ev_okB, ev_tru, ev_mkT, ev_obind, ev_tru_bl, ev_andT, ev_orT, ev_notT, ev_chain, ev_chR, ev_fn, ev_of_nx, ev_of_rt, ev_of_ex, ev_outs0, ev_outs1, ev_ioE_n, ev_ioE_f, ev_ioE_o, ev_ioE_i, ev_call, ev_callK, ev_callR, ev_args_nil, ev_args_cons, ev_argC, ev_arg_d, ev_arg_i, ev_argO_f, ev_argO_o, ev_argO_i, ev_apart_nil, ev_apart_d, ev_apart_i, ev_any_nil, ev_any_cons, ev_at_d, ev_at_i, ev_ofF_ret, ev_ofF_exc, ev_back0, ev_back1, ev_b1n, ev_b1f, ev_b1o, ev_b1i, ev_bkO0, ev_bkO1, ev_bkI0, ev_bkI1, ev_look0, ev_look_d, ev_look_i, ev_join, ev_head, ev_tail, ev_call1, ev_go_o, ev_go_f, ev_of1_r, ev_of1_e, op_add_i, op_sub_i, op_iadd_i, op_mul_i, op_fdiv_i, op_mod_i, op_pow8_i, op_powL_i, op_lt_i, op_le_i, op_gt_i, op_ge_i, op_neg_i, op_eq_i, op_ne_i, op_eq_s, op_ne_s, op_is_n, op_len_l, op_len_t, op_len_s, op_abs_i, op_max_i, op_min_i, op_int_i, op_int_b, op_divmod_i, op_tup_l, op_tup_t, op_list_l, op_list_t, op_rev_l, op_rev_t, op_own_o, op_own_i, op_setix, op_setR, op_stN, op_as_o, op_as_i, op_isS, op_mut, op_mutR, op_mutS, op_asg_seq, op_asg_seql, op_asg_cons, op_asg_nil, op_asg_nm, op_asg, op_asgR, ixN_1_0, ixN_1_m1, ixN_2_0, ixN_2_1, ixN_2_m1, ixN_3_0, ixN_3_1, ixN_3_2, ixN_3_m1, ixN_4_0, ixN_4_1, ixN_4_2, ixN_4_3, ixN_4_m1, ixN_5_0, ixN_5_1, ixN_5_2, ixN_5_3, ixN_5_4, ixN_5_m1, ixN_6_0, ixN_6_1, ixN_6_2, ixN_6_3, ixN_6_4, ixN_6_5, ixN_6_m1, ixN_7_0, ixN_7_1, ixN_7_2, ixN_7_3, ixN_7_4, ixN_7_5, ixN_7_6, ixN_7_m1, ixN_8_0, ixN_8_1, ixN_8_2, ixN_8_3, ixN_8_4, ixN_8_5, ixN_8_6, ixN_8_7, ixN_8_m1, ixN_9_0, ixN_9_1, ixN_9_2, ixN_9_3, ixN_9_4, ixN_9_5, ixN_9_6, ixN_9_7, ixN_9_8, ixN_9_m1, ixN_10_0, ixN_10_1, ixN_10_2, ixN_10_3, ixN_10_4, ixN_10_5, ixN_10_6, ixN_10_7, ixN_10_8, ixN_10_9, ixN_10_m1, ixN_11_0, ixN_11_1, ixN_11_2, ixN_11_3, ixN_11_4, ixN_11_5, ixN_11_6, ixN_11_7, ixN_11_8, ixN_11_9, ixN_11_10, ixN_11_m1, ixN_12_0, ixN_12_1, ixN_12_2, ixN_12_3, ixN_12_4, ixN_12_5, ixN_12_6, ixN_12_7, ixN_12_8, ixN_12_9, ixN_12_10, ixN_12_11, ixN_12_m1, ixN_13_0, ixN_13_1, ixN_13_2, ixN_13_3, ixN_13_4, ixN_13_5, ixN_13_6, ixN_13_7, ixN_13_8, ixN_13_9, ixN_13_10, ixN_13_11, ixN_13_12, ixN_13_m1, ixN_14_0, ixN_14_1, ixN_14_2, ixN_14_3, ixN_14_4, ixN_14_5, ixN_14_6, ixN_14_7, ixN_14_8, ixN_14_9, ixN_14_10, ixN_14_11, ixN_14_12, ixN_14_13, ixN_14_m1, ixN_15_0, ixN_15_1, ixN_15_2, ixN_15_3, ixN_15_4, ixN_15_5, ixN_15_6, ixN_15_7, ixN_15_8, ixN_15_9, ixN_15_10, ixN_15_11, ixN_15_12, ixN_15_13, ixN_15_14, ixN_15_m1, ix_l0, ix_t0, ix_l1, ix_t1, ix_l2, ix_t2, ix_l3, ix_t3, ix_l4, ix_t4, ix_l5, ix_t5, ix_l6, ix_t6, ix_l7, ix_t7, ix_l8, ix_t8, ix_l9, ix_t9, ix_l10, ix_t10, ix_l11, ix_t11, ix_l12, ix_t12, ix_l13, ix_t13, ev_for, ev_iSeq, ev_mkI, ev_iter_l, ev_iter_t, ev_iter_s, ev_turn_nx, ev_turn_ct, ev_turn_bk, ev_turn_rt, ev_turn_ex, ev_loop0, ev_forR, ev_enum, ev_enumI, ev_zip, ev_wipe0, ev_wipe1, ev_un0, ev_un1, ev_unO_f, ev_unO_n, ev_comp, ev_lc0, ev_lcR0, ev_turnC, ev_tcR, ev_yes, ev_tryAs, ev_tryS_ex, ev_tryS_nx, ev_tryS_rt, ev_tryR, ev_gone_nx, ev_gone_rt, ev_nest, ev_isE, ev_sl, ev_part0, ev_part1, ev_partR, ev_sl_t, ev_sl_l, ev_cast0, ev_cast1, ev_cast2, ev_cast3, ev_cast4, ev_cast5, ev_cast6, ev_cast7, ev_cast8, ev_cast9, ev_cast10, ev_cast11, ev_cast12, ev_cast13, ev_cast14, ev_cast15, ev_cast16, ev_cast17, ev_cast18, ev_cast19, ev_cast20, ev_isi_tt, ev_isi_ti, ev_is_t, ev_isnot_t, ev_isnot_n, ev_zip_tt, ev_zip_ll, op_eqs, op_nes, ev_aug, ev_augR, ev_augS, ev_try, ev_tryT_ex, ev_tryT_nx, ev_tryT_rt, ev_tryT_bk, ev_tryT_ct, ev_tryU, ev_tryU0, ev_cold_nx, ev_cold_rt, back_eq, wipe_eq, unwipe_eq, List.getElem?_cons_zero, List.getElem?_cons_succ, List.set_cons_zero, List.set_cons_succ, Bool.and_true, Bool.true_and, Bool.or_true, Bool.true_or, Bool.or_false, Bool.false_or, Bool.and_false, Bool.false_and, Bool.not_true, Bool.not_false, List.length_cons, List.length_nil, List.map_cons, List.map_nil, List.replicate_succ, List.replicate_zero, List.cons_append, List.nil_append, if_true, if_false, Nat.reduceAdd, Nat.reduceEqDiff, beq_self_eq_true, reduceIte, Nat.zero_add, eq_self, SZ, List.contains_cons, List.contains_nil, Nat.reduceBEq, Nat.reduceLT, Nat.reduceLeDiff, Int.reduceToNat, Int.reducePow, Int.reduceAdd, Int.reduceSub, Int.reduceMul, Int.reduceNeg, Int.reduceLT, Int.reduceLE, Int.reduceEq, Int.reduceDiv, Int.reduceMod, Option.map_some, Option.map_none, cut1, rg1_eq, rb1_ok, rg2_eq, rb2_ok, bk_d0, bk_d1, bk_d2, bk_d3, bk_d4, bk_i0, bk_i1, bk_i2, bk_i3, d1, d2]
      rw [e7, ev_lcR1 (by unfold SZ; omega), ih, ed]
      simp
    · have ed : duL n ((b, f, c) :: rs) = duL n rs := if_neg hc
      have ih := due_loop n x0 x1 x2 x3 x4 x5 x6 x11 x12 rs acc (by omega)
      have e7 : turnC (gSeq 3 (gsCons (gNm 7) (gsCons (gNm 8) (gsCons (gNm 9) gsNil)))) (toT (mChain leD ltD (.v 7) (.v 10) (.e (mOp2 addD (.v 7) (.v 9))))) E_law_right_2 [7, 8, 9] (.tup [.int b, .int f, .int c]) [x0, x1, x2, x3, x4, x5, x6, none, none, none, some (.fz (.int n)), x11, x12] = .ok none [x0, x1, x2, x3, x4, x5, x6, none, none, none, some (.fz (.int n)), x11, x12] := by
        unfold E_law_right_2
        by_cases d : b ≤ n
        · have d1 : decide (b ≤ n) = true := decide_eq_true d
          have d2 : decide (n < b + c) = false := decide_eq_false (by omega)
          simp (maxSteps := 20000000) (disch := (first | assumption | omega | (simp only [List.length_cons, List.length_nil, List.length_append, List.length_map, SZ]; done) | (simp only [List.length_cons, List.length_nil, List.length_append, List.length_map, SZ]; omega))) only [ev_seq, ev_seq_nx, ev_seq_rt, ev_seq_ex, ev_seq_bk, ev_seq_ct, ev_nil, ev_pass, ev_break, ev_cont, ev_retN, ev_ret, ev_drop, ev_set, ev_raise, ev_if, ev_par, ev_par3, ev_toS_ok, ev_toS_ex, ev_toS_no, ev_bind_ok, ev_bind_ex, ev_bind_no, ev_it, ev_if_f, ev_C, ev_var, ev_var1, ev_var2, ev_mov, ev_mov1, ev_mov2, ev_okV_e, ev_okV_v, ev_okO, ev_run_e, ev_run_v, ev_get_d, ev_get_i, ev_getO, ev_d_fz, ev_d_ow, ev_d_io, ev_op2, ev_get2, ev_g2, ev_op1, ev_get1, ev_g1, ev_mk, ev_mk0, ev_opN, ev_all_nil, ev_all_cons, ev_runO_nil, ev_runO_cons, ev_getN, ev_gN, ev_getL_nil, ev_getL_cons, ev_gL, ev_runE_nil, ev_runE_cons, ev_tup, ev_lst, ev_mIf, ev_and, ev_or, ev_not, ev_blR, ev_toT, ev_blT, ev_okI, ev_okB, ev_tru, ev_mkT, ev_obind, ev_tru_bl, ev_andT, ev_orT, ev_notT, ev_chain, ev_chR, ev_fn, ev_of_nx, ev_of_rt, ev_of_ex, ev_outs0, ev_outs1, ev_ioE_n, ev_ioE_f, ev_ioE_o, ev_ioE_i, ev_call, ev_callK, ev_callR, ev_args_nil, ev_args_cons, ev_argC, ev_arg_d, ev_arg_i, ev_argO_f, ev_argO_o, ev_argO_i, ev_apart_nil, ev_apart_d, ev_apart_i, ev_any_nil, ev_any_cons, ev_at_d, ev_at_i, ev_ofF_ret, ev_ofF_exc, ev_back0, ev_back1, ev_b1n, ev_b1f, ev_b1o, ev_b1i, ev_bkO0, ev_bkO1, ev_bkI0, ev_bkI1, ev_look0, ev_look_d, ev_look_i, ev_join, ev_head, ev_tail, ev_call1, ev_go_o, ev_go_f, ev_of1_r, ev_of1_e, op_add_i, op_sub_i, op_iadd_i, op_mul_i, op_fdiv_i, op_mod_i, op_pow8_i, op_powL_i, op_lt_i, op_le_i, op_gt_i, op_ge_i, op_neg_i, op_eq_i, op_ne_i, op_eq_s, op_ne_s, op_is_n, op_len_l, op_len_t, op_len_s, op_abs_i, op_max_i, op_min_i, op_int_i, op_int_b, op_divmod_i, op_tup_l, op_tup_t, op_list_l, op_list_t, op_rev_l, op_rev_t, op_own_o, op_own_i, op_setix, op_setR, op_stN, op_as_o, op_as_i, op_isS, op_mut, op_mutR, op_mutS, op_asg_seq, op_asg_seql, op_asg_cons, op_asg_nil, op_asg_nm, op_asg, op_asgR, ixN_1_0, ixN_1_m1, ixN_2_0, ixN_2_1, ixN_2_m1, ixN_3_0, ixN_3_1, ixN_3_2, ixN_3_m1, ixN_4_0, ixN_4_1, ixN_4_2, ixN_4_3, ixN_4_m1, ixN_5_0, ixN_5_1, ixN_5_2, ixN_5_3, ixN_5_4, ixN_5_m1, ixN_6_0, ixN_6_1, ixN_6_2, ixN_6_3, ixN_6_4, ixN_6_5, ixN_6_m1, ixN_7_0, ixN_7_1, ixN_7_2, ixN_7_3, ixN_7_4, ixN_7_5, ixN_7_6, ixN_7_m1, ixN_8_0, ixN_8_1, ixN_8_2, ixN_8_3, ixN_8_4, ixN_8_5, ixN_8_6, ixN_8_7, ixN_8_m1, ixN_9_0, ixN_9_1, ixN_9_2, ixN_9_3, ixN_9_4, ixN_9_5, ixN_9_6, ixN_9_7, ixN_9_8, ixN_9_m1, ixN_10_0, ixN_10_1, ixN_10_2, ixN_10_3, ixN_10_4, ixN_10_5, ixN_10_6, ixN_10_7, ixN_10_8, ixN_10_9, ixN_10_m1, ixN_11_0, ixN_11_1, ixN_11_2, ixN_11_3, ixN_11_4, ixN_11_5, ixN_11_6, ixN_11_7, ixN_11_8, ixN_11_9, ixN_11_10, ixN_11_m1, ixN_12_0, ixN_12_1, ixN_12_2, ixN_12_3, ixN_12_4, ixN_12_5, ixN_12_6, ixN_12_7, ixN_12_8, ixN_12_9, ixN_12_10, ixN_12_11, ixN_12_m1, ixN_13_0, ixN_13_1, ixN_13_2, ixN_13_3, ixN_13_4, ixN_13_5, ixN_13_6, ixN_13_7, ixN_13_8, ixN_13_9, ixN_13_10, ixN_13_11, ixN_13_12, ixN_13_m1, ixN_14_0, ixN_14_1, ixN_14_2, ixN_14_3, ixN_14_4, ixN_14_5, ixN_14_6, ixN_14_7, ixN_14_8, ixN_14_9, ixN_14_10, ixN_14_11, ixN_14_12, ixN_14_13, ixN_14_m1, ixN_15_0, ixN_15_1, ixN_15_2, ixN_15_3, ixN_15_4, ixN_15_5, ixN_15_6, ixN_15_7, ixN_15_8, ixN_15_9, ixN_15_10, ixN_15_11, ixN_15_12, ixN_15_13, ixN_15_14, ixN_15_m1, ix_l0, ix_t0, ix_l1, ix_t1, ix_l2, ix_t2, ix_l3, ix_t3, ix_l4, ix_t4, ix_l5, ix_t5, ix_l6, ix_t6, ix_l7, ix_t7, ix_l8, ix_t8, ix_l9, ix_t9, ix_l10, ix_t10, ix_l11, ix_t11, ix_l12, ix_t12, ix_l13, ix_t13, ev_for, ev_iSeq, ev_mkI, ev_iter_l, ev_iter_t, ev_iter_s, ev_turn_nx, ev_turn_ct, ev_turn_bk, ev_turn_rt, ev_turn_ex, ev_loop0, ev_forR, ev_enum, ev_enumI, ev_zip, ev_wipe0, ev_wipe1, ev_un0, ev_un1, ev_unO_f, ev_unO_n, ev_comp, ev_lc0, ev_lcR0, ev_turnC, ev_tcR, ev_yes, ev_tryAs, ev_tryS_ex, ev_tryS_nx, ev_tryS_rt, ev_tryR, ev_gone_nx, ev_gone_rt, ev_nest, ev_isE, ev_sl, ev_part0, ev_part1, ev_partR, ev_sl_t, ev_sl_l, ev_cast0, ev_cast1, ev_cast2, ev_cast3, ev_cast4, ev_cast5, ev_cast6, ev_cast7, ev_cast8, ev_cast9, ev_cast10, ev_cast11, ev_cast12, ev_cast13, ev_cast14, ev_cast15, ev_cast16, ev_cast17, ev_cast18, ev_cast19, ev_cast20, ev_isi_tt, ev_isi_ti, ev_is_t, ev_isnot_t, ev_isnot_n, ev_zip_tt, ev_zip_ll, op_eqs, op_nes, ev_aug, ev_augR, ev_augS, ev_try, ev_tryT_ex, ev_tryT_nx, ev_tryT_rt, ev_tryT_bk, ev_tryT_ct, ev_tryU, ev_tryU0, ev_cold_nx, ev_cold_rt, back_eq, wipe_eq, unwipe_eq, List.getElem?_cons_zero, List.getElem?_cons_succ, List.set_cons_zero, List.set_cons_succ, Bool.and_true, Bool.true_and, Bool.or_true, Bool.true_or, Bool.or_false, Bool.false_or, Bool.and_false, Bool.false_and, Bool.not_true, Bool.not_false, List.length_cons, List.length_nil, List.map_cons, List.map_nil, List.replicate_succ, List.replicate_zero, List.cons_append, List.nil_append, if_true, if_false, Nat.reduceAdd, Nat.reduceEqDiff, beq_self_eq_true, reduceIte, Nat.zero_add, eq_self, SZ, List.contains_cons, List.contains_nil, Nat.reduceBEq, Nat.reduceLT, Nat.reduceLeDiff, Int.reduceToNat, Int.reducePow, Int.reduceAdd, Int.reduceSub, Int.reduceMul, Int.reduceNeg, Int.reduceLT, Int.reduceLE, Int.reduceEq, Int.reduceDiv, Int.reduceMod, Option.map_some, Option.map_none, cut1, rg1_eq, rb1_ok, rg2_eq, rb2_ok, bk_d0, bk_d1, bk_d2, bk_d3, bk_d4, bk_i0, bk_i1, bk_i2, bk_i3, d1, d2]
        · have d1 : decide (b ≤ n) = false := decide_eq_false d
          simp (maxSteps := 20000000) (disch := (first | assumption | omega | (simp only [List.length_cons, List.length_nil, List.length_append, List.length_map, SZ]; done) | (simp only [List.length_cons, List.length_nil, List.length_append, List.length_map, SZ]; omega))) only [ev_seq, ev_seq_nx, ev_seq_rt, ev_seq_ex, ev_seq_bk, ev_seq_ct, ev_nil, ev_pass, ev_break, ev_cont, ev_retN, ev_ret, ev_drop, ev_set, ev_raise, ev_if, ev_par, ev_par3, ev_toS_ok, ev_toS_ex, ev_toS_no, ev_bind_ok, ev_bind_ex, ev_bind_no, ev_it, ev_if_f, ev_C, ev_var, ev_var1, ev_var2, ev_mov, ev_mov1, ev_mov2, ev_okV_e, ev_okV_v, ev_okO, ev_run_e, ev_run_v, ev_get_d, ev_get_i, ev_getO, ev_d_fz, ev_d_ow, ev_d_io, ev_op2, ev_get2, ev_g2, ev_op1, ev_get1, ev_g1, ev_mk, ev_mk0, ev_opN, ev_all_nil, ev_all_cons, ev_runO_nil, ev_runO_cons, ev_getN, ev_gN, ev_getL_nil, ev_getL_cons, ev_gL, ev_runE_nil, ev_runE_cons, ev_tup, ev_lst, ev_mIf, ev_and, ev_or, ev_not, ev_blR, ev_toT, ev_blT, ev_okI, ev_okB, ev_tru, ev_mkT, ev_obind, ev_tru_bl, ev_andT, ev_orT, ev_notT, ev_chain, ev_chR, ev_fn, ev_of_nx, ev_of_rt, ev_of_ex, ev_outs0, ev_outs1, ev_ioE_n, ev_ioE_f, ev_ioE_o, ev_ioE_i, ev_call, ev_callK, ev_callR, ev_args_nil, ev_args_cons, ev_argC, ev_arg_d, ev_arg_i, ev_argO_f, ev_argO_o, ev_argO_i, ev_apart_nil, ev_apart_d, ev_apart_i, ev_any_nil, ev_any_cons, ev_at_d, ev_at_i, ev_ofF_ret, ev_ofF_exc, ev_back0, ev_back1, ev_b1n, ev_b1f, ev_b1o, ev_b1i, ev_bkO0, ev_bkO1, ev_bkI0, ev_bkI1, ev_look0, ev_look_d, ev_look_i, ev_join, ev_head, ev_tail, ev_call1, ev_go_o, ev_go_f, ev_of1_r, ev_of1_e, op_add_i, op_sub_i, op_iadd_i, op_mul_i, op_fdiv_i, op_mod_i, op_pow8_i, op_powL_i, op_lt_i, op_le_i, op_gt_i, op_ge_i, op_neg_i, op_eq_i, op_ne_i, op_eq_s, op_ne_s, op_is_n, op_len_l, op_len_t, op_len_s, op_abs_i, op_max_i, op_min_i, op_int_i, op_int_b, op_divmod_i, op_tup_l, op_tup_t, op_list_l, op_list_t, op_rev_l, op_rev_t, op_own_o, op_own_i, op_setix, op_setR, op_stN, op_as_o, op_as_i, op_isS, op_mut, op_mutR, op_mutS, op_asg_seq, op_asg_seql, op_asg_cons, op_asg_nil, op_asg_nm, op_asg, op_asgR, ixN_1_0, ixN_1_m1, ixN_2_0, ixN_2_1, ixN_2_m1, ixN_3_0, ixN_3_1, ixN_3_2, ixN_3_m1, ixN_4_0, ixN_4_1, ixN_4_2, ixN_4_3, ixN_4_m1, ixN_5_0, ixN_5_1, ixN_5_2, ixN_5_3, ixN_5_4, ixN_5_m1, ixN_6_0, ixN_6_1, ixN_6_2, ixN_6_3, ixN_6_4, ixN_6_5, ixN_6_m1, ixN_7_0, ixN_7_1, ixN_7_2, ixN_7_3, ixN_7_4, ixN_7_5, ixN_7_6, ixN_7_m1, ixN_8_0, ixN_8_1, ixN_8_2, ixN_8_3, ixN_8_4, ixN_8_5, ixN_8_6, ixN_8_7, ixN_8_m1, ixN_9_0, ixN_9_1, ixN_9_2, ixN_9_3, ixN_9_4, ixN_9_5, ixN_9_6, ixN_9_7, ixN_9_8, ixN_9_m1, ixN_10_0, ixN_10_1, ixN_10_2, ixN_10_3, ixN_10_4, ixN_10_5, ixN_10_6, ixN_10_7, ixN_10_8, ixN_10_9, ixN_10_m1, ixN_11_0, ixN_11_1, ixN_11_2, ixN_11_3, ixN_11_4, ixN_11_5, ixN_11_6, ixN_11_7, ixN_11_8, ixN_11_9, ixN_11_10, ixN_11_m1, ixN_12_0, ixN_12_1, ixN_12_2, ixN_12_3, ixN_12_4, ixN_12_5, ixN_12_6, ixN_12_7, ixN_12_8, ixN_12_9, ixN_12_10, ixN_12_11, ixN_12_m1, ixN_13_0, ixN_13_1, ixN_13_2, ixN_13_3, ixN_13_4, ixN_13_5, ixN_13_6, ixN_13_7, ixN_13_8, ixN_13_9, ixN_13_10, ixN_13_11, ixN_13_12, ixN_13_m1, ixN_14_0, ixN_14_1, ixN_14_2, ixN_14_3, ixN_14_4, ixN_14_5, ixN_14_6, ixN_14_7, ixN_14_8, ixN_14_9, ixN_14_10, ixN_14_11, ixN_14_12, ixN_14_13, ixN_14_m1, ixN_15_0, ixN_15_1, ixN_15_2, ixN_15_3, ixN_15_4, ixN_15_5, ixN_15_6, ixN_15_7, ixN_15_8, ixN_15_9, ixN_15_10, ixN_15_11, ixN_15_12, ixN_15_13, ixN_15_14, ixN_15_m1, ix_l0, ix_t0, ix_l1, ix_t1, ix_l2, ix_t2, ix_l3, ix_t3, ix_l4, ix_t4, ix_l5, ix_t5, ix_l6, ix_t6, ix_l7, ix_t7, ix_l8, ix_t8, ix_l9, ix_t9, ix_l10, ix_t10, ix_l11, ix_t11, ix_l12, ix_t12, ix_l13, ix_t13, ev_for, ev_iSeq, ev_mkI, ev_iter_l, ev_iter_t, ev_iter_s, ev_turn_nx, ev_turn_ct, ev_turn_bk, ev_turn_rt, ev_turn_ex, ev_loop0, ev_forR, ev_enum, ev_enumI, ev_zip, ev_wipe0, ev_wipe1, ev_un0, ev_un1, ev_unO_f, ev_unO_n, ev_comp, ev_lc0, ev_lcR0, ev_turnC, ev_tcR, ev_yes, ev_tryAs, ev_tryS_ex, ev_tryS_nx, ev_tryS_rt, ev_tryR, ev_gone_nx, ev_gone_rt, ev_nest, ev_isE, ev_sl, ev_part0, ev_part1, ev_partR, ev_sl_t, ev_sl_l, ev_cast0, ev_cast1, ev_cast2, ev_cast3, ev_cast4, ev_cast5, ev_cast6, ev_cast7, ev_cast8, ev_cast9, ev_cast10, ev_cast11, ev_cast12, ev_cast13, ev_cast14, ev_cast15, ev_cast16, ev_cast17, ev_cast18, ev_cast19, ev_cast20, ev_isi_tt, ev_isi_ti, ev_is_t, ev_isnot_t, ev_isnot_n, ev_zip_tt, ev_zip_ll, op_eqs, op_nes, ev_aug, ev_augR, ev_augS, ev_try, ev_tryT_ex, ev_tryT_nx, ev_tryT_rt, ev_tryT_bk, ev_tryT_ct, ev_tryU, ev_tryU0, ev_cold_nx, ev_cold_rt, back_eq, wipe_eq, unwipe_eq, List.getElem?_cons_zero, List.getElem?_cons_succ, List.set_cons_zero, List.set_cons_succ, Bool.and_true, Bool.true_and, Bool.or_true, Bool.true_or, Bool.or_false, Bool.false_or, Bool.and_false, Bool.false_and, Bool.not_true, Bool.not_false, List.length_cons, List.length_nil, List.map_cons, List.map_nil, List.replicate_succ, List.replicate_zero, List.cons_append, List.nil_append, if_true, if_false, Nat.reduceAdd, Nat.reduceEqDiff, beq_self_eq_true, reduceIte, Nat.zero_add, eq_self, SZ, List.contains_cons, List.contains_nil, Nat.reduceBEq, Nat.reduceLT, Nat.reduceLeDiff, Int.reduceToNat, Int.reducePow, Int.reduceAdd, Int.reduceSub, Int.reduceMul, Int.reduceNeg, Int.reduceLT, Int.reduceLE, Int.reduceEq, Int.reduceDiv, Int.reduceMod, Option.map_some, Option.map_none, cut1, rg1_eq, rb1_ok, rg2_eq, rb2_ok, bk_d0, bk_d1, bk_d2, bk_d3, bk_d4, bk_i0, bk_i1, bk_i2, bk_i3, d1]
      rw [e7, ev_lcR0, ih, ed]
theorem ask_step {l : Runs} (hg : Line l) (q : Bool) (kk : Mi.Env → SR) (n : Int) (hn : 0 ≤ n) (x0 x2 x5 x6 x7 x8 x9 x10 x11 x12 : Option Sl) (h7 : Fzs x7) (h8 : Fzs x8) (h9 : Fzs x9) :
    ∃ z11 z12, forR L_law_right_3 kk (gNm 10 (.int n) [x0, some (.fz (.tup (l.map runD))), x2, some (.fz (.str (sideS q))), some (.fz (.lst ((rws q 0 0 l).map rwD))), x5, x6, x7, x8, x9, x10, x11, x12]) = kk [x0, some (.fz (.tup (l.map runD))), x2, some (.fz (.str (sideS q))), some (.fz (.lst ((rws q 0 0 l).map rwD))), x5, x6, x7, x8, x9, some (.fz (.int n)), z11, z12] := by
  have hlen := hg.len
  have hrow := (rws_row q (o := 0) (b := 0) hg.bd (Int.le_refl _)).2
  have e1 := due_loop n x0 (some (.fz (.tup (l.map runD)))) x2 (some (.fz (.str (sideS q)))) (some (.fz (.lst ((rws q 0 0 l).map rwD)))) x5 x6 x11 x12 (rws q 0 0 l) [] (by simp; omega)
  rw [List.nil_append, du_pos q n hg.good.ps hn, Int.sub_zero] at e1
  have e2 := place_of_ok hg.good hg.ne (by omega) q hn
  have u7 := h7.un
  have u8 := h8.un
  have u9 := h9.un
  have en := ne_opt (posQ q 0 n l)
  have eq := ne_qq q
  cases hp : posQ q 0 n l with
  | none =>
    rw [hp] at e1 e2 en
    have e1 : loopC (turnC (gSeq 3 (gsCons (gNm 7) (gsCons (gNm 8) (gsCons (gNm 9) gsNil)))) (toT (mChain leD ltD (.v 7) (.v 10) (.e (mOp2 addD (.v 7) (.v 9))))) E_law_right_2 [7, 8, 9]) ((rws q 0 0 l).map rwD) [x0, some (.fz (.tup (l.map runD))), x2, some (.fz (.str (sideS q))), some (.fz (.lst ((rws q 0 0 l).map rwD))), x5, x6, none, none, none, some (.fz (.int n)), x11, x12] [] = .ok [] [x0, some (.fz (.tup (l.map runD))), x2, some (.fz (.str (sideS q))), some (.fz (.lst ((rws q 0 0 l).map rwD))), x5, x6, none, none, none, some (.fz (.int n)), x11, x12] := e1
    have e2 : Fplace_of [.fz (.tup (l.map runD)), .fz (.str (sideS q)), .fz (.int n)] = .ret (.fz .non) [none, none, none] := e2
    have en : neD .non .non = some (.fz (.bl false)) := en
    have ed : addD (.lst []) (.lst [.non]) = some (.ow [.non]) := op_add_l (by simp only [List.length_cons, List.length_nil, SZ]; omega)
    refine ⟨some (.ow []), some (.fz .non), ?_⟩
    revert e1 e2
    unfold L_law_right_3
    generalize E_law_right_2 = f1
    generalize Fplace_of = f2
    generalize Fside_at = f3
    generalize (rws q 0 0 l).map rwD = rd
    generalize D.tup (l.map runD) = ld
    generalize sideS q = sq
    intro e1 e2
    simp (maxSteps := 20000000) (disch := (first | assumption | omega | (simp only [List.length_cons, List.length_nil, List.length_append, List.length_map, SZ]; done) | (simp only [List.length_cons, List.length_nil, List.length_append, List.length_map, SZ]; omega))) only [ev_seq, ev_seq_nx, ev_seq_rt, ev_seq_ex, ev_seq_bk, ev_seq_ct, ev_nil, ev_pass, ev_break, ev_cont, ev_retN, ev_ret, ev_drop, ev_set, ev_raise, ev_if, ev_par, ev_par3, ev_toS_ok, ev_toS_ex, ev_toS_no, ev_bind_ok, ev_bind_ex, ev_bind_no, ev_it, ev_if_f, ev_C, ev_var, ev_var1, ev_var2, ev_mov, ev_mov1, ev_mov2, ev_okV_e, ev_okV_v, ev_okO, ev_run_e, ev_run_v, ev_get_d, ev_get_i, ev_getO, ev_d_fz, ev_d_ow, ev_d_io, ev_op2, ev_get2, ev_g2, ev_op1, ev_get1, ev_g1, ev_mk, ev_mk0, ev_opN, ev_all_nil, ev_all_cons, ev_runO_nil, ev_runO_cons, ev_getN, ev_gN, ev_getL_nil, ev_getL_cons, ev_gL, ev_runE_nil, ev_runE_cons, ev_tup, ev_lst, ev_mIf, ev_and, ev_or, ev_not, ev_blR, ev_toT, ev_blT, ev_okI, ev_okB, ev_tru, ev_mkT, ev_obind, ev_tru_bl, ev_andT, ev_orT, ev_notT, ev_chain, ev_chR, ev_fn, ev_of_nx, ev_of_rt, ev_of_ex, ev_outs0, ev_outs1, ev_ioE_n, ev_ioE_f, ev_ioE_o, ev_ioE_i, ev_call, ev_callK, ev_callR, ev_args_nil, ev_args_cons, ev_argC, ev_arg_d, ev_arg_i, ev_argO_f, ev_argO_o, ev_argO_i, ev_apart_nil, ev_apart_d, ev_apart_i, ev_any_nil, ev_any_cons, ev_at_d, ev_at_i, ev_ofF_ret, ev_ofF_exc, ev_back0, ev_back1, ev_b1n, ev_b1f, ev_b1o, ev_b1i, ev_bkO0, ev_bkO1, ev_bkI0, ev_bkI1, ev_look0, ev_look_d, ev_look_i, ev_join, ev_head, ev_tail, ev_call1, ev_go_o, ev_go_f, ev_of1_r, ev_of1_e, op_add_i, op_sub_i, op_iadd_i, op_mul_i, op_fdiv_i, op_mod_i, op_pow8_i, op_powL_i, op_lt_i, op_le_i, op_gt_i, op_ge_i, op_neg_i, op_eq_i, op_ne_i, op_eq_s, op_ne_s, op_is_n, op_len_l, op_len_t, op_len_s, op_abs_i, op_max_i, op_min_i, op_int_i, op_int_b, op_divmod_i, op_tup_l, op_tup_t, op_list_l, op_list_t, op_rev_l, op_rev_t, op_own_o, op_own_i, op_setix, op_setR, op_stN, op_as_o, op_as_i, op_isS, op_mut, op_mutR, op_mutS, op_asg_seq, op_asg_seql, op_asg_cons, op_asg_nil, op_asg_nm, op_asg, op_asgR, ixN_1_0, ixN_1_m1, ixN_2_0, ixN_2_1, ixN_2_m1, ixN_3_0, ixN_3_1, ixN_3_2, ixN_3_m1, ixN_4_0, ixN_4_1, ixN_4_2, ixN_4_3, ixN_4_m1, ixN_5_0, ixN_5_1, ixN_5_2, ixN_5_3, ixN_5_4, ixN_5_m1, ixN_6_0, ixN_6_1, ixN_6_2, ixN_6_3, ixN_6_4, ixN_6_5, ixN_6_m1, ixN_7_0, ixN_7_1, ixN_7_2, ixN_7_3, ixN_7_4, ixN_7_5, ixN_7_6, ixN_7_m1, ixN_8_0, ixN_8_1, ixN_8_2, ixN_8_3, ixN_8_4, ixN_8_5, ixN_8_6, ixN_8_7, ixN_8_m1, ixN_9_0, ixN_9_1, ixN_9_2, ixN_9_3, ixN_9_4, ixN_9_5, ixN_9_6, ixN_9_7, ixN_9_8, ixN_9_m1, ixN_10_0, ixN_10_1, ixN_10_2, ixN_10_3, ixN_10_4, ixN_10_5, ixN_10_6, ixN_10_7, ixN_10_8, ixN_10_9, ixN_10_m1, ixN_11_0, ixN_11_1, ixN_11_2, ixN_11_3, ixN_11_4, ixN_11_5, ixN_11_6, ixN_11_7, ixN_11_8, ixN_11_9, ixN_11_10, ixN_11_m1, ixN_12_0, ixN_12_1, ixN_12_2, ixN_12_3, ixN_12_4, ixN_12_5, ixN_12_6, ixN_12_7, ixN_12_8, ixN_12_9, ixN_12_10, ixN_12_11, ixN_12_m1, ixN_13_0, ixN_13_1, ixN_13_2, ixN_13_3, ixN_13_4, ixN_13_5, ixN_13_6, ixN_13_7, ixN_13_8, ixN_13_9, ixN_13_10, ixN_13_11, ixN_13_12, ixN_13_m1, ixN_14_0, ixN_14_1, ixN_14_2, ixN_14_3, ixN_14_4, ixN_14_5, ixN_14_6, ixN_14_7, ixN_14_8, ixN_14_9, ixN_14_10, ixN_14_11, ixN_14_12, ixN_14_13, ixN_14_m1, ixN_15_0, ixN_15_1, ixN_15_2, ixN_15_3, ixN_15_4, ixN_15_5, ixN_15_6, ixN_15_7, ixN_15_8, ixN_15_9, ixN_15_10, ixN_15_11, ixN_15_12, ixN_15_13, ixN_15_14, ixN_15_m1, ix_l0, ix_t0, ix_l1, ix_t1, ix_l2, ix_t2, ix_l3, ix_t3, ix_l4, ix_t4, ix_l5, ix_t5, ix_l6, ix_t6, ix_l7, ix_t7, ix_l8, ix_t8, ix_l9, ix_t9, ix_l10, ix_t10, ix_l11, ix_t11, ix_l12, ix_t12, ix_l13, ix_t13, ev_for, ev_iSeq, ev_mkI, ev_iter_l, ev_iter_t, ev_iter_s, ev_turn_nx, ev_turn_ct, ev_turn_bk, ev_turn_rt, ev_turn_ex, ev_loop0, ev_forR, ev_enum, ev_enumI, ev_zip, ev_wipe0, ev_wipe1, ev_un0, ev_un1, ev_unO_f, ev_unO_n, ev_comp, ev_lc0, ev_lcR0, ev_turnC, ev_tcR, ev_yes, ev_tryAs, ev_tryS_ex, ev_tryS_nx, ev_tryS_rt, ev_tryR, ev_gone_nx, ev_gone_rt, ev_nest, ev_isE, ev_sl, ev_part0, ev_part1, ev_partR, ev_sl_t, ev_sl_l, ev_cast0, ev_cast1, ev_cast2, ev_cast3, ev_cast4, ev_cast5, ev_cast6, ev_cast7, ev_cast8, ev_cast9, ev_cast10, ev_cast11, ev_cast12, ev_cast13, ev_cast14, ev_cast15, ev_cast16, ev_cast17, ev_cast18, ev_cast19, ev_cast20, ev_isi_tt, ev_isi_ti, ev_is_t, ev_isnot_t, ev_isnot_n, ev_zip_tt, ev_zip_ll, op_eqs, op_nes, ev_aug, ev_augR, ev_augS, ev_try, ev_tryT_ex, ev_tryT_nx, ev_tryT_rt, ev_tryT_bk, ev_tryT_ct, ev_tryU, ev_tryU0, ev_cold_nx, ev_cold_rt, back_eq, wipe_eq, unwipe_eq, List.getElem?_cons_zero, List.getElem?_cons_succ, List.set_cons_zero, List.set_cons_succ, Bool.and_true, Bool.true_and, Bool.or_true, Bool.true_or, Bool.or_false, Bool.false_or, Bool.and_false, Bool.false_and, Bool.not_true, Bool.not_false, List.length_cons, List.length_nil, List.map_cons, List.map_nil, List.replicate_succ, List.replicate_zero, List.cons_append, List.nil_append, if_true, if_false, Nat.reduceAdd, Nat.reduceEqDiff, beq_self_eq_true, reduceIte, Nat.zero_add, eq_self, SZ, List.contains_cons, List.contains_nil, Nat.reduceBEq, Nat.reduceLT, Nat.reduceLeDiff, Int.reduceToNat, Int.reducePow, Int.reduceAdd, Int.reduceSub, Int.reduceMul, Int.reduceNeg, Int.reduceLT, Int.reduceLE, Int.reduceEq, Int.reduceDiv, Int.reduceMod, Option.map_some, Option.map_none, cut1, rg1_eq, rb1_ok, rg2_eq, rb2_ok, bk_d0, bk_d1, bk_d2, bk_d3, bk_d4, bk_i0, bk_i1, bk_i2, bk_i3, permL, List.filterMap_cons, List.filterMap_nil, e1, e2, en, ed, u7, u8, u9]
  | some p =>
    obtain ⟨p1, p2, p3⟩ := posQ_at q hg.good.ps hn hp
    rw [hp] at e1 e2 en
    have e1 : loopC (turnC (gSeq 3 (gsCons (gNm 7) (gsCons (gNm 8) (gsCons (gNm 9) gsNil)))) (toT (mChain leD ltD (.v 7) (.v 10) (.e (mOp2 addD (.v 7) (.v 9))))) E_law_right_2 [7, 8, 9]) ((rws q 0 0 l).map rwD) [x0, some (.fz (.tup (l.map runD))), x2, some (.fz (.str (sideS q))), some (.fz (.lst ((rws q 0 0 l).map rwD))), x5, x6, none, none, none, some (.fz (.int n)), x11, x12] [] = .ok [.int p] [x0, some (.fz (.tup (l.map runD))), x2, some (.fz (.str (sideS q))), some (.fz (.lst ((rws q 0 0 l).map rwD))), x5, x6, none, none, none, some (.fz (.int n)), x11, x12] := e1
    have e2 : Fplace_of [.fz (.tup (l.map runD)), .fz (.str (sideS q)), .fz (.int n)] = .ret (.fz (.int p)) [none, none, none] := e2
    have en : neD (.int p) (.int p) = some (.fz (.bl false)) := en
    have ed : addD (.lst [.int p]) (.lst [.non]) = some (.ow [.int p, .non]) := op_add_l (by simp only [List.length_cons, List.length_nil, SZ]; omega)
    have e3 := side_in hg.good hg.ne (by omega) (show 1 ≤ p by omega) (by omega) p3
    have ei : isNotD (.int p) .non = some (.fz (.bl true)) := rfl
    refine ⟨some (.ow [.int p]), some (.fz (.int p)), ?_⟩
    revert e1 e2 e3
    unfold L_law_right_3
    generalize E_law_right_2 = f1
    generalize Fplace_of = f2
    generalize Fside_at = f3
    generalize (rws q 0 0 l).map rwD = rd
    generalize D.tup (l.map runD) = ld
    generalize sideS q = sq at *
    intro e1 e2 e3
    simp (maxSteps := 20000000) (disch := (first | assumption | omega | (simp only [List.length_cons, List.length_nil, List.length_append, List.length_map, SZ]; done) | (simp only [List.length_cons, List.length_nil, List.length_append, List.length_map, SZ]; omega))) only [ev_seq, ev_seq_nx, ev_seq_rt, ev_seq_ex, ev_seq_bk, ev_seq_ct, ev_nil, ev_pass, ev_break, ev_cont, ev_retN, ev_ret, ev_drop, ev_set, ev_raise, ev_if, ev_par, ev_par3, ev_toS_ok, ev_toS_ex, ev_toS_no, ev_bind_ok, ev_bind_ex, ev_bind_no, ev_it, ev_if_f, ev_C, ev_var, ev_var1, ev_var2, ev_mov, ev_mov1, ev_mov2, ev_okV_e, ev_okV_v, ev_okO, ev_run_e, ev_run_v, ev_get_d, ev_get_i, ev_getO, ev_d_fz, ev_d_ow, ev_d_io, ev_op2, ev_get2, ev_g2, ev_op1, ev_get1, ev_g1, ev_mk, ev_mk0, ev_opN, ev_all_nil, ev_all_cons, ev_runO_nil, ev_runO_cons, ev_getN, ev_gN, ev_getL_nil, ev_getL_cons, ev_gL, ev_runE_nil, ev_runE_cons, ev_tup, ev_lst, ev_mIf, ev_and, ev_or, ev_not, ev_blR, ev_toT, ev_blT, ev_okI, ev_okB, ev_tru, ev_mkT, ev_obind, ev_tru_bl, ev_andT, ev_orT, ev_notT, ev_chain, ev_chR, ev_fn, ev_of_nx, ev_of_rt, ev_of_ex, ev_outs0, ev_outs1, ev_ioE_n, ev_ioE_f, ev_ioE_o, ev_ioE_i, ev_call, ev_callK, ev_callR, ev_args_nil, ev_args_cons, ev_argC, ev_arg_d, ev_arg_i, ev_argO_f, ev_argO_o, ev_argO_i, ev_apart_nil, ev_apart_d, ev_apart_i, ev_any_nil, ev_any_cons, ev_at_d, ev_at_i, ev_ofF_ret, ev_ofF_exc, ev_back0, ev_back1, ev_b1n, ev_b1f, ev_b1o, ev_b1i, ev_bkO0, ev_bkO1, ev_bkI0, ev_bkI1, ev_look0, ev_look_d, ev_look_i, ev_join, ev_head, ev_tail, ev_call1, ev_go_o, ev_go_f, ev_of1_r, ev_of1_e, op_add_i, op_sub_i, op_iadd_i, op_mul_i, op_fdiv_i, op_mod_i, op_pow8_i, op_powL_i, op_lt_i, op_le_i, op_gt_i, op_ge_i, op_neg_i, op_eq_i, op_ne_i, op_eq_s, op_ne_s, op_is_n, op_len_l, op_len_t, op_len_s, op_abs_i, op_max_i, op_min_i, op_int_i, op_int_b, op_divmod_i, op_tup_l, op_tup_t, op_list_l, op_list_t, op_rev_l, op_rev_t, op_own_o, op_own_i, op_setix, op_setR, op_stN, op_as_o, op_as_i, op_isS, op_mut, op_mutR, op_mutS, op_asg_seq, op_asg_seql, op_asg_cons, op_asg_nil, op_asg_nm, op_asg, op_asgR, ixN_1_0, ixN_1_m1, ixN_2_0, ixN_2_1, ixN_2_m1, ixN_3_0, ixN_3_1, ixN_3_2, ixN_3_m1, ixN_4_0, ixN_4_1, ixN_4_2, ixN_4_3, ixN_4_m1, ixN_5_0, ixN_5_1, ixN_5_2, ixN_5_3, ixN_5_4, ixN_5_m1, ixN_6_0, ixN_6_1, ixN_6_2, ixN_6_3, ixN_6_4, ixN_6_5, ixN_6_m1, ixN_7_0, ixN_7_1, ixN_7_2, ixN_7_3, ixN_7_4, ixN_7_5, ixN_7_6, ixN_7_m1, ixN_8_0, ixN_8_1, ixN_8_2, ixN_8_3, ixN_8_4, ixN_8_5, ixN_8_6, ixN_8_7, ixN_8_m1, ixN_9_0, ixN_9_1, ixN_9_2, ixN_9_3, ixN_9_4, ixN_9_5, ixN_9_6, ixN_9_7, ixN_9_8, ixN_9_m1, ixN_10_0, ixN_10_1, ixN_10_2, ixN_10_3, ixN_10_4, ixN_10_5, ixN_10_6, ixN_10_7, ixN_10_8, ixN_10_9, ixN_10_m1, ixN_11_0, ixN_11_1, ixN_11_2, ixN_11_3, ixN_11_4, ixN_11_5, ixN_11_6, ixN_11_7, ixN_11_8, ixN_11_9, ixN_11_10, ixN_11_m1, ixN_12_0, ixN_12_1, ixN_12_2, ixN_12_3, ixN_12_4, ixN_12_5, ixN_12_6, ixN_12_7, ixN_12_8, ixN_12_9, ixN_12_10, ixN_12_11, ixN_12_m1, ixN_13_0, ixN_13_1, ixN_13_2, ixN_13_3, ixN_13_4, ixN_13_5, ixN_13_6, ixN_13_7, ixN_13_8, ixN_13_9, ixN_13_10, ixN_13_11, ixN_13_12, ixN_13_m1, ixN_14_0, ixN_14_1, ixN_14_2, ixN_14_3, ixN_14_4, ixN_14_5, ixN_14_6, ixN_14_7, ixN_14_8, ixN_14_9, ixN_14_10, ixN_14_11, ixN_14_12, ixN_14_13, ixN_14_m1, ixN_15_0, ixN_15_1, ixN_15_2, ixN_15_3, ixN_15_4, ixN_15_5, ixN_15_6, ixN_15_7, ixN_15_8, ixN_15_9, ixN_15_10, ixN_15_11, ixN_15_12, ixN_15_13, ixN_15_14, ixN_15_m1, ix_l0, ix_t0, ix_l1, ix_t1, ix_l2, ix_t2, ix_l3, ix_t3, ix_l4, ix_t4, ix_l5, ix_t5, ix_l6, ix_t6, ix_l7, ix_t7, ix_l8, ix_t8, ix_l9, ix_t9, ix_l10, ix_t10, ix_l11, ix_t11, ix_l12, ix_t12, ix_l13, ix_t13, ev_for, ev_iSeq, ev_mkI, ev_iter_l, ev_iter_t, ev_iter_s, ev_turn_nx, ev_turn_ct, ev_turn_bk, ev_turn_rt, ev_turn_ex, ev_loop0, ev_forR, ev_enum, ev_enumI, ev_zip, ev_wipe0, ev_wipe1, ev_un0, ev_un1, ev_unO_f, ev_unO_n, ev_comp, ev_lc0, ev_lcR0, ev_turnC, ev_tcR, ev_yes, ev_tryAs, ev_tryS_ex, ev_tryS_nx, ev_tryS_rt, ev_tryR, ev_gone_nx, ev_gone_rt, ev_nest, ev_isE, ev_sl, ev_part0, ev_part1, ev_partR, ev_sl_t, ev_sl_l, ev_cast0, ev_cast1, ev_cast2, ev_cast3, ev_cast4, ev_cast5, ev_cast6, ev_cast7, ev_cast8, ev_cast9, ev_cast10, ev_cast11, ev_cast12, ev_cast13, ev_cast14, ev_cast15, ev_cast16, ev_cast17, ev_cast18, ev_cast19, ev_cast20, ev_isi_tt, ev_isi_ti, ev_is_t, ev_isnot_t, ev_isnot_n, ev_zip_tt, ev_zip_ll, op_eqs, op_nes, ev_aug, ev_augR, ev_augS, ev_try, ev_tryT_ex, ev_tryT_nx, ev_tryT_rt, ev_tryT_bk, ev_tryT_ct, ev_tryU, ev_tryU0, ev_cold_nx, ev_cold_rt, back_eq, wipe_eq, unwipe_eq, List.getElem?_cons_zero, List.getElem?_cons_succ, List.set_cons_zero, List.set_cons_succ, Bool.and_true, Bool.true_and, Bool.or_true, Bool.true_or, Bool.or_false, Bool.false_or, Bool.and_false, Bool.false_and, Bool.not_true, Bool.not_false, List.length_cons, List.length_nil, List.map_cons, List.map_nil, List.replicate_succ, List.replicate_zero, List.cons_append, List.nil_append, if_true, if_false, Nat.reduceAdd, Nat.reduceEqDiff, beq_self_eq_true, reduceIte, Nat.zero_add, eq_self, SZ, List.contains_cons, List.contains_nil, Nat.reduceBEq, Nat.reduceLT, Nat.reduceLeDiff, Int.reduceToNat, Int.reducePow, Int.reduceAdd, Int.reduceSub, Int.reduceMul, Int.reduceNeg, Int.reduceLT, Int.reduceLE, Int.reduceEq, Int.reduceDiv, Int.reduceMod, Option.map_some, Option.map_none, cut1, rg1_eq, rb1_ok, rg2_eq, rb2_ok, bk_d0, bk_d1, bk_d2, bk_d3, bk_d4, bk_i0, bk_i1, bk_i2, bk_i3, permL, List.filterMap_cons, List.filterMap_nil, e1, e2, e3, en, ed, ei, eq, u7, u8, u9, decide_true, decide_false]
theorem ask_loop {l : Runs} (hg : Line l) (q : Bool) (x0 x2 x5 x6 x7 x8 x9 : Option Sl) (h7 : Fzs x7) (h8 : Fzs x8) (h9 : Fzs x9) : ∀ (ns : List Int) (x10 x11 x12 : Option Sl), Nns ns →
    ∃ z10 z11 z12, loopF (gNm 10) L_law_right_3 (ns.map .int) [x0, some (.fz (.tup (l.map runD))), x2, some (.fz (.str (sideS q))), some (.fz (.lst ((rws q 0 0 l).map rwD))), x5, x6, x7, x8, x9, x10, x11, x12] = .nx [x0, some (.fz (.tup (l.map runD))), x2, some (.fz (.str (sideS q))), some (.fz (.lst ((rws q 0 0 l).map rwD))), x5, x6, x7, x8, x9, z10, z11, z12]
  | [], x10, x11, x12, _ => ⟨x10, x11, x12, rfl⟩
  | n :: ns, x10, x11, x12, h => by
    obtain ⟨y11, y12, e1⟩ := ask_step hg q (loopF (gNm 10) L_law_right_3 (ns.map .int)) n (h n (List.mem_cons_self ..)) x0 x2 x5 x6 x7 x8 x9 x10 x11 x12 h7 h8 h9
    obtain ⟨z10, z11, z12, e2⟩ := ask_loop hg q x0 x2 x5 x6 x7 x8 x9 h7 h8 h9 ns (some (.fz (.int n))) y11 y12 fun y hy => h y (List.mem_cons_of_mem _ hy)
    exact ⟨z10, z11, z12, by rw [List.map_cons, loop_cons, e1, e2]⟩
end G

namespace G
open PySem PySem.Spec PyProof.Rows L2 Mi
theorem right_side {l : Runs} (hg : Line l) (q : Bool) (kk : Mi.Env → SR) (a b c n : Int) (s : Src a b c n) (hn : n < 10000) (x2 x3 x4 x5 x6 x7 x8 x9 x10 x11 x12 : Option Sl) (h7 : Fzs x7) (h8 : Fzs x8) (h9 : Fzs x9) :
    ∃ a' c' : Int, ∃ z4 z5 z6 z7 z8 z9 z10 z11 z12, forR L_law_right_4 kk (gNm 3 (.str (sideS q)) [some (.io [.int a, .int b, .int c]), some (.fz (.tup (l.map runD))), x2, x3, x4, x5, x6, x7, x8, x9, x10, x11, x12]) = kk [some (.io [.int a', .int b, .int c']), some (.fz (.tup (l.map runD))), x2, some (.fz (.str (sideS q))), z4, z5, z6, z7, z8, z9, z10, z11, z12] ∧ Src a' b c' (n + 30) ∧ Fzs z7 ∧ Fzs z8 ∧ Fzs z9 := by
  have hlen := hg.len
  obtain ⟨hrow, hrl⟩ := rws_row q (o := 0) (b := 0) hg.bd (Int.le_refl _)
  have hT := sum_nn hrow
  have e1 := rows_ok q l (by omega)
  have e2 := sum_rows (some (.io [.int a, .int b, .int c])) (some (.fz (.tup (l.map runD)))) x2 (some (.fz (.str (sideS q)))) (some (.fz (.lst ((rws q 0 0 l).map rwD)))) x5 x6 x10 x11 x12 (rws q 0 0 l) [] (by simp; omega)
  rw [List.nil_append] at e2
  have e3 := sum_ints ((rws q 0 0 l).map (·.2.2))
  obtain ⟨T, hTe⟩ : ∃ T, ((rws q 0 0 l).map (·.2.2)).sum = T := ⟨_, rfl⟩
  rw [hTe] at e3 hT
  obtain ⟨r, a1, c1, e4, g1, l1, s1⟩ := draw_src (k := 1000000000000000000000000000000) s (by omega) (by omega) (by omega)
  obtain ⟨a2, c2, ms, z7, z8, z9, e5, m1, m2, s2, k7, k8, k9⟩ := num_loop b (some (.fz (.tup (l.map runD)))) x2 (some (.fz (.str (sideS q)))) (some (.fz (.lst ((rws q 0 0 l).map rwD)))) (some (.fz (.int T))) x10 x11 x12 (rws q 0 0 l) [T, T + 1, T + r, 0] a1 c1 (n + 1) x7 x8 x9 hrow (fun y hy => by
    simp only [List.mem_cons, List.not_mem_nil, or_false] at hy
    rcases hy with rfl | rfl | rfl | rfl <;> omega) (by simp; omega) s1 (by omega) h7 h8 h9
  obtain ⟨z10, z11, z12, e6⟩ := ask_loop hg q (some (.io [.int a2, .int b, .int c2])) x2 (some (.fz (.int T))) (some (.fz (.lst (ms.map .int)))) z7 z8 z9 k7 k8 k9 ms x10 x11 x12 m1
  have u7 := h7.un
  have u8 := h8.un
  have u9 := h9.un
  refine ⟨a2, c2, some (.fz (.lst ((rws q 0 0 l).map rwD))), some (.fz (.int T)), some (.fz (.lst (ms.map .int))), z7, z8, z9, z10, z11, z12, ?_, s2.up (by omega), k7, k8, k9⟩
  have e5 : loopF (gSeq 3 (gsCons (gNm 7) (gsCons (gNm 8) (gsCons (gNm 9) gsNil)))) L_law_right_1 ((rws q 0 0 l).map rwD) [some (.io [.int a1, .int b, .int c1]), some (.fz (.tup (l.map runD))), x2, some (.fz (.str (sideS q))), some (.fz (.lst ((rws q 0 0 l).map rwD))), some (.fz (.int T)), some (.ow [.int T, .int (T + 1), .int (T + r), .int 0]), x7, x8, x9, x10, x11, x12] = .nx [some (.io [.int a2, .int b, .int c2]), some (.fz (.tup (l.map runD))), x2, some (.fz (.str (sideS q))), some (.fz (.lst ((rws q 0 0 l).map rwD))), some (.fz (.int T)), some (.ow (ms.map .int)), z7, z8, z9, x10, x11, x12] := e5
  unfold L_law_right_4
  revert e1 e2 e3 e4 e5 e6
  generalize F_law_rows = f1
  generalize E_law_right_0 = f2
  generalize F_law_draw = f3
  generalize L_law_right_1 = f4
  generalize L_law_right_3 = f5
  generalize ms.map D.int = md
  generalize ((rws q 0 0 l).map (·.2.2)).map D.int = sd
  generalize (rws q 0 0 l).map rwD = rd
  generalize D.tup (l.map runD) = ld
  generalize sideS q = sq
  intro e1 e2 e3 e4 e6 e5
  simp (maxSteps := 20000000) (disch := (first | assumption | omega | (simp only [List.length_cons, List.length_nil, List.length_append, List.length_map, SZ]; done) | (simp only [List.length_cons, List.length_nil, List.length_append, List.length_map, SZ]; omega))) only [ev_seq, ev_seq_nx, ev_seq_rt, ev_seq_ex, ev_seq_bk, ev_seq_ct, ev_nil, ev_pass, ev_break, ev_cont, ev_retN, ev_ret, ev_drop, ev_set, ev_raise, ev_if, ev_par, ev_par3, ev_toS_ok, ev_toS_ex, ev_toS_no, ev_bind_ok, ev_bind_ex, ev_bind_no, ev_it, ev_if_f, ev_C, ev_var, ev_var1, ev_var2, ev_mov, ev_mov1, ev_mov2, ev_okV_e, ev_okV_v, ev_okO, ev_run_e, ev_run_v, ev_get_d, ev_get_i, ev_getO, ev_d_fz, ev_d_ow, ev_d_io, ev_op2, ev_get2, ev_g2, ev_op1, ev_get1, ev_g1, ev_mk, ev_mk0, ev_opN, ev_all_nil, ev_all_cons, ev_runO_nil, ev_runO_cons, ev_getN, ev_gN, ev_getL_nil, ev_getL_cons, ev_gL, ev_runE_nil, ev_runE_cons, ev_tup, ev_lst, ev_mIf, ev_and, ev_or, ev_not, ev_blR, ev_toT, ev_blT, ev_okI, ev_okB, ev_tru, ev_mkT, ev_obind, ev_tru_bl, ev_andT, ev_orT, ev_notT, ev_chain, ev_chR, ev_fn, ev_of_nx, ev_of_rt, ev_of_ex, ev_outs0, ev_outs1, ev_ioE_n, ev_ioE_f, ev_ioE_o, ev_ioE_i, ev_call, ev_callK, ev_callR, ev_args_nil, ev_args_cons, ev_argC, ev_arg_d, ev_arg_i, ev_argO_f, ev_argO_o, ev_argO_i, ev_apart_nil, ev_apart_d, ev_apart_i, ev_any_nil, ev_any_cons, ev_at_d, ev_at_i, ev_ofF_ret, ev_ofF_exc, ev_back0, ev_back1, ev_b1n, ev_b1f, ev_b1o, ev_b1i, ev_bkO0, ev_bkO1, ev_bkI0, ev_bkI1, ev_look0, ev_look_d, ev_look_i, ev_join, ev_head, ev_tail, ev_call1, ev_go_o, ev_go_f, ev_of1_r, ev_of1_e, op_add_i, op_sub_i, op_iadd_i, op_mul_i, op_fdiv_i, op_mod_i, op_pow8_i, op_powL_i, op_lt_i, op_le_i, op_gt_i, op_ge_i, op_neg_i, op_eq_i, op_ne_i, op_eq_s, op_ne_s, op_is_n, op_len_l, op_len_t, op_len_s, op_abs_i, op_max_i, op_min_i, op_int_i, op_int_b, op_divmod_i, op_tup_l, op_tup_t, op_list_l, op_list_t, op_rev_l, op_rev_t, op_own_o, op_own_i, op_setix, op_setR, op_stN, op_as_o, op_as_i, op_isS, op_mut, op_mutR, op_mutS, op_asg_seq, op_asg_seql, op_asg_cons, op_asg_nil, op_asg_nm, op_asg, op_asgR, ixN_1_0, ixN_1_m1, ixN_2_0, ixN_2_1, ixN_2_m1, ixN_3_0, ixN_3_1, ixN_3_2, ixN_3_m1, ixN_4_0, ixN_4_1, ixN_4_2, ixN_4_3, ixN_4_m1, ixN_5_0, ixN_5_1, ixN_5_2, ixN_5_3, ixN_5_4, ixN_5_m1, ixN_6_0, ixN_6_1, ixN_6_2, ixN_6_3, ixN_6_4, ixN_6_5, ixN_6_m1, ixN_7_0, ixN_7_1, ixN_7_2, ixN_7_3, ixN_7_4, ixN_7_5, ixN_7_6, ixN_7_m1, ixN_8_0, ixN_8_1, ixN_8_2, ixN_8_3, ixN_8_4, ixN_8_5, ixN_8_6, ixN_8_7, ixN_8_m1, ixN_9_0, ixN_9_1, ixN_9_2, ixN_9_3, ixN_9_4, ixN_9_5, ixN_9_6, ixN_9_7, ixN_9_8, ixN_9_m1, ixN_10_0, ixN_10_1, ixN_10_2, ixN_10_3, ixN_10_4, ixN_10_5, ixN_10_6, ixN_10_7, ixN_10_8, ixN_10_9, ixN_10_m1, ixN_11_0, ixN_11_1, ixN_11_2, ixN_11_3, ixN_11_4, ixN_11_5, ixN_11_6, ixN_11_7, ixN_11_8, ixN_11_9, ixN_11_10, ixN_11_m1, ixN_12_0, ixN_12_1, ixN_12_2, ixN_12_3, ixN_12_4, ixN_12_5, ixN_12_6, ixN_12_7, ixN_12_8, ixN_12_9, ixN_12_10, ixN_12_11, ixN_12_m1, ixN_13_0, ixN_13_1, ixN_13_2, ixN_13_3, ixN_13_4, ixN_13_5, ixN_13_6, ixN_13_7, ixN_13_8, ixN_13_9, ixN_13_10, ixN_13_11, ixN_13_12, ixN_13_m1, ixN_14_0, ixN_14_1, ixN_14_2, ixN_14_3, ixN_14_4, ixN_14_5, ixN_14_6, ixN_14_7, ixN_14_8, ixN_14_9, ixN_14_10, ixN_14_11, ixN_14_12, ixN_14_13, ixN_14_m1, ixN_15_0, ixN_15_1, ixN_15_2, ixN_15_3, ixN_15_4, ixN_15_5, ixN_15_6, ixN_15_7, ixN_15_8, ixN_15_9, ixN_15_10, ixN_15_11, ixN_15_12, ixN_15_13, ixN_15_14, ixN_15_m1, ix_l0, ix_t0, ix_l1, ix_t1, ix_l2, ix_t2, ix_l3, ix_t3, ix_l4, ix_t4, ix_l5, ix_t5, ix_l6, ix_t6, ix_l7, ix_t7, ix_l8, ix_t8, ix_l9, ix_t9, ix_l10, ix_t10, ix_l11, ix_t11, ix_l12, ix_t12, ix_l13, ix_t13, ev_for, ev_iSeq, ev_mkI, ev_iter_l, ev_iter_t, ev_iter_s, ev_turn_nx, ev_turn_ct, ev_turn_bk, ev_turn_rt, ev_turn_ex, ev_loop0, ev_forR, ev_enum, ev_enumI, ev_zip, ev_wipe0, ev_wipe1, ev_un0, ev_un1, ev_unO_f, ev_unO_n, ev_comp, ev_lc0, ev_lcR0, ev_turnC, ev_tcR, ev_yes, ev_tryAs, ev_tryS_ex, ev_tryS_nx, ev_tryS_rt, ev_tryR, ev_gone_nx, ev_gone_rt, ev_nest, ev_isE, ev_sl, ev_part0, ev_part1, ev_partR, ev_sl_t, ev_sl_l, ev_cast0, ev_cast1, ev_cast2, ev_cast3, ev_cast4, ev_cast5, ev_cast6, ev_cast7, ev_cast8, ev_cast9, ev_cast10, ev_cast11, ev_cast12, ev_cast13, ev_cast14, ev_cast15, ev_cast16, ev_cast17, ev_cast18, ev_cast19, ev_cast20, ev_isi_tt, ev_isi_ti, ev_is_t, ev_isnot_t, ev_isnot_n, ev_zip_tt, ev_zip_ll, op_eqs, op_nes, ev_aug, ev_augR, ev_augS, ev_try, ev_tryT_ex, ev_tryT_nx, ev_tryT_rt, ev_tryT_bk, ev_tryT_ct, ev_tryU, ev_tryU0, ev_cold_nx, ev_cold_rt, back_eq, wipe_eq, unwipe_eq, List.getElem?_cons_zero, List.getElem?_cons_succ, List.set_cons_zero, List.set_cons_succ, Bool.and_true, Bool.true_and, Bool.or_true, Bool.true_or, Bool.or_false, Bool.false_or, Bool.and_false, Bool.false_and, Bool.not_true, Bool.not_false, List.length_cons, List.length_nil, List.map_cons, List.map_nil, List.replicate_succ, List.replicate_zero, List.cons_append, List.nil_append, if_true, if_false, Nat.reduceAdd, Nat.reduceEqDiff, beq_self_eq_true, reduceIte, Nat.zero_add, eq_self, SZ, List.contains_cons, List.contains_nil, Nat.reduceBEq, Nat.reduceLT, Nat.reduceLeDiff, Int.reduceToNat, Int.reducePow, Int.reduceAdd, Int.reduceSub, Int.reduceMul, Int.reduceNeg, Int.reduceLT, Int.reduceLE, Int.reduceEq, Int.reduceDiv, Int.reduceMod, Option.map_some, Option.map_none, cut1, rg1_eq, rb1_ok, rg2_eq, rb2_ok, bk_d0, bk_d1, bk_d2, bk_d3, bk_d4, bk_i0, bk_i1, bk_i2, bk_i3, e1, e2, e3, e4, e5, e6, u7, u8, u9]
theorem right_law {l : Runs} (hg : Line l) (a b c n : Int) (s : Src a b c n) (hn : n < 9000) :
    ∃ a' c' : Int, F_law_right [.io [.int a, .int b, .int c], .fz (.tup (l.map runD))] = .ret (.fz (.bl true)) [some (.io [.int a', .int b, .int c']), none] ∧ Src a' b c' (n + 60) := by
  have hlen := hg.len
  have e1 := repr_line (l := l) (fun r hr => by have := hg.bd r hr; omega) (by omega)
  obtain ⟨a1, c1, y4, y5, y6, y7, y8, y9, y10, y11, y12, e2, s1, k7, k8, k9⟩ := right_side hg true (loopF (gNm 3) L_law_right_4 [.str (sideS false)]) a b c n s (by omega) (some (.fz (.str (D.tup (l.map runD)).py.shown))) none none none none none none none none none none (.inl rfl) (.inl rfl) (.inl rfl)
  obtain ⟨a2, c2, w4, w5, w6, w7, w8, w9, w10, w11, w12, e3, s2, _⟩ := right_side hg false (loopF (gNm 3) L_law_right_4 []) a1 b c1 (n + 30) s1 (by omega) (some (.fz (.str (D.tup (l.map runD)).py.shown))) (some (.fz (.str (sideS true)))) y4 y5 y6 y7 y8 y9 y10 y11 y12 k7 k8 k9
  have e4 : loopF (gNm 3) L_law_right_4 [.str (sideS true), .str (sideS false)] [some (.io [.int a, .int b, .int c]), some (.fz (.tup (l.map runD))), some (.fz (.str (D.tup (l.map runD)).py.shown)), none, none, none, none, none, none, none, none, none, none] = .nx [some (.io [.int a2, .int b, .int c2]), some (.fz (.tup (l.map runD))), some (.fz (.str (D.tup (l.map runD)).py.shown)), some (.fz (.str (sideS false))), w4, w5, w6, w7, w8, w9, w10, w11, w12] := by
    rw [loop_cons, e2, loop_cons, e3]
    rfl
  refine ⟨a2, c2, ?_, s2.up (by omega)⟩
  have it := it_LR
  unfold F_law_right B_law_right
  revert e1 e4 it
  generalize L_law_right_4 = f1
  generalize (D.tup (l.map runD)).py.shown = rp
  generalize D.tup (l.map runD) = ld
  generalize sideS true = st
  generalize sideS false = sf
  intro e1 e4 it
  simp (maxSteps := 20000000) (disch := (first | assumption | omega | (simp only [List.length_cons, List.length_nil, List.length_append, List.length_map, SZ]; done) | (simp only [List.length_cons, List.length_nil, List.length_append, List.length_map, SZ]; omega))) only [ev_seq, ev_seq_nx, ev_seq_rt, ev_seq_ex, ev_seq_bk, ev_seq_ct, ev_nil, ev_pass, ev_break, ev_cont, ev_retN, ev_ret, ev_drop, ev_set, ev_raise, ev_if, ev_par, ev_par3, ev_toS_ok, ev_toS_ex, ev_toS_no, ev_bind_ok, ev_bind_ex, ev_bind_no, ev_it, ev_if_f, ev_C, ev_var, ev_var1, ev_var2, ev_mov, ev_mov1, ev_mov2, ev_okV_e, ev_okV_v, ev_okO, ev_run_e, ev_run_v, ev_get_d, ev_get_i, ev_getO, ev_d_fz, ev_d_ow, ev_d_io, ev_op2, ev_get2, ev_g2, ev_op1, ev_get1, ev_g1, ev_mk, ev_mk0, ev_opN, ev_all_nil, ev_all_cons, ev_runO_nil, ev_runO_cons, ev_getN, ev_gN, ev_getL_nil, ev_getL_cons, ev_gL, ev_runE_nil, ev_runE_cons, ev_tup, ev_lst, ev_mIf, ev_and, ev_or, ev_not, ev_blR, ev_toT, ev_blT, ev_okI, ev_okB, ev_tru, ev_mkT, ev_obind, ev_tru_bl, ev_andT, ev_orT, ev_notT, ev_chain, ev_chR, ev_fn, ev_of_nx, ev_of_rt, ev_of_ex, ev_outs0, ev_outs1, ev_ioE_n, ev_ioE_f, ev_ioE_o, ev_ioE_i, ev_call, ev_callK, ev_callR, ev_args_nil, ev_args_cons, ev_argC, ev_arg_d, ev_arg_i, ev_argO_f, ev_argO_o, ev_argO_i, ev_apart_nil, ev_apart_d, ev_apart_i, ev_any_nil, ev_any_cons, ev_at_d, ev_at_i, ev_ofF_ret, ev_ofF_exc, ev_back0, ev_back1, ev_b1n, ev_b1f, ev_b1o, ev_b1i, ev_bkO0, ev_bkO1, ev_bkI0, ev_bkI1, ev_look0, ev_look_d, ev_look_i, ev_join, ev_head, ev_tail, ev_call1, ev_go_o, ev_go_f, ev_of1_r, ev_of1_e, op_add_i, op_sub_i, op_iadd_i, op_mul_i, op_fdiv_i, op_mod_i, op_pow8_i, op_powL_i, op_lt_i, op_le_i, op_gt_i, op_ge_i, op_neg_i, op_eq_i, op_ne_i, op_eq_s, op_ne_s, op_is_n, op_len_l, op_len_t, op_len_s, op_abs_i, op_max_i, op_min_i, op_int_i, op_int_b, op_divmod_i, op_tup_l, op_tup_t, op_list_l, op_list_t, op_rev_l, op_rev_t, op_own_o, op_own_i, op_setix, op_setR, op_stN, op_as_o, op_as_i, op_isS, op_mut, op_mutR, op_mutS, op_asg_seq, op_asg_seql, op_asg_cons, op_asg_nil, op_asg_nm, op_asg, op_asgR, ixN_1_0, ixN_1_m1, ixN_2_0, ixN_2_1, ixN_2_m1, ixN_3_0, ixN_3_1, ixN_3_2, ixN_3_m1, ixN_4_0, ixN_4_1, ixN_4_2, ixN_4_3, ixN_4_m1, ixN_5_0, ixN_5_1, ixN_5_2, ixN_5_3, ixN_5_4, ixN_5_m1, ixN_6_0, ixN_6_1, ixN_6_2, ixN_6_3, ixN_6_4, ixN_6_5, ixN_6_m1, ixN_7_0, ixN_7_1, ixN_7_2, ixN_7_3, ixN_7_4, ixN_7_5, ixN_7_6, ixN_7_m1, ixN_8_0, ixN_8_1, ixN_8_2, ixN_8_3, ixN_8_4, ixN_8_5, ixN_8_6, ixN_8_7, ixN_8_m1, ixN_9_0, ixN_9_1, ixN_9_2, ixN_9_3, ixN_9_4, ixN_9_5, ixN_9_6, ixN_9_7, ixN_9_8, ixN_9_m1, ixN_10_0, ixN_10_1, ixN_10_2, ixN_10_3, ixN_10_4, ixN_10_5, ixN_10_6, ixN_10_7, ixN_10_8, ixN_10_9, ixN_10_m1, ixN_11_0, ixN_11_1, ixN_11_2, ixN_11_3, ixN_11_4, ixN_11_5, ixN_11_6, ixN_11_7, ixN_11_8, ixN_11_9, ixN_11_10, ixN_11_m1, ixN_12_0, ixN_12_1, ixN_12_2, ixN_12_3, ixN_12_4, ixN_12_5, ixN_12_6, ixN_12_7, ixN_12_8, ixN_12_9, ixN_12_10, ixN_12_11, ixN_12_m1, ixN_13_0, ixN_13_1, ixN_13_2, ixN_13_3, ixN_13_4, ixN_13_5, ixN_13_6, ixN_13_7, ixN_13_8, ixN_13_9, ixN_13_10, ixN_13_11, ixN_13_12, ixN_13_m1, ixN_14_0, ixN_14_1, ixN_14_2, ixN_14_3, ixN_14_4, ixN_14_5, ixN_14_6, ixN_14_7, ixN_14_8, ixN_14_9, ixN_14_10, ixN_14_11, ixN_14_12, ixN_14_13, ixN_14_m1, ixN_15_0, ixN_15_1, ixN_15_2, ixN_15_3, ixN_15_4, ixN_15_5, ixN_15_6, ixN_15_7, ixN_15_8, ixN_15_9, ixN_15_10, ixN_15_11, ixN_15_12, ixN_15_13, ixN_15_14, ixN_15_m1, ix_l0, ix_t0, ix_l1, ix_t1, ix_l2, ix_t2, ix_l3, ix_t3, ix_l4, ix_t4, ix_l5, ix_t5, ix_l6, ix_t6, ix_l7, ix_t7, ix_l8, ix_t8, ix_l9, ix_t9, ix_l10, ix_t10, ix_l11, ix_t11, ix_l12, ix_t12, ix_l13, ix_t13, ev_for, ev_iSeq, ev_mkI, ev_iter_l, ev_iter_t, ev_iter_s, ev_turn_nx, ev_turn_ct, ev_turn_bk, ev_turn_rt, ev_turn_ex, ev_loop0, ev_forR, ev_enum, ev_enumI, ev_zip, ev_wipe0, ev_wipe1, ev_un0, ev_un1, ev_unO_f, ev_unO_n, ev_comp, ev_lc0, ev_lcR0, ev_turnC, ev_tcR, ev_yes, ev_tryAs, ev_tryS_ex, ev_tryS_nx, ev_tryS_rt, ev_tryR, ev_gone_nx, ev_gone_rt, ev_nest, ev_isE, ev_sl, ev_part0, ev_part1, ev_partR, ev_sl_t, ev_sl_l, ev_cast0, ev_cast1, ev_cast2, ev_cast3, ev_cast4, ev_cast5, ev_cast6, ev_cast7, ev_cast8, ev_cast9, ev_cast10, ev_cast11, ev_cast12, ev_cast13, ev_cast14, ev_cast15, ev_cast16, ev_cast17, ev_cast18, ev_cast19, ev_cast20, ev_isi_tt, ev_isi_ti, ev_is_t, ev_isnot_t, ev_isnot_n, ev_zip_tt, ev_zip_ll, op_eqs, op_nes, ev_aug, ev_augR, ev_augS, ev_try, ev_tryT_ex, ev_tryT_nx, ev_tryT_rt, ev_tryT_bk, ev_tryT_ct, ev_tryU, ev_tryU0, ev_cold_nx, ev_cold_rt, back_eq, wipe_eq, unwipe_eq, List.getElem?_cons_zero, List.getElem?_cons_succ, List.set_cons_zero, List.set_cons_succ, Bool.and_true, Bool.true_and, Bool.or_true, Bool.true_or, Bool.or_false, Bool.false_or, Bool.and_false, Bool.false_and, Bool.not_true, Bool.not_false, List.length_cons, List.length_nil, List.map_cons, List.map_nil, List.replicate_succ, List.replicate_zero, List.cons_append, List.nil_append, if_true, if_false, Nat.reduceAdd, Nat.reduceEqDiff, beq_self_eq_true, reduceIte, Nat.zero_add, eq_self, SZ, List.contains_cons, List.contains_nil, Nat.reduceBEq, Nat.reduceLT, Nat.reduceLeDiff, Int.reduceToNat, Int.reducePow, Int.reduceAdd, Int.reduceSub, Int.reduceMul, Int.reduceNeg, Int.reduceLT, Int.reduceLE, Int.reduceEq, Int.reduceDiv, Int.reduceMod, Option.map_some, Option.map_none, cut1, rg1_eq, rb1_ok, rg2_eq, rb2_ok, bk_d0, bk_d1, bk_d2, bk_d3, bk_d4, bk_i0, bk_i1, bk_i2, bk_i3, e1, it, e4, decide_true]
/-! ### small lines -/
theorem pl_loop (s : List Bool) (hs : s ≠ []) (hs2 : s.length < 800) (q : Bool) (x0 x1 x3 x5 x6 x8 : Option Sl) : ∀ (n k : Nat) (acc : List D), acc.length + n < 1000 →
    loopC (turnC (gNm 7) tYesE E_law_small_right_0 [7]) (rangeL (k : Nat) n) [x0, x1, some (.fz (.tup ((pk s).map runD))), x3, some (.fz (.str (sideS q))), x5, x6, none, x8] acc = .ok (acc ++ (List.range' k n).map fun i => optD ((spQ q 0 s)[i]?)) [x0, x1, some (.fz (.tup ((pk s).map runD))), x3, some (.fz (.str (sideS q))), x5, x6, none, x8]
  | 0, k, acc, _ => by
    show loopC _ [] _ _ = .ok (acc ++ []) _
    rw [List.append_nil]
    rfl
  | n + 1, k, acc, h => by
    have hg := pk_good s
    have ha := pk_amt s
    have hlen := (amt_nn hg.ps).2
    have e1 := place_of_ok hg (pk_ne hs) (by omega) q (i := (k : Nat)) (by omega)
    rw [pk_pos] at e1
    have ek : (k : Int) + 1 = ((k + 1 : Nat) : Int) := by omega
    have ih := pl_loop s hs hs2 q x0 x1 x3 x5 x6 x8 n (k + 1) (acc ++ [optD ((spQ q 0 s)[k]?)]) (by rw [List.length_append, List.length_cons, List.length_nil]; omega)
    have e7 : turnC (gNm 7) tYesE E_law_small_right_0 [7] (.int (k : Nat)) [x0, x1, some (.fz (.tup ((pk s).map runD))), x3, some (.fz (.str (sideS q))), x5, x6, none, x8] = .ok (some (optD ((spQ q 0 s)[k]?))) [x0, x1, some (.fz (.tup ((pk s).map runD))), x3, some (.fz (.str (sideS q))), x5, x6, none, x8] := by
      unfold E_law_small_right_0
      revert e1
      generalize Fplace_of = f1
      generalize optD ((spQ q 0 s)[k]?) = od
      generalize D.tup ((pk s).map runD) = ld
      generalize sideS q = sq
      intro e1
      simp (maxSteps := 20000000) (disch := (first | assumption | omega | (simp only [List.length_cons, List.length_nil, List.length_append, List.length_map, SZ]; done) | (simp only [List.length_cons, List.length_nil, List.length_append, List.length_map, SZ]; omega))) only [ev_seq, ev_seq_nx, ev_seq_rt, ev_seq_ex, ev_seq_bk, ev_seq_ct, ev_nil, ev_pass, ev_break, ev_cont, ev_retN, ev_ret, ev_drop, ev_set, ev_raise, ev_if, ev_par, ev_par3, ev_toS_ok, ev_toS_ex, ev_toS_no, ev_bind_ok, ev_bind_ex, ev_bind_no, ev_it, ev_if_f, ev_C, ev_var, ev_var1, ev_var2, ev_mov, ev_mov1, ev_mov2, ev_okV_e, ev_okV_v, ev_okO, ev_run_e, ev_run_v, ev_get_d, ev_get_i, ev_getO, ev_d_fz, ev_d_ow, ev_d_io, ev_op2, ev_get2, ev_g2, ev_op1, ev_get1, ev_g1, ev_mk, ev_mk0, ev_opN, ev_all_nil, ev_all_cons, ev_runO_nil, ev_runO_cons, ev_getN, ev_gN, ev_getL_nil, ev_getL_cons, ev_gL, ev_runE_nil, ev_runE_cons, ev_tup, ev_lst, ev_mIf, ev_and, ev_or, ev_not, ev_blR, ev_toT, ev_blT, ev_okI, ev_okB, ev_tru, ev_mkT, ev_obind, ev_tru_bl, ev_andT, ev_orT, ev_notT, ev_chain, ev_chR, ev_fn, ev_of_nx, ev_of_rt, ev_of_ex, ev_outs0, ev_outs1, ev_ioE_n, ev_ioE_f, ev_ioE_o, ev_ioE_i, ev_call, ev_callK, ev_callR, ev_args_nil, ev_args_cons, ev_argC, ev_arg_d, ev_arg_i, ev_argO_f, ev_argO_o, ev_argO_i, ev_apart_nil, ev_apart_d, ev_apart_i, ev_any_nil, ev_any_cons, ev_at_d, ev_at_i, ev_ofF_ret, ev_ofF_exc, ev_back0, ev_back1, ev_b1n, ev_b1f, ev_b1o, ev_b1i, ev_bkO0, ev_bkO1, ev_bkI0, ev_bkI1, ev_look0, ev_look_d, ev_look_i, ev_join, ev_head, ev_tail, ev_call1, ev_go_o, ev_go_f, ev_of1_r, ev_of1_e, op_add_i, op_sub_i, op_iadd_i, op_mul_i, op_fdiv_i, op_mod_i, op_pow8_i, op_powL_i, op_lt_i, op_le_i, op_gt_i, op_ge_i, op_neg_i, op_eq_i, op_ne_i, op_eq_s, op_ne_s, op_is_n, op_len_l, op_len_t, op_len_s, op_abs_i, op_max_i, op_min_i, op_int_i, op_int_b, op_divmod_i, op_tup_l, op_tup_t, op_list_l, op_list_t, op_rev_l, op_rev_t, op_own_o, op_own_i, op_setix, op_setR, op_stN, op_as_o, op_as_i, op_isS, op_mut, op_mutR, op_mutS, op_asg_seq, op_asg_seql, op_asg_cons, op_asg_nil, op_asg_nm, op_asg, op_asgR, ixN_1_0, ixN_1_m1, ixN_2_0, ixN_2_1, ixN_2_m1, ixN_3_0, ixN_3_1, ixN_3_2, ixN_3_m1, ixN_4_0, ixN_4_1, ixN_4_2, ixN_4_3, ixN_4_m1, ixN_5_0, ixN_5_1, ixN_5_2, ixN_5_3, ixN_5_4, ixN_5_m1, ixN_6_0, ixN_6_1, ixN_6_2, ixN_6_3, ixN_6_4, ixN_6_5, ixN_6_m1, ixN_7_0, ixN_7_1, ixN_7_2, ixN_7_3, ixN_7_4, ixN_7_5, ixN_7_6, ixN_7_m1, ixN_8_0, ixN_8_1, ixN_8_2, ixN_8_3, ixN_8_4, ixN_8_5, ixN_8_6, ixN_8_7, ixN_8_m1, ixN_9_0, ixN_9_1, ixN_9_2, ixN_9_3, ixN_9_4, ixN_9_5, ixN_9_6, ixN_9_7, ixN_9_8, ixN_9_m1, ixN_10_0, ixN_10_1, ixN_10_2, ixN_10_3, ixN_10_4, ixN_10_5, ixN_10_6, ixN_10_7, ixN_10_8, ixN_10_9, ixN_10_m1, ixN_11_0, ixN_11_1, ixN_11_2, ixN_11_3, ixN_11_4, ixN_11_5, ixN_11_6, ixN_11_7, ixN_11_8, ixN_11_9, ixN_11_10, ixN_11_m1, ixN_12_0, ixN_12_1, ixN_12_2, ixN_12_3, ixN_12_4, ixN_12_5, ixN_12_6, ixN_12_7, ixN_12_8, ixN_12_9, ixN_12_10, ixN_12_11, ixN_12_m1, ixN_13_0, ixN_13_1, ixN_13_2, ixN_13_3, ixN_13_4, ixN_13_5, ixN_13_6, ixN_13_7, ixN_13_8, ixN_13_9, ixN_13_10, ixN_13_11, ixN_13_12, ixN_13_m1, ixN_14_0, ixN_14_1, ixN_14_2, ixN_14_3, ixN_14_4, ixN_14_5, ixN_14_6, ixN_14_7, ixN_14_8, ixN_14_9, ixN_14_10, ixN_14_11, ixN_14_12, ixN_14_13, ixN_14_m1, ixN_15_0, ixN_15_1, ixN_15_2, ixN_15_3, ixN_15_4, ixN_15_5, ixN_15_6, ixN_15_7, ixN_15_8, ixN_15_9, ixN_15_10, ixN_15_11, ixN_15_12, ixN_15_13, ixN_15_14, ixN_15_m1, ix_l0, ix_t0, ix_l1, ix_t1, ix_l2, ix_t2, ix_l3, ix_t3, ix_l4, ix_t4, ix_l5, ix_t5, ix_l6, ix_t6, ix_l7, ix_t7, ix_l8, ix_t8, ix_l9, ix_t9, ix_l10, ix_t10, ix_l11, ix_t11, ix_l12, ix_t12, ix_l13, ix_t13, ev_for, ev_iSeq, ev_mkI, ev_iter_l, ev_iter_t, ev_iter_s, ev_turn_nx, ev_turn_ct, ev_turn_bk, ev_turn_rt, ev_turn_ex, ev_loop0, ev_forR, ev_enum, ev_enumI, ev_zip, ev_wipe0, ev_wipe1, ev_un0, ev_un1, ev_unO_f, ev_unO_n, ev_comp, ev_lc0, ev_lcR0, ev_turnC, ev_tcR, ev_yes, ev_tryAs, ev_tryS_ex, ev_tryS_nx, ev_tryS_rt, ev_tryR, ev_gone_nx, ev_gone_rt, ev_nest, ev_isE, ev_sl, ev_part0, ev_part1, ev_partR, ev_sl_t, ev_sl_l, ev_cast0, ev_cast1, ev_cast2, ev_cast3, ev_cast4, ev_cast5, ev_cast6, ev_cast7, ev_cast8, ev_cast9, ev_cast10, ev_cast11, ev_cast12, ev_cast13, ev_cast14, ev_cast15, ev_cast16, ev_cast17, ev_cast18, ev_cast19, ev_cast20, ev_isi_tt, ev_isi_ti, ev_is_t, ev_isnot_t, ev_isnot_n, ev_zip_tt, ev_zip_ll, op_eqs, op_nes, ev_aug, ev_augR, ev_augS, ev_try, ev_tryT_ex, ev_tryT_nx, ev_tryT_rt, ev_tryT_bk, ev_tryT_ct, ev_tryU, ev_tryU0, ev_cold_nx, ev_cold_rt, back_eq, wipe_eq, unwipe_eq, List.getElem?_cons_zero, List.getElem?_cons_succ, List.set_cons_zero, List.set_cons_succ, Bool.and_true, Bool.true_and, Bool.or_true, Bool.true_or, Bool.or_false, Bool.false_or, Bool.and_false, Bool.false_and, Bool.not_true, Bool.not_false, List.length_cons, List.length_nil, List.map_cons, List.map_nil, List.replicate_succ, List.replicate_zero, List.cons_append, List.nil_append, if_true, if_false, Nat.reduceAdd, Nat.reduceEqDiff, beq_self_eq_true, reduceIte, Nat.zero_add, eq_self, SZ, List.contains_cons, List.contains_nil, Nat.reduceBEq, Nat.reduceLT, Nat.reduceLeDiff, Int.reduceToNat, Int.reducePow, Int.reduceAdd, Int.reduceSub, Int.reduceMul, Int.reduceNeg, Int.reduceLT, Int.reduceLE, Int.reduceEq, Int.reduceDiv, Int.reduceMod, Option.map_some, Option.map_none, cut1, rg1_eq, rb1_ok, rg2_eq, rb2_ok, bk_d0, bk_d1, bk_d2, bk_d3, bk_d4, bk_i0, bk_i1, bk_i2, bk_i3, e1]
    rw [rangeL_succ, lc_cons, e7, ev_lcR1 (by unfold SZ; omega), ek, ih, List.append_assoc, List.range'_succ, List.map_cons]
    rfl
theorem spq_loop (s : List Bool) (q : Bool) (x0 x2 x3 x5 x6 x7 : Option Sl) : ∀ (t : List Bool) (k : Nat) (acc : List D), s.drop k = t → acc.length + t.length < 1000 →
    loopC (turnC (gNm 8) (toT (mOp2 eqD (.e (mOp2 ixD (.v 1) (.v 8))) (.v 4))) E_law_small_right_1 [8]) (rangeL (k : Nat) t.length) [x0, some (.fz (.lst (s.map sdD))), x2, x3, some (.fz (.str (sideS q))), x5, x6, x7, none] acc = .ok (acc ++ (spQ q k t).map .int) [x0, some (.fz (.lst (s.map sdD))), x2, x3, some (.fz (.str (sideS q))), x5, x6, x7, none]
  | [], k, acc, _, _ => by
    show loopC _ [] _ _ = .ok (acc ++ []) _
    rw [List.append_nil]
    rfl
  | p :: t, k, acc, h, hl => by
    rw [List.length_cons] at hl
    obtain ⟨h1, h2, h3⟩ := drop_step h
    have e1 := ix_sds h1
    have e2 : eqD (sdD p) (.str (sideS q)) = some (.fz (.bl (p == q))) := side_qq p q
    have ek : (k : Int) + 1 = ((k + 1 : Nat) : Int) := by omega
    rw [List.length_cons, rangeL_succ, lc_cons, ek]
    by_cases hp : p = q
    · have e3 : (p == q) = true := by simpa using hp
      rw [e3] at e2
      have es : spQ q k (p :: t) = ((k : Int) + 1) :: spQ q (k + 1) t := if_pos hp
      have ih := spq_loop s q x0 x2 x3 x5 x6 x7 t (k + 1) (acc ++ [.int ((k : Int) + 1)]) h2 (by rw [List.length_append, List.length_cons, List.length_nil]; omega)
      have e7 : turnC (gNm 8) (toT (mOp2 eqD (.e (mOp2 ixD (.v 1) (.v 8))) (.v 4))) E_law_small_right_1 [8] (.int (k : Nat)) [x0, some (.fz (.lst (s.map sdD))), x2, x3, some (.fz (.str (sideS q))), x5, x6, x7, none] = .ok (some (.int ((k : Int) + 1))) [x0, some (.fz (.lst (s.map sdD))), x2, x3, some (.fz (.str (sideS q))), x5, x6, x7, none] := by
        unfold E_law_small_right_1
        revert e1 e2
        generalize s.map sdD = sd
        generalize sdD p = sp
        generalize sideS q = sq
        intro e1 e2
        simp (maxSteps := 20000000) (disch := (first | assumption | omega | (simp only [List.length_cons, List.length_nil, List.length_append, List.length_map, SZ]; done) | (simp only [List.length_cons, List.length_nil, List.length_append, List.length_map, SZ]; omega))) only [ev_seq, ev_seq_nx, ev_seq_rt, ev_seq_ex, ev_seq_bk, ev_seq_ct, ev_nil, ev_pass, ev_break, ev_cont, ev_retN, ev_ret, ev_drop, ev_set, ev_raise, ev_if, ev_par, ev_par3, ev_toS_ok, ev_toS_ex, ev_toS_no, ev_bind_ok, ev_bind_ex, ev_bind_no, ev_it, ev_if_f, ev_C, ev_var, ev_var1, ev_var2, ev_mov, ev_mov1, ev_mov2, ev_okV_e, ev_okV_v, ev_okO, ev_run_e, ev_run_v, ev_get_d, ev_get_i, ev_getO, ev_d_fz, ev_d_ow, ev_d_io, ev_op2, ev_get2, ev_g2, ev_op1, ev_get1, ev_g1, ev_mk, ev_mk0, ev_opN, ev_all_nil, ev_all_cons, ev_runO_nil, ev_runO_cons, ev_getN, ev_gN, ev_getL_nil, ev_getL_cons, ev_gL, ev_runE_nil, ev_runE_cons, ev_tup, ev_lst, ev_mIf, ev_and, ev_or, ev_not, ev_blR, ev_toT, ev_blT, ev_okI, ev_okB, ev_tru, ev_mkT, ev_obind, ev_tru_bl, ev_andT, ev_orT, ev_notT, ev_chain, ev_chR, ev_fn, ev_of_nx, ev_of_rt, ev_of_ex, ev_outs0, ev_outs1, ev_ioE_n, ev_ioE_f, ev_ioE_o, ev_ioE_i, ev_call, ev_callK, ev_callR, ev_args_nil, ev_args_cons, ev_argC, ev_arg_d, ev_arg_i, ev_argO_f, ev_argO_o, ev_argO_i, ev_apart_nil, ev_apart_d, ev_apart_i, ev_any_nil, ev_any_cons, ev_at_d, ev_at_i, ev_ofF_ret, ev_ofF_exc, ev_back0, ev_back1, ev_b1n, ev_b1f, ev_b1o, ev_b1i, ev_bkO0, ev_bkO1, ev_bkI0, ev_bkI1, ev_look0, ev_look_d, ev_look_i, ev_join, ev_head, ev_tail, ev_call1, ev_go_o, ev_go_f, ev_of1_r, ev_of1_e, op_add_i, op_sub_i, op_iadd_i, op_mul_i, op_fdiv_i, op_mod_i, op_pow8_i, op_powL_i, op_lt_i, op_le_i, op_gt_i, op_ge_i, op_neg_i, op_eq_i, op_ne_i, op_eq_s, op_ne_s, op_is_n, op_len_l, op_len_t, op_len_s, op_abs_i, op_max_i, op_min_i, op_int_i, op_int_b, op_divmod_i, op_tup_l, op_tup_t, op_list_l, op_list_t, op_rev_l, op_rev_t, op_own_o, op_own_i, op_setix, op_setR, op_stN, op_as_o, op_as_i, op_isS, op_mut, op_mutR, op_mutS, op_asg_seq, op_asg_seql, op_asg_cons, op_asg_nil, op_asg_nm, op_asg, op_asgR, ixN_1_0, ixN_1_m1, ixN_2_0, ixN_2_1, ixN_2_m1, ixN_3_0, ixN_3_1, ixN_3_2, ixN_3_m1, ixN_4_0, ixN_4_1, ixN_4_2, ixN_4_3, ixN_4_m1, ixN_5_0, ixN_5_1, ixN_5_2, ixN_5_3, ixN_5_4, ixN_5_m1, ixN_6_0, ixN_6_1, ixN_6_2, ixN_6_3, ixN_6_4, ixN_6_5, ixN_6_m1, ixN_7_0, ixN_7_1, ixN_7_2, ixN_7_3, ixN_7_4, ixN_7_5, ixN_7_6, ixN_7_m1, ixN_8_0, ixN_8_1, ixN_8_2, ixN_8_3, ixN_8_4, ixN_8_5, ixN_8_6, ixN_8_7, ixN_8_m1, ixN_9_0, ixN_9_1, ixN_9_2, ixN_9_3, ixN_9_4, ixN_9_5, ixN_9_6, ixN_9_7, ixN_9_8, ixN_9_m1, ixN_10_0, ixN_10_1, ixN_10_2, ixN_10_3, ixN_10_4, ixN_10_5, ixN_10_6, ixN_10_7, ixN_10_8, ixN_10_9, ixN_10_m1, ixN_11_0, ixN_11_1, ixN_11_2, ixN_11_3, ixN_11_4, ixN_11_5, ixN_11_6, ixN_11_7, ixN_11_8, ixN_11_9, ixN_11_10, ixN_11_m1, ixN_12_0, ixN_12_1, ixN_12_2, ixN_12_3, ixN_12_4, ixN_12_5, ixN_12_6, ixN_12_7, ixN_12_8, ixN_12_9, ixN_12_10, ixN_12_11, ixN_12_m1, ixN_13_0, ixN_13_1, ixN_13_2, ixN_13_3, ixN_13_4, ixN_13_5, ixN_13_6, ixN_13_7, ixN_13_8, ixN_13_9, ixN_13_10, ixN_13_11, ixN_13_12, ixN_13_m1, ixN_14_0, ixN_14_1, ixN_14_2, ixN_14_3, ixN_14_4, ixN_14_5, ixN_14_6, ixN_14_7, ixN_14_8, ixN_14_9, ixN_14_10, ixN_14_11, ixN_14_12, ixN_14_13, ixN_14_m1, ixN_15_0, ixN_15_1, ixN_15_2, ixN_15_3, ixN_15_4, ixN_15_5, ixN_15_6, ixN_15_7, ixN_15_8, ixN_15_9, ixN_15_10, ixN_15_11, ixN_15_12, ixN_15_13, ixN_15_14, ixN_15_m1, ix_l0, ix_t0, ix_l1, ix_t1, ix_l2, ix_t2, ix_l3, ix_t3, ix_l4, ix_t4, ix_l5, ix_t5, ix_l6, ix_t6, ix_l7, ix_t7, ix_l8, ix_t8, ix_l9, ix_t9, ix_l10, ix_t10, ix_l11, ix_t11, ix_l12, ix_t12, ix_l13, ix_t13, ev_for, ev_iSeq, ev_mkI, ev_iter_l, ev_iter_t, ev_iter_s, ev_turn_nx, ev_turn_ct, ev_turn_bk, ev_turn_rt, ev_turn_ex, ev_loop0, ev_forR, ev_enum, ev_enumI, ev_zip, ev_wipe0, ev_wipe1, ev_un0, ev_un1, ev_unO_f, ev_unO_n, ev_comp, ev_lc0, ev_lcR0, ev_turnC, ev_tcR, ev_yes, ev_tryAs, ev_tryS_ex, ev_tryS_nx, ev_tryS_rt, ev_tryR, ev_gone_nx, ev_gone_rt, ev_nest, ev_isE, ev_sl, ev_part0, ev_part1, ev_partR, ev_sl_t, ev_sl_l, ev_cast0, ev_cast1, ev_cast2, ev_cast3, ev_cast4, ev_cast5, ev_cast6, ev_cast7, ev_cast8, ev_cast9, ev_cast10, ev_cast11, ev_cast12, ev_cast13, ev_cast14, ev_cast15, ev_cast16, ev_cast17, ev_cast18, ev_cast19, ev_cast20, ev_isi_tt, ev_isi_ti, ev_is_t, ev_isnot_t, ev_isnot_n, ev_zip_tt, ev_zip_ll, op_eqs, op_nes, ev_aug, ev_augR, ev_augS, ev_try, ev_tryT_ex, ev_tryT_nx, ev_tryT_rt, ev_tryT_bk, ev_tryT_ct, ev_tryU, ev_tryU0, ev_cold_nx, ev_cold_rt, back_eq, wipe_eq, unwipe_eq, List.getElem?_cons_zero, List.getElem?_cons_succ, List.set_cons_zero, List.set_cons_succ, Bool.and_true, Bool.true_and, Bool.or_true, Bool.true_or, Bool.or_false, Bool.false_or, Bool.and_false, Bool.false_and, Bool.not_true, Bool.not_false, List.length_cons, List.length_nil, List.map_cons, List.map_nil, List.replicate_succ, List.replicate_zero, List.cons_append, List.nil_append, if_true, if_false, Nat.reduceAdd, Nat.reduceEqDiff, beq_self_eq_true, reduceIte, Nat.zero_add, eq_self, SZ, List.contains_cons, List.contains_nil, Nat.reduceBEq, Nat.reduceLT, Nat.reduceLeDiff, Int.reduceToNat, Int.reducePow, Int.reduceAdd, Int.reduceSub, Int.reduceMul, Int.reduceNeg, Int.reduceLT, Int.reduceLE, Int.reduceEq, Int.reduceDiv, Int.reduceMod, Option.map_some, Option.map_none, cut1, rg1_eq, rb1_ok, rg2_eq, rb2_ok, bk_d0, bk_d1, bk_d2, bk_d3, bk_d4, bk_i0, bk_i1, bk_i2, bk_i3, e1, e2]
      rw [e7, ev_lcR1 (by unfold SZ; omega), ih, es, List.append_assoc]
      rfl
    · have e3 : (p == q) = false := by simpa using hp
      rw [e3] at e2
      have es : spQ q k (p :: t) = spQ q (k + 1) t := if_neg hp
      have ih := spq_loop s q x0 x2 x3 x5 x6 x7 t (k + 1) acc h2 (by omega)
      have e7 : turnC (gNm 8) (toT (mOp2 eqD (.e (mOp2 ixD (.v 1) (.v 8))) (.v 4))) E_law_small_right_1 [8] (.int (k : Nat)) [x0, some (.fz (.lst (s.map sdD))), x2, x3, some (.fz (.str (sideS q))), x5, x6, x7, none] = .ok none [x0, some (.fz (.lst (s.map sdD))), x2, x3, some (.fz (.str (sideS q))), x5, x6, x7, none] := by
        unfold E_law_small_right_1
        revert e1 e2
        generalize s.map sdD = sd
        generalize sdD p = sp
        generalize sideS q = sq
        intro e1 e2
        simp (maxSteps := 20000000) (disch := (first | assumption | omega | (simp only [List.length_cons, List.length_nil, List.length_append, List.length_map, SZ]; done) | (simp only [List.length_cons, List.length_nil, List.length_append, List.length_map, SZ]; omega))) only [ev_seq, ev_seq_nx, ev_seq_rt, ev_seq_ex, ev_seq_bk, ev_seq_ct, ev_nil, ev_pass, ev_break, ev_cont, ev_retN, ev_ret, ev_drop, ev_set, ev_raise, ev_if, ev_par, ev_par3, ev_toS_ok, ev_toS_ex, ev_toS_no, ev_bind_ok, ev_bind_ex, ev_bind_no, ev_it, ev_if_f, ev_C, ev_var, ev_var1, ev_var2, ev_mov, ev_mov1, ev_mov2, ev_okV_e, ev_okV_v, ev_okO, ev_run_e, ev_run_v, ev_get_d, ev_get_i, ev_getO, ev_d_fz, ev_d_ow, ev_d_io, ev_op2, ev_get2, ev_g2, ev_op1, ev_get1, ev_g1, ev_mk, ev_mk0, ev_opN, ev_all_nil, ev_all_cons, ev_runO_nil, ev_runO_cons, ev_getN, ev_gN, ev_getL_nil, ev_getL_cons, ev_gL, ev_runE_nil, ev_runE_cons, ev_tup, ev_lst, ev_mIf, ev_and, ev_or, ev_not, ev_blR, ev_toT, ev_blT, ev_okI, ev_okB, ev_tru, ev_mkT, ev_obind, ev_tru_bl, ev_andT, ev_orT, ev_notT, ev_chain, ev_chR, ev_fn, ev_of_nx, ev_of_rt, ev_of_ex, ev_outs0, ev_outs1, ev_ioE_n, ev_ioE_f, ev_ioE_o, ev_ioE_i, ev_call, ev_callK, ev_callR, ev_args_nil, ev_args_cons, ev_argC, ev_arg_d, ev_arg_i, ev_argO_f, ev_argO_o, ev_argO_i, ev_apart_nil, ev_apart_d, ev_apart_i, ev_any_nil, ev_any_cons, ev_at_d, ev_at_i, ev_ofF_ret, ev_ofF_exc, ev_back0, ev_back1, ev_b1n, ev_b1f, ev_b1o, ev_b1i, ev_bkO0, ev_bkO1, ev_bkI0, ev_bkI1, ev_look0, ev_look_d, ev_look_i, ev_join, ev_head, ev_tail, ev_call1, ev_go_o, ev_go_f, ev_of1_r, ev_of1_e, op_add_i, op_sub_i, op_iadd_i, op_mul_i, op_fdiv_i, op_mod_i, op_pow8_i, op_powL_i, op_lt_i, op_le_i, op_gt_i, op_ge_i, op_neg_i, op_eq_i, op_ne_i, op_eq_s, op_ne_s, op_is_n, op_len_l, op_len_t, op_len_s, op_abs_i, op_max_i, op_min_i, op_int_i, op_int_b, op_divmod_i, op_tup_l, op_tup_t, op_list_l, op_list_t, op_rev_l, op_rev_t, op_own_o, op_own_i, op_setix, op_setR, op_stN, op_as_o, op_as_i, op_isS, op_mut, op_mutR, op_mutS, op_asg_seq, op_asg_seql, op_asg_cons, op_asg_nil, op_asg_nm, op_asg, op_asgR, ixN_1_0, ixN_1_m1, ixN_2_0, ixN_2_1, ixN_2_m1, ixN_3_0, ixN_3_1, ixN_3_2, ixN_3_m1, ixN_4_0, ixN_4_1, ixN_4_2, ixN_4_3, ixN_4_m1, ixN_5_0, ixN_5_1, ixN_5_2, ixN_5_3, ixN_5_4, ixN_5_m1, ixN_6_0, ixN_6_1, ixN_6_2, ixN_6_3, ixN_6_4, ixN_6_5, ixN_6_m1, ixN_7_0, ixN_7_1, ixN_7_2, ixN_7_3, ixN_7_4, ixN_7_5, ixN_7_6, ixN_7_m1, ixN_8_0, ixN_8_1, ixN_8_2, ixN_8_3, ixN_8_4, ixN_8_5, ixN_8_6, ixN_8_7, ixN_8_m1, ixN_9_0, ixN_9_1, ixN_9_2, ixN_9_3, ixN_9_4, ixN_9_5, ixN_9_6, ixN_9_7, ixN_9_8, ixN_9_m1, ixN_10_0, ixN_10_1, ixN_10_2, ixN_10_3, ixN_10_4, ixN_10_5, ixN_10_6, ixN_10_7, ixN_10_8, ixN_10_9, ixN_10_m1, ixN_11_0, ixN_11_1, ixN_11_2, ixN_11_3, ixN_11_4, ixN_11_5, ixN_11_6, ixN_11_7, ixN_11_8, ixN_11_9, ixN_11_10, ixN_11_m1, ixN_12_0, ixN_12_1, ixN_12_2, ixN_12_3, ixN_12_4, ixN_12_5, ixN_12_6, ixN_12_7, ixN_12_8, ixN_12_9, ixN_12_10, ixN_12_11, ixN_12_m1, ixN_13_0, ixN_13_1, ixN_13_2, ixN_13_3, ixN_13_4, ixN_13_5, ixN_13_6, ixN_13_7, ixN_13_8, ixN_13_9, ixN_13_10, ixN_13_11, ixN_13_12, ixN_13_m1, ixN_14_0, ixN_14_1, ixN_14_2, ixN_14_3, ixN_14_4, ixN_14_5, ixN_14_6, ixN_14_7, ixN_14_8, ixN_14_9, ixN_14_10, ixN_14_11, ixN_14_12, ixN_14_13, ixN_14_m1, ixN_15_0, ixN_15_1, ixN_15_2, ixN_15_3, ixN_15_4, ixN_15_5, ixN_15_6, ixN_15_7, ixN_15_8, ixN_15_9, ixN_15_10, ixN_15_11, ixN_15_12, ixN_15_13, ixN_15_14, ixN_15_m1, ix_l0, ix_t0, ix_l1, ix_t1, ix_l2, ix_t2, ix_l3, ix_t3, ix_l4, ix_t4, ix_l5, ix_t5, ix_l6, ix_t6, ix_l7, ix_t7, ix_l8, ix_t8, ix_l9, ix_t9, ix_l10, ix_t10, ix_l11, ix_t11, ix_l12, ix_t12, ix_l13, ix_t13, ev_for, ev_iSeq, ev_mkI, ev_iter_l, ev_iter_t, ev_iter_s, ev_turn_nx, ev_turn_ct, ev_turn_bk, ev_turn_rt, ev_turn_ex, ev_loop0, ev_forR, ev_enum, ev_enumI, ev_zip, ev_wipe0, ev_wipe1, ev_un0, ev_un1, ev_unO_f, ev_unO_n, ev_comp, ev_lc0, ev_lcR0, ev_turnC, ev_tcR, ev_yes, ev_tryAs, ev_tryS_ex, ev_tryS_nx, ev_tryS_rt, ev_tryR, ev_gone_nx, ev_gone_rt, ev_nest, ev_isE, ev_sl, ev_part0, ev_part1, ev_partR, ev_sl_t, ev_sl_l, ev_cast0, ev_cast1, ev_cast2, ev_cast3, ev_cast4, ev_cast5, ev_cast6, ev_cast7, ev_cast8, ev_cast9, ev_cast10, ev_cast11, ev_cast12, ev_cast13, ev_cast14, ev_cast15, ev_cast16, ev_cast17, ev_cast18, ev_cast19, ev_cast20, ev_isi_tt, ev_isi_ti, ev_is_t, ev_isnot_t, ev_isnot_n, ev_zip_tt, ev_zip_ll, op_eqs, op_nes, ev_aug, ev_augR, ev_augS, ev_try, ev_tryT_ex, ev_tryT_nx, ev_tryT_rt, ev_tryT_bk, ev_tryT_ct, ev_tryU, ev_tryU0, ev_cold_nx, ev_cold_rt, back_eq, wipe_eq, unwipe_eq, List.getElem?_cons_zero, List.getElem?_cons_succ, List.set_cons_zero, List.set_cons_succ, Bool.and_true, Bool.true_and, Bool.or_true, Bool.true_or, Bool.or_false, Bool.false_or, Bool.and_false, Bool.false_and, Bool.not_true, Bool.not_false, List.length_cons, List.length_nil, List.map_cons, List.map_nil, List.replicate_succ, List.replicate_zero, List.cons_append, List.nil_append, if_true, if_false, Nat.reduceAdd, Nat.reduceEqDiff, beq_self_eq_true, reduceIte, Nat.zero_add, eq_self, SZ, List.contains_cons, List.contains_nil, Nat.reduceBEq, Nat.reduceLT, Nat.reduceLeDiff, Int.reduceToNat, Int.reducePow, Int.reduceAdd, Int.reduceSub, Int.reduceMul, Int.reduceNeg, Int.reduceLT, Int.reduceLE, Int.reduceEq, Int.reduceDiv, Int.reduceMod, Option.map_some, Option.map_none, cut1, rg1_eq, rb1_ok, rg2_eq, rb2_ok, bk_d0, bk_d1, bk_d2, bk_d3, bk_d4, bk_i0, bk_i1, bk_i2, bk_i3, e1, e2]
      rw [e7, ev_lcR0, ih, es]
theorem get_all : ∀ (l : List Int), (List.range' 0 (l.length + 2)).map (fun i => l[i]?) = l.map some ++ [none, none] := by
  intro l
  apply List.ext_getElem?
  intro i
  rw [List.getElem?_map, List.getElem?_append, List.length_map]
  by_cases h : i < l.length
  · rw [if_pos h, List.getElem?_range' (by omega), List.getElem?_map, List.getElem?_eq_getElem h]
    simp [List.getElem?_eq_getElem h]
  · rw [if_neg h]
    by_cases h2 : i < l.length + 2
    · rw [List.getElem?_range' h2]
      have h3 : l[i]? = none := List.getElem?_eq_none (by omega)
      rcases (show i = l.length ∨ i = l.length + 1 by omega) with rfl | rfl
      · simp
      · simp
    · rw [List.getElem?_eq_none (by rw [List.length_range']; omega)]
      rw [List.getElem?_eq_none (by simp; omega)]
      rfl
theorem all_D (l : List Int) : ((List.range' 0 (l.length + 2)).map fun i => optD (l[i]?)) = l.map D.int ++ [.non, .non] := by
  have h := congrArg (List.map optD) (get_all l)
  rw [List.map_map, List.map_append, List.map_map] at h
  exact h
theorem cut_front (A B : List D) : cutG (A ++ B) none (some (A.length : Nat)) = A := by
  have e : HT.sIx (A ++ B).length (A ++ B).length (some ((A.length : Nat) : Int)) = A.length := by
    rw [HT.sIx_nat, List.length_append]
    omega
  unfold cutG
  rw [e]
  show List.take (A.length - 0) (List.drop 0 (A ++ B)) = A
  simp
theorem ch_seq (A B : Sm) (s : Option Sl) (l r : Mi.Env) (r' : SR) (h1 : A (s :: l) = .nx r) (h2 : B r = r') : sSeq A B (s :: l) = r' := by
  rw [ev_seq, h1, ev_seq_nx, h2]
theorem ch_end (A : Sm) (s : Option Sl) (l r : Mi.Env) (t : Option Sl) (h1 : A (s :: l) = .nx (t :: r)) : sSeq A sNil (s :: l) = .nx (t :: r) := by
  rw [ev_seq, h1, ev_seq_nx, ev_nil]
theorem ch_for (L : Sm) (kk : Mi.Env → SR) (d : D) (x0 x1 x2 x3 x4 x5 x6 x7 x8 : Option Sl) (r : Mi.Env) (e : L [x0, x1, x2, x3, some (.fz d), x5, x6, x7, x8] = .nx r) : forR L kk (gNm 4 d [x0, x1, x2, x3, x4, x5, x6, x7, x8]) = kk r := by
  simp (maxSteps := 20000000) (disch := (first | assumption | omega | (simp only [List.length_cons, List.length_nil, List.length_append, List.length_map, SZ]; done) | (simp only [List.length_cons, List.length_nil, List.length_append, List.length_map, SZ]; omega))) only [ev_seq, ev_seq_nx, ev_seq_rt, ev_seq_ex, ev_seq_bk, ev_seq_ct, ev_nil, ev_pass, ev_break, ev_cont, ev_retN, ev_ret, ev_drop, ev_set, ev_raise, ev_if, ev_par, ev_par3, ev_toS_ok, ev_toS_ex, ev_toS_no, ev_bind_ok, ev_bind_ex, ev_bind_no, ev_it, ev_if_f, ev_C, ev_var, ev_var1, ev_var2, ev_mov, ev_mov1, ev_mov2, ev_okV_e, ev_okV_v, ev_okO, ev_run_e, ev_run_v, ev_get_d, ev_get_i, ev_getO, ev_d_fz, ev_d_ow, ev_d_io, ev_op2, ev_get2, ev_g2, ev_op1, ev_get1, ev_g1, ev_mk, ev_mk0, ev_opN, ev_all_nil, ev_all_cons, ev_runO_nil, ev_runO_cons, ev_getN, ev_gN, ev_getL_nil, ev_getL_cons, ev_gL, ev_runE_nil, ev_runE_cons, ev_tup, ev_lst, ev_mIf, ev_and, ev_or, ev_not, ev_blR, ev_toT, ev_blT, ev_okI, ev_okB, ev_tru, ev_mkT, ev_obind, ev_tru_bl, ev_andT, ev_orT, ev_notT, ev_chain, ev_chR, ev_fn, ev_of_nx, ev_of_rt, ev_of_ex, ev_outs0, ev_outs1, ev_ioE_n, ev_ioE_f, ev_ioE_o, ev_ioE_i, ev_call, ev_callK, ev_callR, ev_args_nil, ev_args_cons, ev_argC, ev_arg_d, ev_arg_i, ev_argO_f, ev_argO_o, ev_argO_i, ev_apart_nil, ev_apart_d, ev_apart_i, ev_any_nil, ev_any_cons, ev_at_d, ev_at_i, ev_ofF_ret, ev_ofF_exc, ev_back0, ev_back1, ev_b1n, ev_b1f, ev_b1o, ev_b1i, ev_bkO0, ev_bkO1, ev_bkI0, ev_bkI1, ev_look0, ev_look_d, ev_look_i, ev_join, ev_head, ev_tail, ev_call1, ev_go_o, ev_go_f, ev_of1_r, ev_of1_e, op_add_i, op_sub_i, op_iadd_i, op_mul_i, op_fdiv_i, op_mod_i, op_pow8_i, op_powL_i, op_lt_i, op_le_i, op_gt_i, op_ge_i, op_neg_i, op_eq_i, op_ne_i, op_eq_s, op_ne_s, op_is_n, op_len_l, op_len_t, op_len_s, op_abs_i, op_max_i, op_min_i, op_int_i, op_int_b, op_divmod_i, op_tup_l, op_tup_t, op_list_l, op_list_t, op_rev_l, op_rev_t, op_own_o, op_own_i, op_setix, op_setR, op_stN, op_as_o, op_as_i, op_isS, op_mut, op_mutR, op_mutS, op_asg_seq, op_asg_seql, op_asg_cons, op_asg_nil, op_asg_nm, op_asg, op_asgR, ixN_1_0, ixN_1_m1, ixN_2_0, ixN_2_1, ixN_2_m1, ixN_3_0, ixN_3_1, ixN_3_2, ixN_3_m1, ixN_4_0, ixN_4_1, ixN_4_2, ixN_4_3, ixN_4_m1, ixN_5_0, ixN_5_1, ixN_5_2, ixN_5_3, ixN_5_4, ixN_5_m1, ixN_6_0, ixN_6_1, ixN_6_2, ixN_6_3, ixN_6_4, ixN_6_5, ixN_6_m1, ixN_7_0, ixN_7_1, ixN_7_2, ixN_7_3, ixN_7_4, ixN_7_5, ixN_7_6, ixN_7_m1, ixN_8_0, ixN_8_1, ixN_8_2, ixN_8_3, ixN_8_4, ixN_8_5, ixN_8_6, ixN_8_7, ixN_8_m1, ixN_9_0, ixN_9_1, ixN_9_2, ixN_9_3, ixN_9_4, ixN_9_5, ixN_9_6, ixN_9_7, ixN_9_8, ixN_9_m1, ixN_10_0, ixN_10_1, ixN_10_2, ixN_10_3, ixN_10_4, ixN_10_5, ixN_10_6, ixN_10_7, ixN_10_8, ixN_10_9, ixN_10_m1, ixN_11_0, ixN_11_1, ixN_11_2, ixN_11_3, ixN_11_4, ixN_11_5, ixN_11_6, ixN_11_7, ixN_11_8, ixN_11_9, ixN_11_10, ixN_11_m1, ixN_12_0, ixN_12_1, ixN_12_2, ixN_12_3, ixN_12_4, ixN_12_5, ixN_12_6, ixN_12_7, ixN_12_8, ixN_12_9, ixN_12_10, ixN_12_11, ixN_12_m1, ixN_13_0, ixN_13_1, ixN_13_2, ixN_13_3, ixN_13_4, ixN_13_5, ixN_13_6, ixN_13_7, ixN_13_8, ixN_13_9, ixN_13_10, ixN_13_11, ixN_13_12, ixN_13_m1, ixN_14_0, ixN_14_1, ixN_14_2, ixN_14_3, ixN_14_4, ixN_14_5, ixN_14_6, ixN_14_7, ixN_14_8, ixN_14_9, ixN_14_10, ixN_14_11, ixN_14_12, ixN_14_13, ixN_14_m1, ixN_15_0, ixN_15_1, ixN_15_2, ixN_15_3, ixN_15_4, ixN_15_5, ixN_15_6, ixN_15_7, ixN_15_8, ixN_15_9, ixN_15_10, ixN_15_11, ixN_15_12, ixN_15_13, ixN_15_14, ixN_15_m1, ix_l0, ix_t0, ix_l1, ix_t1, ix_l2, ix_t2, ix_l3, ix_t3, ix_l4, ix_t4, ix_l5, ix_t5, ix_l6, ix_t6, ix_l7, ix_t7, ix_l8, ix_t8, ix_l9, ix_t9, ix_l10, ix_t10, ix_l11, ix_t11, ix_l12, ix_t12, ix_l13, ix_t13, ev_for, ev_iSeq, ev_mkI, ev_iter_l, ev_iter_t, ev_iter_s, ev_turn_nx, ev_turn_ct, ev_turn_bk, ev_turn_rt, ev_turn_ex, ev_loop0, ev_forR, ev_enum, ev_enumI, ev_zip, ev_wipe0, ev_wipe1, ev_un0, ev_un1, ev_unO_f, ev_unO_n, ev_comp, ev_lc0, ev_lcR0, ev_turnC, ev_tcR, ev_yes, ev_tryAs, ev_tryS_ex, ev_tryS_nx, ev_tryS_rt, ev_tryR, ev_gone_nx, ev_gone_rt, ev_nest, ev_isE, ev_sl, ev_part0, ev_part1, ev_partR, ev_sl_t, ev_sl_l, ev_cast0, ev_cast1, ev_cast2, ev_cast3, ev_cast4, ev_cast5, ev_cast6, ev_cast7, ev_cast8, ev_cast9, ev_cast10, ev_cast11, ev_cast12, ev_cast13, ev_cast14, ev_cast15, ev_cast16, ev_cast17, ev_cast18, ev_cast19, ev_cast20, ev_isi_tt, ev_isi_ti, ev_is_t, ev_isnot_t, ev_isnot_n, ev_zip_tt, ev_zip_ll, op_eqs, op_nes, ev_aug, ev_augR, ev_augS, ev_try, ev_tryT_ex, ev_tryT_nx, ev_tryT_rt, ev_tryT_bk, ev_tryT_ct, ev_tryU, ev_tryU0, ev_cold_nx, ev_cold_rt, back_eq, wipe_eq, unwipe_eq, List.getElem?_cons_zero, List.getElem?_cons_succ, List.set_cons_zero, List.set_cons_succ, Bool.and_true, Bool.true_and, Bool.or_true, Bool.true_or, Bool.or_false, Bool.false_or, Bool.and_false, Bool.false_and, Bool.not_true, Bool.not_false, List.length_cons, List.length_nil, List.map_cons, List.map_nil, List.replicate_succ, List.replicate_zero, List.cons_append, List.nil_append, if_true, if_false, Nat.reduceAdd, Nat.reduceEqDiff, beq_self_eq_true, reduceIte, Nat.zero_add, eq_self, SZ, List.contains_cons, List.contains_nil, Nat.reduceBEq, Nat.reduceLT, Nat.reduceLeDiff, Int.reduceToNat, Int.reducePow, Int.reduceAdd, Int.reduceSub, Int.reduceMul, Int.reduceNeg, Int.reduceLT, Int.reduceLE, Int.reduceEq, Int.reduceDiv, Int.reduceMod, Option.map_some, Option.map_none, cut1, rg1_eq, rb1_ok, rg2_eq, rb2_ok, bk_d0, bk_d1, bk_d2, bk_d3, bk_d4, bk_i0, bk_i1, bk_i2, bk_i3, e]
theorem ss_1 (sd : List D) (z : Str) (n : Int) (x0 x2 x3 x5 x6 : Option Sl) (e : cntD (.lst sd) (.str z) = some (.fz (.int n))) :
    (sSet 5 (mCnt (.v 1) (mVar 4))) [x0, some (.fz (.lst sd)), x2, x3, some (.fz (.str z)), x5, x6, none, none] = .nx [x0, some (.fz (.lst sd)), x2, x3, some (.fz (.str z)), some (.fz (.int n)), x6, none, none] := by
  simp (maxSteps := 20000000) (disch := (first | assumption | omega | (simp only [List.length_cons, List.length_nil, List.length_append, List.length_map, SZ]; done) | (simp only [List.length_cons, List.length_nil, List.length_append, List.length_map, SZ]; omega))) only [ev_seq, ev_seq_nx, ev_seq_rt, ev_seq_ex, ev_seq_bk, ev_seq_ct, ev_nil, ev_pass, ev_break, ev_cont, ev_retN, ev_ret, ev_drop, ev_set, ev_raise, ev_if, ev_par, ev_par3, ev_toS_ok, ev_toS_ex, ev_toS_no, ev_bind_ok, ev_bind_ex, ev_bind_no, ev_it, ev_if_f, ev_C, ev_var, ev_var1, ev_var2, ev_mov, ev_mov1, ev_mov2, ev_okV_e, ev_okV_v, ev_okO, ev_run_e, ev_run_v, ev_get_d, ev_get_i, ev_getO, ev_d_fz, ev_d_ow, ev_d_io, ev_op2, ev_get2, ev_g2, ev_op1, ev_get1, ev_g1, ev_mk, ev_mk0, ev_opN, ev_all_nil, ev_all_cons, ev_runO_nil, ev_runO_cons, ev_getN, ev_gN, ev_getL_nil, ev_getL_cons, ev_gL, ev_runE_nil, ev_runE_cons, ev_tup, ev_lst, ev_mIf, ev_and, ev_or, ev_not, ev_blR, ev_toT, ev_blT, ev_okI, ev_okB, ev_tru, ev_mkT, ev_obind, ev_tru_bl, ev_andT, ev_orT, ev_notT, ev_chain, ev_chR, ev_fn, ev_of_nx, ev_of_rt, ev_of_ex, ev_outs0, ev_outs1, ev_ioE_n, ev_ioE_f, ev_ioE_o, ev_ioE_i, ev_call, ev_callK, ev_callR, ev_args_nil, ev_args_cons, ev_argC, ev_arg_d, ev_arg_i, ev_argO_f, ev_argO_o, ev_argO_i, ev_apart_nil, ev_apart_d, ev_apart_i, ev_any_nil, ev_any_cons, ev_at_d, ev_at_i, ev_ofF_ret, ev_ofF_exc, ev_back0, ev_back1, ev_b1n, ev_b1f, ev_b1o, ev_b1i, ev_bkO0, ev_bkO1, ev_bkI0, ev_bkI1, ev_look0, ev_look_d, ev_look_i, ev_join, ev_head, ev_tail, ev_call1, ev_go_o, ev_go_f, ev_of1_r, ev_of1_e, op_add_i, op_sub_i, op_iadd_i, op_mul_i, op_fdiv_i, op_mod_i, op_pow8_i, op_powL_i, op_lt_i, op_le_i, op_gt_i, op_ge_i, op_neg_i, op_eq_i, op_ne_i, op_eq_s, op_ne_s, op_is_n, op_len_l, op_len_t, op_len_s, op_abs_i, op_max_i, op_min_i, op_int_i, op_int_b, op_divmod_i, op_tup_l, op_tup_t, op_list_l, op_list_t, op_rev_l, op_rev_t, op_own_o, op_own_i, op_setix, op_setR, op_stN, op_as_o, op_as_i, op_isS, op_mut, op_mutR, op_mutS, op_asg_seq, op_asg_seql, op_asg_cons, op_asg_nil, op_asg_nm, op_asg, op_asgR, ixN_1_0, ixN_1_m1, ixN_2_0, ixN_2_1, ixN_2_m1, ixN_3_0, ixN_3_1, ixN_3_2, ixN_3_m1, ixN_4_0, ixN_4_1, ixN_4_2, ixN_4_3, ixN_4_m1, ixN_5_0, ixN_5_1, ixN_5_2, ixN_5_3, ixN_5_4, ixN_5_m1, ixN_6_0, ixN_6_1, ixN_6_2, ixN_6_3, ixN_6_4, ixN_6_5, ixN_6_m1, ixN_7_0, ixN_7_1, ixN_7_2, ixN_7_3, ixN_7_4, ixN_7_5, ixN_7_6, ixN_7_m1, ixN_8_0, ixN_8_1, ixN_8_2, ixN_8_3, ixN_8_4, ixN_8_5, ixN_8_6, ixN_8_7, ixN_8_m1, ixN_9_0, ixN_9_1, ixN_9_2, ixN_9_3, ixN_9_4, ixN_9_5, ixN_9_6, ixN_9_7, ixN_9_8, ixN_9_m1, ixN_10_0, ixN_10_1, ixN_10_2, ixN_10_3, ixN_10_4, ixN_10_5, ixN_10_6, ixN_10_7, ixN_10_8, ixN_10_9, ixN_10_m1, ixN_11_0, ixN_11_1, ixN_11_2, ixN_11_3, ixN_11_4, ixN_11_5, ixN_11_6, ixN_11_7, ixN_11_8, ixN_11_9, ixN_11_10, ixN_11_m1, ixN_12_0, ixN_12_1, ixN_12_2, ixN_12_3, ixN_12_4, ixN_12_5, ixN_12_6, ixN_12_7, ixN_12_8, ixN_12_9, ixN_12_10, ixN_12_11, ixN_12_m1, ixN_13_0, ixN_13_1, ixN_13_2, ixN_13_3, ixN_13_4, ixN_13_5, ixN_13_6, ixN_13_7, ixN_13_8, ixN_13_9, ixN_13_10, ixN_13_11, ixN_13_12, ixN_13_m1, ixN_14_0, ixN_14_1, ixN_14_2, ixN_14_3, ixN_14_4, ixN_14_5, ixN_14_6, ixN_14_7, ixN_14_8, ixN_14_9, ixN_14_10, ixN_14_11, ixN_14_12, ixN_14_13, ixN_14_m1, ixN_15_0, ixN_15_1, ixN_15_2, ixN_15_3, ixN_15_4, ixN_15_5, ixN_15_6, ixN_15_7, ixN_15_8, ixN_15_9, ixN_15_10, ixN_15_11, ixN_15_12, ixN_15_13, ixN_15_14, ixN_15_m1, ix_l0, ix_t0, ix_l1, ix_t1, ix_l2, ix_t2, ix_l3, ix_t3, ix_l4, ix_t4, ix_l5, ix_t5, ix_l6, ix_t6, ix_l7, ix_t7, ix_l8, ix_t8, ix_l9, ix_t9, ix_l10, ix_t10, ix_l11, ix_t11, ix_l12, ix_t12, ix_l13, ix_t13, ev_for, ev_iSeq, ev_mkI, ev_iter_l, ev_iter_t, ev_iter_s, ev_turn_nx, ev_turn_ct, ev_turn_bk, ev_turn_rt, ev_turn_ex, ev_loop0, ev_forR, ev_enum, ev_enumI, ev_zip, ev_wipe0, ev_wipe1, ev_un0, ev_un1, ev_unO_f, ev_unO_n, ev_comp, ev_lc0, ev_lcR0, ev_turnC, ev_tcR, ev_yes, ev_tryAs, ev_tryS_ex, ev_tryS_nx, ev_tryS_rt, ev_tryR, ev_gone_nx, ev_gone_rt, ev_nest, ev_isE, ev_sl, ev_part0, ev_part1, ev_partR, ev_sl_t, ev_sl_l, ev_cast0, ev_cast1, ev_cast2, ev_cast3, ev_cast4, ev_cast5, ev_cast6, ev_cast7, ev_cast8, ev_cast9, ev_cast10, ev_cast11, ev_cast12, ev_cast13, ev_cast14, ev_cast15, ev_cast16, ev_cast17, ev_cast18, ev_cast19, ev_cast20, ev_isi_tt, ev_isi_ti, ev_is_t, ev_isnot_t, ev_isnot_n, ev_zip_tt, ev_zip_ll, op_eqs, op_nes, ev_aug, ev_augR, ev_augS, ev_try, ev_tryT_ex, ev_tryT_nx, ev_tryT_rt, ev_tryT_bk, ev_tryT_ct, ev_tryU, ev_tryU0, ev_cold_nx, ev_cold_rt, back_eq, wipe_eq, unwipe_eq, List.getElem?_cons_zero, List.getElem?_cons_succ, List.set_cons_zero, List.set_cons_succ, Bool.and_true, Bool.true_and, Bool.or_true, Bool.true_or, Bool.or_false, Bool.false_or, Bool.and_false, Bool.false_and, Bool.not_true, Bool.not_false, List.length_cons, List.length_nil, List.map_cons, List.map_nil, List.replicate_succ, List.replicate_zero, List.cons_append, List.nil_append, if_true, if_false, Nat.reduceAdd, Nat.reduceEqDiff, beq_self_eq_true, reduceIte, Nat.zero_add, eq_self, SZ, List.contains_cons, List.contains_nil, Nat.reduceBEq, Nat.reduceLT, Nat.reduceLeDiff, Int.reduceToNat, Int.reducePow, Int.reduceAdd, Int.reduceSub, Int.reduceMul, Int.reduceNeg, Int.reduceLT, Int.reduceLE, Int.reduceEq, Int.reduceDiv, Int.reduceMod, Option.map_some, Option.map_none, cut1, rg1_eq, rb1_ok, rg2_eq, rb2_ok, bk_d0, bk_d1, bk_d2, bk_d3, bk_d4, bk_i0, bk_i1, bk_i2, bk_i3, ev_cnt, ev_isL, e]
theorem rg_1 (n : Nat) (hn : n ≤ 1000) (x0 x1 x2 x3 x4 x6 x7 x8 : Option Sl) : iRange1 (mOp2 addD (.v 5) (.e (mC (.int 2)))) [x0, x1, x2, x3, x4, some (.fz (.int (n : Nat))), x6, x7, x8] = .ok (rangeL 0 (n + 2)) [x0, x1, x2, x3, x4, some (.fz (.int (n : Nat))), x6, x7, x8] := by
  have e : ((n : Int) + 2).toNat = n + 2 := by omega
  simp (maxSteps := 20000000) (disch := (first | assumption | omega | (simp only [List.length_cons, List.length_nil, List.length_append, List.length_map, SZ]; done) | (simp only [List.length_cons, List.length_nil, List.length_append, List.length_map, SZ]; omega))) only [ev_seq, ev_seq_nx, ev_seq_rt, ev_seq_ex, ev_seq_bk, ev_seq_ct, ev_nil, ev_pass, ev_break, ev_cont, ev_retN, ev_ret, ev_drop, ev_set, ev_raise, ev_if, ev_par, ev_par3, ev_toS_ok, ev_toS_ex, ev_toS_no, ev_bind_ok, ev_bind_ex, ev_bind_no, ev_it, ev_if_f, ev_C, ev_var, ev_var1, ev_var2, ev_mov, ev_mov1, ev_mov2, ev_okV_e, ev_okV_v, ev_okO, ev_run_e, ev_run_v, ev_get_d, ev_get_i, ev_getO, ev_d_fz, ev_d_ow, ev_d_io, ev_op2, ev_get2, ev_g2, ev_op1, ev_get1, ev_g1, ev_mk, ev_mk0, ev_opN, ev_all_nil, ev_all_cons, ev_runO_nil, ev_runO_cons, ev_getN, ev_gN, ev_getL_nil, ev_getL_cons, ev_gL, ev_runE_nil, ev_runE_cons, ev_tup, ev_lst, ev_mIf, ev_and, ev_or, ev_not, ev_blR, ev_toT, ev_blT, ev_okI, ev_okB, ev_tru, ev_mkT, ev_obind, ev_tru_bl, ev_andT, ev_orT, ev_notT, ev_chain, ev_chR, ev_fn, ev_of_nx, ev_of_rt, ev_of_ex, ev_outs0, ev_outs1, ev_ioE_n, ev_ioE_f, ev_ioE_o, ev_ioE_i, ev_call, ev_callK, ev_callR, ev_args_nil, ev_args_cons, ev_argC, ev_arg_d, ev_arg_i, ev_argO_f, ev_argO_o, ev_argO_i, ev_apart_nil, ev_apart_d, ev_apart_i, ev_any_nil, ev_any_cons, ev_at_d, ev_at_i, ev_ofF_ret, ev_ofF_exc, ev_back0, ev_back1, ev_b1n, ev_b1f, ev_b1o, ev_b1i, ev_bkO0, ev_bkO1, ev_bkI0, ev_bkI1, ev_look0, ev_look_d, ev_look_i, ev_join, ev_head, ev_tail, ev_call1, ev_go_o, ev_go_f, ev_of1_r, ev_of1_e, op_add_i, op_sub_i, op_iadd_i, op_mul_i, op_fdiv_i, op_mod_i, op_pow8_i, op_powL_i, op_lt_i, op_le_i, op_gt_i, op_ge_i, op_neg_i, op_eq_i, op_ne_i, op_eq_s, op_ne_s, op_is_n, op_len_l, op_len_t, op_len_s, op_abs_i, op_max_i, op_min_i, op_int_i, op_int_b, op_divmod_i, op_tup_l, op_tup_t, op_list_l, op_list_t, op_rev_l, op_rev_t, op_own_o, op_own_i, op_setix, op_setR, op_stN, op_as_o, op_as_i, op_isS, op_mut, op_mutR, op_mutS, op_asg_seq, op_asg_seql, op_asg_cons, op_asg_nil, op_asg_nm, op_asg, op_asgR, ixN_1_0, ixN_1_m1, ixN_2_0, ixN_2_1, ixN_2_m1, ixN_3_0, ixN_3_1, ixN_3_2, ixN_3_m1, ixN_4_0, ixN_4_1, ixN_4_2, ixN_4_3, ixN_4_m1, ixN_5_0, ixN_5_1, ixN_5_2, ixN_5_3, ixN_5_4, ixN_5_m1, ixN_6_0, ixN_6_1, ixN_6_2, ixN_6_3, ixN_6_4, ixN_6_5, ixN_6_m1, ixN_7_0, ixN_7_1, ixN_7_2, ixN_7_3, ixN_7_4, ixN_7_5, ixN_7_6, ixN_7_m1, ixN_8_0, ixN_8_1, ixN_8_2, ixN_8_3, ixN_8_4, ixN_8_5, ixN_8_6, ixN_8_7, ixN_8_m1, ixN_9_0, ixN_9_1, ixN_9_2, ixN_9_3, ixN_9_4, ixN_9_5, ixN_9_6, ixN_9_7, ixN_9_8, ixN_9_m1, ixN_10_0, ixN_10_1, ixN_10_2, ixN_10_3, ixN_10_4, ixN_10_5, ixN_10_6, ixN_10_7, ixN_10_8, ixN_10_9, ixN_10_m1, ixN_11_0, ixN_11_1, ixN_11_2, ixN_11_3, ixN_11_4, ixN_11_5, ixN_11_6, ixN_11_7, ixN_11_8, ixN_11_9, ixN_11_10, ixN_11_m1, ixN_12_0, ixN_12_1, ixN_12_2, ixN_12_3, ixN_12_4, ixN_12_5, ixN_12_6, ixN_12_7, ixN_12_8, ixN_12_9, ixN_12_10, ixN_12_11, ixN_12_m1, ixN_13_0, ixN_13_1, ixN_13_2, ixN_13_3, ixN_13_4, ixN_13_5, ixN_13_6, ixN_13_7, ixN_13_8, ixN_13_9, ixN_13_10, ixN_13_11, ixN_13_12, ixN_13_m1, ixN_14_0, ixN_14_1, ixN_14_2, ixN_14_3, ixN_14_4, ixN_14_5, ixN_14_6, ixN_14_7, ixN_14_8, ixN_14_9, ixN_14_10, ixN_14_11, ixN_14_12, ixN_14_13, ixN_14_m1, ixN_15_0, ixN_15_1, ixN_15_2, ixN_15_3, ixN_15_4, ixN_15_5, ixN_15_6, ixN_15_7, ixN_15_8, ixN_15_9, ixN_15_10, ixN_15_11, ixN_15_12, ixN_15_13, ixN_15_14, ixN_15_m1, ix_l0, ix_t0, ix_l1, ix_t1, ix_l2, ix_t2, ix_l3, ix_t3, ix_l4, ix_t4, ix_l5, ix_t5, ix_l6, ix_t6, ix_l7, ix_t7, ix_l8, ix_t8, ix_l9, ix_t9, ix_l10, ix_t10, ix_l11, ix_t11, ix_l12, ix_t12, ix_l13, ix_t13, ev_for, ev_iSeq, ev_mkI, ev_iter_l, ev_iter_t, ev_iter_s, ev_turn_nx, ev_turn_ct, ev_turn_bk, ev_turn_rt, ev_turn_ex, ev_loop0, ev_forR, ev_enum, ev_enumI, ev_zip, ev_wipe0, ev_wipe1, ev_un0, ev_un1, ev_unO_f, ev_unO_n, ev_comp, ev_lc0, ev_lcR0, ev_turnC, ev_tcR, ev_yes, ev_tryAs, ev_tryS_ex, ev_tryS_nx, ev_tryS_rt, ev_tryR, ev_gone_nx, ev_gone_rt, ev_nest, ev_isE, ev_sl, ev_part0, ev_part1, ev_partR, ev_sl_t, ev_sl_l, ev_cast0, ev_cast1, ev_cast2, ev_cast3, ev_cast4, ev_cast5, ev_cast6, ev_cast7, ev_cast8, ev_cast9, ev_cast10, ev_cast11, ev_cast12, ev_cast13, ev_cast14, ev_cast15, ev_cast16, ev_cast17, ev_cast18, ev_cast19, ev_cast20, ev_isi_tt, ev_isi_ti, ev_is_t, ev_isnot_t, ev_isnot_n, ev_zip_tt, ev_zip_ll, op_eqs, op_nes, ev_aug, ev_augR, ev_augS, ev_try, ev_tryT_ex, ev_tryT_nx, ev_tryT_rt, ev_tryT_bk, ev_tryT_ct, ev_tryU, ev_tryU0, ev_cold_nx, ev_cold_rt, back_eq, wipe_eq, unwipe_eq, List.getElem?_cons_zero, List.getElem?_cons_succ, List.set_cons_zero, List.set_cons_succ, Bool.and_true, Bool.true_and, Bool.or_true, Bool.true_or, Bool.or_false, Bool.false_or, Bool.and_false, Bool.false_and, Bool.not_true, Bool.not_false, List.length_cons, List.length_nil, List.map_cons, List.map_nil, List.replicate_succ, List.replicate_zero, List.cons_append, List.nil_append, if_true, if_false, Nat.reduceAdd, Nat.reduceEqDiff, beq_self_eq_true, reduceIte, Nat.zero_add, eq_self, SZ, List.contains_cons, List.contains_nil, Nat.reduceBEq, Nat.reduceLT, Nat.reduceLeDiff, Int.reduceToNat, Int.reducePow, Int.reduceAdd, Int.reduceSub, Int.reduceMul, Int.reduceNeg, Int.reduceLT, Int.reduceLE, Int.reduceEq, Int.reduceDiv, Int.reduceMod, Option.map_some, Option.map_none, cut1, rg1_eq, rb1_ok, rg2_eq, rb2_ok, bk_d0, bk_d1, bk_d2, bk_d3, bk_d4, bk_i0, bk_i1, bk_i2, bk_i3, e]
theorem ss_2 (f1 : Ex) (n : Nat) (hn : n ≤ 1000) (ys xd : List D) (h : rangeL 0 (n + 2) = ys) (x0 x1 x2 x3 x4 x6 : Option Sl) (e : loopC (turnC (gNm 7) tYesE f1 [7]) ys [x0, x1, x2, x3, x4, some (.fz (.int (n : Nat))), x6, none, none] [] = .ok xd [x0, x1, x2, x3, x4, some (.fz (.int (n : Nat))), x6, none, none]) :
    (sSet 6 (mComp (iRange1 (mOp2 addD (.v 5) (.e (mC (.int 2))))) (gNm 7) tYesE f1 [7])) [x0, x1, x2, x3, x4, some (.fz (.int (n : Nat))), x6, none, none] = .nx [x0, x1, x2, x3, x4, some (.fz (.int (n : Nat))), some (.ow xd), none, none] := by
  have k := rg_1 n hn x0 x1 x2 x3 x4 x6 none none
  rw [h] at k
  revert k
  generalize iRange1 (mOp2 addD (.v 5) (.e (mC (.int 2)))) = it
  intro k
  simp (maxSteps := 20000000) (disch := (first | assumption | omega | (simp only [List.length_cons, List.length_nil, List.length_append, List.length_map, SZ]; done) | (simp only [List.length_cons, List.length_nil, List.length_append, List.length_map, SZ]; omega))) only [ev_seq, ev_seq_nx, ev_seq_rt, ev_seq_ex, ev_seq_bk, ev_seq_ct, ev_nil, ev_pass, ev_break, ev_cont, ev_retN, ev_ret, ev_drop, ev_set, ev_raise, ev_if, ev_par, ev_par3, ev_toS_ok, ev_toS_ex, ev_toS_no, ev_bind_ok, ev_bind_ex, ev_bind_no, ev_it, ev_if_f, ev_C, ev_var, ev_var1, ev_var2, ev_mov, ev_mov1, ev_mov2, ev_okV_e, ev_okV_v, ev_okO, ev_run_e, ev_run_v, ev_get_d, ev_get_i, ev_getO, ev_d_fz, ev_d_ow, ev_d_io, ev_op2, ev_get2, ev_g2, ev_op1, ev_get1, ev_g1, ev_mk, ev_mk0, ev_opN, ev_all_nil, ev_all_cons, ev_runO_nil, ev_runO_cons, ev_getN, ev_gN, ev_getL_nil, ev_getL_cons, ev_gL, ev_runE_nil, ev_runE_cons, ev_tup, ev_lst, ev_mIf, ev_and, ev_or, ev_not, ev_blR, ev_toT, ev_blT, ev_okI, ev_okB, ev_tru, ev_mkT, ev_obind, ev_tru_bl, ev_andT, ev_orT, ev_notT, ev_chain, ev_chR, ev_fn, ev_of_nx, ev_of_rt, ev_of_ex, ev_outs0, ev_outs1, ev_ioE_n, ev_ioE_f, ev_ioE_o, ev_ioE_i, ev_call, ev_callK, ev_callR, ev_args_nil, ev_args_cons, ev_argC, ev_arg_d, ev_arg_i, ev_argO_f, ev_argO_o, ev_argO_i, ev_apart_nil, ev_apart_d, ev_apart_i, ev_any_nil, ev_any_cons, ev_at_d, ev_at_i, ev_ofF_ret, ev_ofF_exc, ev_back0, ev_back1, ev_b1n, ev_b1f, ev_b1o, ev_b1i, ev_bkO0, ev_bkO1, ev_bkI0, ev_bkI1, ev_look0, ev_look_d, ev_look_i, ev_join, ev_head, ev_tail, ev_call1, ev_go_o, ev_go_f, ev_of1_r, ev_of1_e, op_add_i, op_sub_i, op_iadd_i, op_mul_i, op_fdiv_i, op_mod_i, op_pow8_i, op_powL_i, op_lt_i, op_le_i, op_gt_i, op_ge_i, op_neg_i, op_eq_i, op_ne_i, op_eq_s, op_ne_s, op_is_n, op_len_l, op_len_t, op_len_s, op_abs_i, op_max_i, op_min_i, op_int_i, op_int_b, op_divmod_i, op_tup_l, op_tup_t, op_list_l, op_list_t, op_rev_l, op_rev_t, op_own_o, op_own_i, op_setix, op_setR, op_stN, op_as_o, op_as_i, op_isS, op_mut, op_mutR, op_mutS, op_asg_seq, op_asg_seql, op_asg_cons, op_asg_nil, op_asg_nm, op_asg, op_asgR, ixN_1_0, ixN_1_m1, ixN_2_0, ixN_2_1, ixN_2_m1, ixN_3_0, ixN_3_1, ixN_3_2, ixN_3_m1, ixN_4_0, ixN_4_1, ixN_4_2, ixN_4_3, ixN_4_m1, ixN_5_0, ixN_5_1, ixN_5_2, ixN_5_3, ixN_5_4, ixN_5_m1, ixN_6_0, ixN_6_1, ixN_6_2, ixN_6_3, ixN_6_4, ixN_6_5, ixN_6_m1, ixN_7_0, ixN_7_1, ixN_7_2, ixN_7_3, ixN_7_4, ixN_7_5, ixN_7_6, ixN_7_m1, ixN_8_0, ixN_8_1, ixN_8_2, ixN_8_3, ixN_8_4, ixN_8_5, ixN_8_6, ixN_8_7, ixN_8_m1, ixN_9_0, ixN_9_1, ixN_9_2, ixN_9_3, ixN_9_4, ixN_9_5, ixN_9_6, ixN_9_7, ixN_9_8, ixN_9_m1, ixN_10_0, ixN_10_1, ixN_10_2, ixN_10_3, ixN_10_4, ixN_10_5, ixN_10_6, ixN_10_7, ixN_10_8, ixN_10_9, ixN_10_m1, ixN_11_0, ixN_11_1, ixN_11_2, ixN_11_3, ixN_11_4, ixN_11_5, ixN_11_6, ixN_11_7, ixN_11_8, ixN_11_9, ixN_11_10, ixN_11_m1, ixN_12_0, ixN_12_1, ixN_12_2, ixN_12_3, ixN_12_4, ixN_12_5, ixN_12_6, ixN_12_7, ixN_12_8, ixN_12_9, ixN_12_10, ixN_12_11, ixN_12_m1, ixN_13_0, ixN_13_1, ixN_13_2, ixN_13_3, ixN_13_4, ixN_13_5, ixN_13_6, ixN_13_7, ixN_13_8, ixN_13_9, ixN_13_10, ixN_13_11, ixN_13_12, ixN_13_m1, ixN_14_0, ixN_14_1, ixN_14_2, ixN_14_3, ixN_14_4, ixN_14_5, ixN_14_6, ixN_14_7, ixN_14_8, ixN_14_9, ixN_14_10, ixN_14_11, ixN_14_12, ixN_14_13, ixN_14_m1, ixN_15_0, ixN_15_1, ixN_15_2, ixN_15_3, ixN_15_4, ixN_15_5, ixN_15_6, ixN_15_7, ixN_15_8, ixN_15_9, ixN_15_10, ixN_15_11, ixN_15_12, ixN_15_13, ixN_15_14, ixN_15_m1, ix_l0, ix_t0, ix_l1, ix_t1, ix_l2, ix_t2, ix_l3, ix_t3, ix_l4, ix_t4, ix_l5, ix_t5, ix_l6, ix_t6, ix_l7, ix_t7, ix_l8, ix_t8, ix_l9, ix_t9, ix_l10, ix_t10, ix_l11, ix_t11, ix_l12, ix_t12, ix_l13, ix_t13, ev_for, ev_iSeq, ev_mkI, ev_iter_l, ev_iter_t, ev_iter_s, ev_turn_nx, ev_turn_ct, ev_turn_bk, ev_turn_rt, ev_turn_ex, ev_loop0, ev_forR, ev_enum, ev_enumI, ev_zip, ev_wipe0, ev_wipe1, ev_un0, ev_un1, ev_unO_f, ev_unO_n, ev_comp, ev_lc0, ev_lcR0, ev_turnC, ev_tcR, ev_yes, ev_tryAs, ev_tryS_ex, ev_tryS_nx, ev_tryS_rt, ev_tryR, ev_gone_nx, ev_gone_rt, ev_nest, ev_isE, ev_sl, ev_part0, ev_part1, ev_partR, ev_sl_t, ev_sl_l, ev_cast0, ev_cast1, ev_cast2, ev_cast3, ev_cast4, ev_cast5, ev_cast6, ev_cast7, ev_cast8, ev_cast9, ev_cast10, ev_cast11, ev_cast12, ev_cast13, ev_cast14, ev_cast15, ev_cast16, ev_cast17, ev_cast18, ev_cast19, ev_cast20, ev_isi_tt, ev_isi_ti, ev_is_t, ev_isnot_t, ev_isnot_n, ev_zip_tt, ev_zip_ll, op_eqs, op_nes, ev_aug, ev_augR, ev_augS, ev_try, ev_tryT_ex, ev_tryT_nx, ev_tryT_rt, ev_tryT_bk, ev_tryT_ct, ev_tryU, ev_tryU0, ev_cold_nx, ev_cold_rt, back_eq, wipe_eq, unwipe_eq, List.getElem?_cons_zero, List.getElem?_cons_succ, List.set_cons_zero, List.set_cons_succ, Bool.and_true, Bool.true_and, Bool.or_true, Bool.true_or, Bool.or_false, Bool.false_or, Bool.and_false, Bool.false_and, Bool.not_true, Bool.not_false, List.length_cons, List.length_nil, List.map_cons, List.map_nil, List.replicate_succ, List.replicate_zero, List.cons_append, List.nil_append, if_true, if_false, Nat.reduceAdd, Nat.reduceEqDiff, beq_self_eq_true, reduceIte, Nat.zero_add, eq_self, SZ, List.contains_cons, List.contains_nil, Nat.reduceBEq, Nat.reduceLT, Nat.reduceLeDiff, Int.reduceToNat, Int.reducePow, Int.reduceAdd, Int.reduceSub, Int.reduceMul, Int.reduceNeg, Int.reduceLT, Int.reduceLE, Int.reduceEq, Int.reduceDiv, Int.reduceMod, Option.map_some, Option.map_none, cut1, rg1_eq, rb1_ok, rg2_eq, rb2_ok, bk_d0, bk_d1, bk_d2, bk_d3, bk_d4, bk_i0, bk_i1, bk_i2, bk_i3, k, e]
theorem rg_3 (sd : List D) (hn : sd.length ≤ 1000) (x0 x2 x3 x4 x5 x6 x7 x8 : Option Sl) : iRange1 (mOpN lenD [(.v 1)]) [x0, some (.fz (.lst sd)), x2, x3, x4, x5, x6, x7, x8] = .ok (rangeL 0 sd.length) [x0, some (.fz (.lst sd)), x2, x3, x4, x5, x6, x7, x8] := by
  simp (maxSteps := 20000000) (disch := (first | assumption | omega | (simp only [List.length_cons, List.length_nil, List.length_append, List.length_map, SZ]; done) | (simp only [List.length_cons, List.length_nil, List.length_append, List.length_map, SZ]; omega))) only [ev_seq, ev_seq_nx, ev_seq_rt, ev_seq_ex, ev_seq_bk, ev_seq_ct, ev_nil, ev_pass, ev_break, ev_cont, ev_retN, ev_ret, ev_drop, ev_set, ev_raise, ev_if, ev_par, ev_par3, ev_toS_ok, ev_toS_ex, ev_toS_no, ev_bind_ok, ev_bind_ex, ev_bind_no, ev_it, ev_if_f, ev_C, ev_var, ev_var1, ev_var2, ev_mov, ev_mov1, ev_mov2, ev_okV_e, ev_okV_v, ev_okO, ev_run_e, ev_run_v, ev_get_d, ev_get_i, ev_getO, ev_d_fz, ev_d_ow, ev_d_io, ev_op2, ev_get2, ev_g2, ev_op1, ev_get1, ev_g1, ev_mk, ev_mk0, ev_opN, ev_all_nil, ev_all_cons, ev_runO_nil, ev_runO_cons, ev_getN, ev_gN, ev_getL_nil, ev_getL_cons, ev_gL, ev_runE_nil, ev_runE_cons, ev_tup, ev_lst, ev_mIf, ev_and, ev_or, ev_not, ev_blR, ev_toT, ev_blT, ev_okI, ev_okB, ev_tru, ev_mkT, ev_obind, ev_tru_bl, ev_andT, ev_orT, ev_notT, ev_chain, ev_chR, ev_fn, ev_of_nx, ev_of_rt, ev_of_ex, ev_outs0, ev_outs1, ev_ioE_n, ev_ioE_f, ev_ioE_o, ev_ioE_i, ev_call, ev_callK, ev_callR, ev_args_nil, ev_args_cons, ev_argC, ev_arg_d, ev_arg_i, ev_argO_f, ev_argO_o, ev_argO_i, ev_apart_nil, ev_apart_d, ev_apart_i, ev_any_nil, ev_any_cons, ev_at_d, ev_at_i, ev_ofF_ret, ev_ofF_exc, ev_back0, ev_back1, ev_b1n, ev_b1f, ev_b1o, ev_b1i, ev_bkO0, ev_bkO1, ev_bkI0, ev_bkI1, ev_look0, ev_look_d, ev_look_i, ev_join, ev_head, ev_tail, ev_call1, ev_go_o, ev_go_f, ev_of1_r, ev_of1_e, op_add_i, op_sub_i, op_iadd_i, op_mul_i, op_fdiv_i, op_mod_i, op_pow8_i, op_powL_i, op_lt_i, op_le_i, op_gt_i, op_ge_i, op_neg_i, op_eq_i, op_ne_i, op_eq_s, op_ne_s, op_is_n, op_len_l, op_len_t, op_len_s, op_abs_i, op_max_i, op_min_i, op_int_i, op_int_b, op_divmod_i, op_tup_l, op_tup_t, op_list_l, op_list_t, op_rev_l, op_rev_t, op_own_o, op_own_i, op_setix, op_setR, op_stN, op_as_o, op_as_i, op_isS, op_mut, op_mutR, op_mutS, op_asg_seq, op_asg_seql, op_asg_cons, op_asg_nil, op_asg_nm, op_asg, op_asgR, ixN_1_0, ixN_1_m1, ixN_2_0, ixN_2_1, ixN_2_m1, ixN_3_0, ixN_3_1, ixN_3_2, ixN_3_m1, ixN_4_0, ixN_4_1, ixN_4_2, ixN_4_3, ixN_4_m1, ixN_5_0, ixN_5_1, ixN_5_2, ixN_5_3, ixN_5_4, ixN_5_m1, ixN_6_0, ixN_6_1, ixN_6_2, ixN_6_3, ixN_6_4, ixN_6_5, ixN_6_m1, ixN_7_0, ixN_7_1, ixN_7_2, ixN_7_3, ixN_7_4, ixN_7_5, ixN_7_6, ixN_7_m1, ixN_8_0, ixN_8_1, ixN_8_2, ixN_8_3, ixN_8_4, ixN_8_5, ixN_8_6, ixN_8_7, ixN_8_m1, ixN_9_0, ixN_9_1, ixN_9_2, ixN_9_3, ixN_9_4, ixN_9_5, ixN_9_6, ixN_9_7, ixN_9_8, ixN_9_m1, ixN_10_0, ixN_10_1, ixN_10_2, ixN_10_3, ixN_10_4, ixN_10_5, ixN_10_6, ixN_10_7, ixN_10_8, ixN_10_9, ixN_10_m1, ixN_11_0, ixN_11_1, ixN_11_2, ixN_11_3, ixN_11_4, ixN_11_5, ixN_11_6, ixN_11_7, ixN_11_8, ixN_11_9, ixN_11_10, ixN_11_m1, ixN_12_0, ixN_12_1, ixN_12_2, ixN_12_3, ixN_12_4, ixN_12_5, ixN_12_6, ixN_12_7, ixN_12_8, ixN_12_9, ixN_12_10, ixN_12_11, ixN_12_m1, ixN_13_0, ixN_13_1, ixN_13_2, ixN_13_3, ixN_13_4, ixN_13_5, ixN_13_6, ixN_13_7, ixN_13_8, ixN_13_9, ixN_13_10, ixN_13_11, ixN_13_12, ixN_13_m1, ixN_14_0, ixN_14_1, ixN_14_2, ixN_14_3, ixN_14_4, ixN_14_5, ixN_14_6, ixN_14_7, ixN_14_8, ixN_14_9, ixN_14_10, ixN_14_11, ixN_14_12, ixN_14_13, ixN_14_m1, ixN_15_0, ixN_15_1, ixN_15_2, ixN_15_3, ixN_15_4, ixN_15_5, ixN_15_6, ixN_15_7, ixN_15_8, ixN_15_9, ixN_15_10, ixN_15_11, ixN_15_12, ixN_15_13, ixN_15_14, ixN_15_m1, ix_l0, ix_t0, ix_l1, ix_t1, ix_l2, ix_t2, ix_l3, ix_t3, ix_l4, ix_t4, ix_l5, ix_t5, ix_l6, ix_t6, ix_l7, ix_t7, ix_l8, ix_t8, ix_l9, ix_t9, ix_l10, ix_t10, ix_l11, ix_t11, ix_l12, ix_t12, ix_l13, ix_t13, ev_for, ev_iSeq, ev_mkI, ev_iter_l, ev_iter_t, ev_iter_s, ev_turn_nx, ev_turn_ct, ev_turn_bk, ev_turn_rt, ev_turn_ex, ev_loop0, ev_forR, ev_enum, ev_enumI, ev_zip, ev_wipe0, ev_wipe1, ev_un0, ev_un1, ev_unO_f, ev_unO_n, ev_comp, ev_lc0, ev_lcR0, ev_turnC, ev_tcR, ev_yes, ev_tryAs, ev_tryS_ex, ev_tryS_nx, ev_tryS_rt, ev_tryR, ev_gone_nx, ev_gone_rt, ev_nest, ev_isE, ev_sl, ev_part0, ev_part1, ev_partR, ev_sl_t, ev_sl_l, ev_cast0, ev_cast1, ev_cast2, ev_cast3, ev_cast4, ev_cast5, ev_cast6, ev_cast7, ev_cast8, ev_cast9, ev_cast10, ev_cast11, ev_cast12, ev_cast13, ev_cast14, ev_cast15, ev_cast16, ev_cast17, ev_cast18, ev_cast19, ev_cast20, ev_isi_tt, ev_isi_ti, ev_is_t, ev_isnot_t, ev_isnot_n, ev_zip_tt, ev_zip_ll, op_eqs, op_nes, ev_aug, ev_augR, ev_augS, ev_try, ev_tryT_ex, ev_tryT_nx, ev_tryT_rt, ev_tryT_bk, ev_tryT_ct, ev_tryU, ev_tryU0, ev_cold_nx, ev_cold_rt, back_eq, wipe_eq, unwipe_eq, List.getElem?_cons_zero, List.getElem?_cons_succ, List.set_cons_zero, List.set_cons_succ, Bool.and_true, Bool.true_and, Bool.or_true, Bool.true_or, Bool.or_false, Bool.false_or, Bool.and_false, Bool.false_and, Bool.not_true, Bool.not_false, List.length_cons, List.length_nil, List.map_cons, List.map_nil, List.replicate_succ, List.replicate_zero, List.cons_append, List.nil_append, if_true, if_false, Nat.reduceAdd, Nat.reduceEqDiff, beq_self_eq_true, reduceIte, Nat.zero_add, eq_self, SZ, List.contains_cons, List.contains_nil, Nat.reduceBEq, Nat.reduceLT, Nat.reduceLeDiff, Int.reduceToNat, Int.reducePow, Int.reduceAdd, Int.reduceSub, Int.reduceMul, Int.reduceNeg, Int.reduceLT, Int.reduceLE, Int.reduceEq, Int.reduceDiv, Int.reduceMod, Option.map_some, Option.map_none, cut1, rg1_eq, rb1_ok, rg2_eq, rb2_ok, bk_d0, bk_d1, bk_d2, bk_d3, bk_d4, bk_i0, bk_i1, bk_i2, bk_i3, Int.toNat_natCast]
theorem ss_3 (f2 : Ex) (sd ys pd xd : List D) (hn : sd.length ≤ 1000) (h : rangeL 0 sd.length = ys) (x0 x2 x3 x5 : Option Sl) (z : Str) (e : loopC (turnC (gNm 8) (toT (mOp2 eqD (.e (mOp2 ixD (.v 1) (.v 8))) (.v 4))) f2 [8]) ys [x0, some (.fz (.lst sd)), x2, x3, some (.fz (.str z)), x5, some (.ow xd), none, none] [] = .ok pd [x0, some (.fz (.lst sd)), x2, x3, some (.fz (.str z)), x5, some (.ow xd), none, none])
    (e4 : addD (.lst pd) (.lst [.non, .non]) = some (.ow xd)) (e5 : neD (.lst xd) (.lst xd) = some (.fz (.bl false))) :
    (sIf (toT (mOp2 neD (.v 6) (.e (mOp2 addD (.e (mComp (iRange1 (mOpN lenD [(.v 1)])) (gNm 8) (toT (mOp2 eqD (.e (mOp2 ixD (.v 1) (.v 8))) (.v 4))) f2 [8])) (.e (mLst [(mC .non), (mC .non)])))))) (sSeq (sRet (mC (.bl false))) sNil) sNil) [x0, some (.fz (.lst sd)), x2, x3, some (.fz (.str z)), x5, some (.ow xd), none, none] = .nx [x0, some (.fz (.lst sd)), x2, x3, some (.fz (.str z)), x5, some (.ow xd), none, none] := by
  have k := rg_3 sd hn x0 x2 x3 (some (.fz (.str z))) x5 (some (.ow xd)) none none
  rw [h] at k
  revert k
  generalize iRange1 (mOpN lenD [(.v 1)]) = it
  revert e
  generalize toT (mOp2 eqD (.e (mOp2 ixD (.v 1) (.v 8))) (.v 4)) = tt
  intro e k
  simp (maxSteps := 20000000) (disch := (first | assumption | omega | (simp only [List.length_cons, List.length_nil, List.length_append, List.length_map, SZ]; done) | (simp only [List.length_cons, List.length_nil, List.length_append, List.length_map, SZ]; omega))) only [ev_seq, ev_seq_nx, ev_seq_rt, ev_seq_ex, ev_seq_bk, ev_seq_ct, ev_nil, ev_pass, ev_break, ev_cont, ev_retN, ev_ret, ev_drop, ev_set, ev_raise, ev_if, ev_par, ev_par3, ev_toS_ok, ev_toS_ex, ev_toS_no, ev_bind_ok, ev_bind_ex, ev_bind_no, ev_it, ev_if_f, ev_C, ev_var, ev_var1, ev_var2, ev_mov, ev_mov1, ev_mov2, ev_okV_e, ev_okV_v, ev_okO, ev_run_e, ev_run_v, ev_get_d, ev_get_i, ev_getO, ev_d_fz, ev_d_ow, ev_d_io, ev_op2, ev_get2, ev_g2, ev_op1, ev_get1, ev_g1, ev_mk, ev_mk0, ev_opN, ev_all_nil, ev_all_cons, ev_runO_nil, ev_runO_cons, ev_getN, ev_gN, ev_getL_nil, ev_getL_cons, ev_gL, ev_runE_nil, ev_runE_cons, ev_tup, ev_lst, ev_mIf, ev_and, ev_or, ev_not, ev_blR, ev_toT, ev_blT, ev_okI, ev_okB, ev_tru, ev_mkT, ev_obind, ev_tru_bl, ev_andT, ev_orT, ev_notT, ev_chain, ev_chR, ev_fn, ev_of_nx, ev_of_rt, ev_of_ex, ev_outs0, ev_outs1, ev_ioE_n, ev_ioE_f, ev_ioE_o, ev_ioE_i, ev_call, ev_callK, ev_callR, ev_args_nil, ev_args_cons, ev_argC, ev_arg_d, ev_arg_i, ev_argO_f, ev_argO_o, ev_argO_i, ev_apart_nil, ev_apart_d, ev_apart_i, ev_any_nil, ev_any_cons, ev_at_d, ev_at_i, ev_ofF_ret, ev_ofF_exc, ev_back0, ev_back1, ev_b1n, ev_b1f, ev_b1o, ev_b1i, ev_bkO0, ev_bkO1, ev_bkI0, ev_bkI1, ev_look0, ev_look_d, ev_look_i, ev_join, ev_head, ev_tail, ev_call1, ev_go_o, ev_go_f, ev_of1_r, ev_of1_e, op_add_i, op_sub_i, op_iadd_i, op_mul_i, op_fdiv_i, op_mod_i, op_pow8_i, op_powL_i, op_lt_i, op_le_i, op_gt_i, op_ge_i, op_neg_i, op_eq_i, op_ne_i, op_eq_s, op_ne_s, op_is_n, op_len_l, op_len_t, op_len_s, op_abs_i, op_max_i, op_min_i, op_int_i, op_int_b, op_divmod_i, op_tup_l, op_tup_t, op_list_l, op_list_t, op_rev_l, op_rev_t, op_own_o, op_own_i, op_setix, op_setR, op_stN, op_as_o, op_as_i, op_isS, op_mut, op_mutR, op_mutS, op_asg_seq, op_asg_seql, op_asg_cons, op_asg_nil, op_asg_nm, op_asg, op_asgR, ixN_1_0, ixN_1_m1, ixN_2_0, ixN_2_1, ixN_2_m1, ixN_3_0, ixN_3_1, ixN_3_2, ixN_3_m1, ixN_4_0, ixN_4_1, ixN_4_2, ixN_4_3, ixN_4_m1, ixN_5_0, ixN_5_1, ixN_5_2, ixN_5_3, ixN_5_4, ixN_5_m1, ixN_6_0, ixN_6_1, ixN_6_2, ixN_6_3, ixN_6_4, ixN_6_5, ixN_6_m1, ixN_7_0, ixN_7_1, ixN_7_2, ixN_7_3, ixN_7_4, ixN_7_5, ixN_7_6, ixN_7_m1, ixN_8_0, ixN_8_1, ixN_8_2, ixN_8_3, ixN_8_4, ixN_8_5, ixN_8_6, ixN_8_7, ixN_8_m1, ixN_9_0, ixN_9_1, ixN_9_2, ixN_9_3, ixN_9_4, ixN_9_5, ixN_9_6, ixN_9_7, ixN_9_8, ixN_9_m1, ixN_10_0, ixN_10_1, ixN_10_2, ixN_10_3, ixN_10_4, ixN_10_5, ixN_10_6, ixN_10_7, ixN_10_8, ixN_10_9, ixN_10_m1, ixN_11_0, ixN_11_1, ixN_11_2, ixN_11_3, ixN_11_4, ixN_11_5, ixN_11_6, ixN_11_7, ixN_11_8, ixN_11_9, ixN_11_10, ixN_11_m1, ixN_12_0, ixN_12_1, ixN_12_2, ixN_12_3, ixN_12_4, ixN_12_5, ixN_12_6, ixN_12_7, ixN_12_8, ixN_12_9, ixN_12_10, ixN_12_11, ixN_12_m1, ixN_13_0, ixN_13_1, ixN_13_2, ixN_13_3, ixN_13_4, ixN_13_5, ixN_13_6, ixN_13_7, ixN_13_8, ixN_13_9, ixN_13_10, ixN_13_11, ixN_13_12, ixN_13_m1, ixN_14_0, ixN_14_1, ixN_14_2, ixN_14_3, ixN_14_4, ixN_14_5, ixN_14_6, ixN_14_7, ixN_14_8, ixN_14_9, ixN_14_10, ixN_14_11, ixN_14_12, ixN_14_13, ixN_14_m1, ixN_15_0, ixN_15_1, ixN_15_2, ixN_15_3, ixN_15_4, ixN_15_5, ixN_15_6, ixN_15_7, ixN_15_8, ixN_15_9, ixN_15_10, ixN_15_11, ixN_15_12, ixN_15_13, ixN_15_14, ixN_15_m1, ix_l0, ix_t0, ix_l1, ix_t1, ix_l2, ix_t2, ix_l3, ix_t3, ix_l4, ix_t4, ix_l5, ix_t5, ix_l6, ix_t6, ix_l7, ix_t7, ix_l8, ix_t8, ix_l9, ix_t9, ix_l10, ix_t10, ix_l11, ix_t11, ix_l12, ix_t12, ix_l13, ix_t13, ev_for, ev_iSeq, ev_mkI, ev_iter_l, ev_iter_t, ev_iter_s, ev_turn_nx, ev_turn_ct, ev_turn_bk, ev_turn_rt, ev_turn_ex, ev_loop0, ev_forR, ev_enum, ev_enumI, ev_zip, ev_wipe0, ev_wipe1, ev_un0, ev_un1, ev_unO_f, ev_unO_n, ev_comp, ev_lc0, ev_lcR0, ev_turnC, ev_tcR, ev_yes, ev_tryAs, ev_tryS_ex, ev_tryS_nx, ev_tryS_rt, ev_tryR, ev_gone_nx, ev_gone_rt, ev_nest, ev_isE, ev_sl, ev_part0, ev_part1, ev_partR, ev_sl_t, ev_sl_l, ev_cast0, ev_cast1, ev_cast2, ev_cast3, ev_cast4, ev_cast5, ev_cast6, ev_cast7, ev_cast8, ev_cast9, ev_cast10, ev_cast11, ev_cast12, ev_cast13, ev_cast14, ev_cast15, ev_cast16, ev_cast17, ev_cast18, ev_cast19, ev_cast20, ev_isi_tt, ev_isi_ti, ev_is_t, ev_isnot_t, ev_isnot_n, ev_zip_tt, ev_zip_ll, op_eqs, op_nes, ev_aug, ev_augR, ev_augS, ev_try, ev_tryT_ex, ev_tryT_nx, ev_tryT_rt, ev_tryT_bk, ev_tryT_ct, ev_tryU, ev_tryU0, ev_cold_nx, ev_cold_rt, back_eq, wipe_eq, unwipe_eq, List.getElem?_cons_zero, List.getElem?_cons_succ, List.set_cons_zero, List.set_cons_succ, Bool.and_true, Bool.true_and, Bool.or_true, Bool.true_or, Bool.or_false, Bool.false_or, Bool.and_false, Bool.false_and, Bool.not_true, Bool.not_false, List.length_cons, List.length_nil, List.map_cons, List.map_nil, List.replicate_succ, List.replicate_zero, List.cons_append, List.nil_append, if_true, if_false, Nat.reduceAdd, Nat.reduceEqDiff, beq_self_eq_true, reduceIte, Nat.zero_add, eq_self, SZ, List.contains_cons, List.contains_nil, Nat.reduceBEq, Nat.reduceLT, Nat.reduceLeDiff, Int.reduceToNat, Int.reducePow, Int.reduceAdd, Int.reduceSub, Int.reduceMul, Int.reduceNeg, Int.reduceLT, Int.reduceLE, Int.reduceEq, Int.reduceDiv, Int.reduceMod, Option.map_some, Option.map_none, cut1, rg1_eq, rb1_ok, rg2_eq, rb2_ok, bk_d0, bk_d1, bk_d2, bk_d3, bk_d4, bk_i0, bk_i1, bk_i2, bk_i3, k, e, e4, e5]
theorem ss_4 (xd pd od nd : List D) (n : Int) (s3 : Sl) (h3 : s3 = .ow od ∨ s3 = .fz (.lst od)) (x0 x1 x2 x4 : Option Sl) (e6 : cutG xd none (some n) = pd) (e7 : addD (.lst od) (.lst pd) = some (.ow nd)) :
    (sSet 3 (mOp2 addD (.v 3) (.e (mSl (.v 6) .no (.e (.e (mVar 5))))))) [x0, x1, x2, some s3, x4, some (.fz (.int n)), some (.ow xd), none, none] = .nx [x0, x1, x2, some (.ow nd), x4, some (.fz (.int n)), some (.ow xd), none, none] := by
  have k : sliceD none (some n) (.lst xd) = some (.ow pd) := by rw [ev_sl_l, e6]
  rcases h3 with rfl | rfl
  · simp (maxSteps := 20000000) (disch := (first | assumption | omega | (simp only [List.length_cons, List.length_nil, List.length_append, List.length_map, SZ]; done) | (simp only [List.length_cons, List.length_nil, List.length_append, List.length_map, SZ]; omega))) only [ev_seq, ev_seq_nx, ev_seq_rt, ev_seq_ex, ev_seq_bk, ev_seq_ct, ev_nil, ev_pass, ev_break, ev_cont, ev_retN, ev_ret, ev_drop, ev_set, ev_raise, ev_if, ev_par, ev_par3, ev_toS_ok, ev_toS_ex, ev_toS_no, ev_bind_ok, ev_bind_ex, ev_bind_no, ev_it, ev_if_f, ev_C, ev_var, ev_var1, ev_var2, ev_mov, ev_mov1, ev_mov2, ev_okV_e, ev_okV_v, ev_okO, ev_run_e, ev_run_v, ev_get_d, ev_get_i, ev_getO, ev_d_fz, ev_d_ow, ev_d_io, ev_op2, ev_get2, ev_g2, ev_op1, ev_get1, ev_g1, ev_mk, ev_mk0, ev_opN, ev_all_nil, ev_all_cons, ev_runO_nil, ev_runO_cons, ev_getN, ev_gN, ev_getL_nil, ev_getL_cons, ev_gL, ev_runE_nil, ev_runE_cons, ev_tup, ev_lst, ev_mIf, ev_and, ev_or, ev_not, ev_blR, ev_toT, ev_blT, ev_okI, ev_okB, ev_tru, ev_mkT, ev_obind, ev_tru_bl, ev_andT, ev_orT, ev_notT, ev_chain, ev_chR, ev_fn, ev_of_nx, ev_of_rt, ev_of_ex, ev_outs0, ev_outs1, ev_ioE_n, ev_ioE_f, ev_ioE_o, ev_ioE_i, ev_call, ev_callK, ev_callR, ev_args_nil, ev_args_cons, ev_argC, ev_arg_d, ev_arg_i, ev_argO_f, ev_argO_o, ev_argO_i, ev_apart_nil, ev_apart_d, ev_apart_i, ev_any_nil, ev_any_cons, ev_at_d, ev_at_i, ev_ofF_ret, ev_ofF_exc, ev_back0, ev_back1, ev_b1n, ev_b1f, ev_b1o, ev_b1i, ev_bkO0, ev_bkO1, ev_bkI0, ev_bkI1, ev_look0, ev_look_d, ev_look_i, ev_join, ev_head, ev_tail, ev_call1, ev_go_o, ev_go_f, ev_of1_r, ev_of1_e, op_add_i, op_sub_i, op_iadd_i, op_mul_i, op_fdiv_i, op_mod_i, op_pow8_i, op_powL_i, op_lt_i, op_le_i, op_gt_i, op_ge_i, op_neg_i, op_eq_i, op_ne_i, op_eq_s, op_ne_s, op_is_n, op_len_l, op_len_t, op_len_s, op_abs_i, op_max_i, op_min_i, op_int_i, op_int_b, op_divmod_i, op_tup_l, op_tup_t, op_list_l, op_list_t, op_rev_l, op_rev_t, op_own_o, op_own_i, op_setix, op_setR, op_stN, op_as_o, op_as_i, op_isS, op_mut, op_mutR, op_mutS, op_asg_seq, op_asg_seql, op_asg_cons, op_asg_nil, op_asg_nm, op_asg, op_asgR, ixN_1_0, ixN_1_m1, ixN_2_0, ixN_2_1, ixN_2_m1, ixN_3_0, ixN_3_1, ixN_3_2, ixN_3_m1, ixN_4_0, ixN_4_1, ixN_4_2, ixN_4_3, ixN_4_m1, ixN_5_0, ixN_5_1, ixN_5_2, ixN_5_3, ixN_5_4, ixN_5_m1, ixN_6_0, ixN_6_1, ixN_6_2, ixN_6_3, ixN_6_4, ixN_6_5, ixN_6_m1, ixN_7_0, ixN_7_1, ixN_7_2, ixN_7_3, ixN_7_4, ixN_7_5, ixN_7_6, ixN_7_m1, ixN_8_0, ixN_8_1, ixN_8_2, ixN_8_3, ixN_8_4, ixN_8_5, ixN_8_6, ixN_8_7, ixN_8_m1, ixN_9_0, ixN_9_1, ixN_9_2, ixN_9_3, ixN_9_4, ixN_9_5, ixN_9_6, ixN_9_7, ixN_9_8, ixN_9_m1, ixN_10_0, ixN_10_1, ixN_10_2, ixN_10_3, ixN_10_4, ixN_10_5, ixN_10_6, ixN_10_7, ixN_10_8, ixN_10_9, ixN_10_m1, ixN_11_0, ixN_11_1, ixN_11_2, ixN_11_3, ixN_11_4, ixN_11_5, ixN_11_6, ixN_11_7, ixN_11_8, ixN_11_9, ixN_11_10, ixN_11_m1, ixN_12_0, ixN_12_1, ixN_12_2, ixN_12_3, ixN_12_4, ixN_12_5, ixN_12_6, ixN_12_7, ixN_12_8, ixN_12_9, ixN_12_10, ixN_12_11, ixN_12_m1, ixN_13_0, ixN_13_1, ixN_13_2, ixN_13_3, ixN_13_4, ixN_13_5, ixN_13_6, ixN_13_7, ixN_13_8, ixN_13_9, ixN_13_10, ixN_13_11, ixN_13_12, ixN_13_m1, ixN_14_0, ixN_14_1, ixN_14_2, ixN_14_3, ixN_14_4, ixN_14_5, ixN_14_6, ixN_14_7, ixN_14_8, ixN_14_9, ixN_14_10, ixN_14_11, ixN_14_12, ixN_14_13, ixN_14_m1, ixN_15_0, ixN_15_1, ixN_15_2, ixN_15_3, ixN_15_4, ixN_15_5, ixN_15_6, ixN_15_7, ixN_15_8, ixN_15_9, ixN_15_10, ixN_15_11, ixN_15_12, ixN_15_13, ixN_15_14, ixN_15_m1, ix_l0, ix_t0, ix_l1, ix_t1, ix_l2, ix_t2, ix_l3, ix_t3, ix_l4, ix_t4, ix_l5, ix_t5, ix_l6, ix_t6, ix_l7, ix_t7, ix_l8, ix_t8, ix_l9, ix_t9, ix_l10, ix_t10, ix_l11, ix_t11, ix_l12, ix_t12, ix_l13, ix_t13, ev_for, ev_iSeq, ev_mkI, ev_iter_l, ev_iter_t, ev_iter_s, ev_turn_nx, ev_turn_ct, ev_turn_bk, ev_turn_rt, ev_turn_ex, ev_loop0, ev_forR, ev_enum, ev_enumI, ev_zip, ev_wipe0, ev_wipe1, ev_un0, ev_un1, ev_unO_f, ev_unO_n, ev_comp, ev_lc0, ev_lcR0, ev_turnC, ev_tcR, ev_yes, ev_tryAs, ev_tryS_ex, ev_tryS_nx, ev_tryS_rt, ev_tryR, ev_gone_nx, ev_gone_rt, ev_nest, ev_isE, ev_sl, ev_part0, ev_part1, ev_partR, ev_sl_t, ev_sl_l, ev_cast0, ev_cast1, ev_cast2, ev_cast3, ev_cast4, ev_cast5, ev_cast6, ev_cast7, ev_cast8, ev_cast9, ev_cast10, ev_cast11, ev_cast12, ev_cast13, ev_cast14, ev_cast15, ev_cast16, ev_cast17, ev_cast18, ev_cast19, ev_cast20, ev_isi_tt, ev_isi_ti, ev_is_t, ev_isnot_t, ev_isnot_n, ev_zip_tt, ev_zip_ll, op_eqs, op_nes, ev_aug, ev_augR, ev_augS, ev_try, ev_tryT_ex, ev_tryT_nx, ev_tryT_rt, ev_tryT_bk, ev_tryT_ct, ev_tryU, ev_tryU0, ev_cold_nx, ev_cold_rt, back_eq, wipe_eq, unwipe_eq, List.getElem?_cons_zero, List.getElem?_cons_succ, List.set_cons_zero, List.set_cons_succ, Bool.and_true, Bool.true_and, Bool.or_true, Bool.true_or, Bool.or_false, Bool.false_or, Bool.and_false, Bool.false_and, Bool.not_true, Bool.not_false, List.length_cons, List.length_nil, List.map_cons, List.map_nil, List.replicate_succ, List.replicate_zero, List.cons_append, List.nil_append, if_true, if_false, Nat.reduceAdd, Nat.reduceEqDiff, beq_self_eq_true, reduceIte, Nat.zero_add, eq_self, SZ, List.contains_cons, List.contains_nil, Nat.reduceBEq, Nat.reduceLT, Nat.reduceLeDiff, Int.reduceToNat, Int.reducePow, Int.reduceAdd, Int.reduceSub, Int.reduceMul, Int.reduceNeg, Int.reduceLT, Int.reduceLE, Int.reduceEq, Int.reduceDiv, Int.reduceMod, Option.map_some, Option.map_none, cut1, rg1_eq, rb1_ok, rg2_eq, rb2_ok, bk_d0, bk_d1, bk_d2, bk_d3, bk_d4, bk_i0, bk_i1, bk_i2, bk_i3, k, e6, e7]
  · simp (maxSteps := 20000000) (disch := (first | assumption | omega | (simp only [List.length_cons, List.length_nil, List.length_append, List.length_map, SZ]; done) | (simp only [List.length_cons, List.length_nil, List.length_append, List.length_map, SZ]; omega))) only [ev_seq, ev_seq_nx, ev_seq_rt, ev_seq_ex, ev_seq_bk, ev_seq_ct, ev_nil, ev_pass, ev_break, ev_cont, ev_retN, ev_ret, ev_drop, ev_set, ev_raise, ev_if, ev_par, ev_par3, ev_toS_ok, ev_toS_ex, ev_toS_no, ev_bind_ok, ev_bind_ex, ev_bind_no, ev_it, ev_if_f, ev_C, ev_var, ev_var1, ev_var2, ev_mov, ev_mov1, ev_mov2, ev_okV_e, ev_okV_v, ev_okO, ev_run_e, ev_run_v, ev_get_d, ev_get_i, ev_getO, ev_d_fz, ev_d_ow, ev_d_io, ev_op2, ev_get2, ev_g2, ev_op1, ev_get1, ev_g1, ev_mk, ev_mk0, ev_opN, ev_all_nil, ev_all_cons, ev_runO_nil, ev_runO_cons, ev_getN, ev_gN, ev_getL_nil, ev_getL_cons, ev_gL, ev_runE_nil, ev_runE_cons, ev_tup, ev_lst, ev_mIf, ev_and, ev_or, ev_not, ev_blR, ev_toT, ev_blT, ev_okI, ev_okB, ev_tru, ev_mkT, ev_obind, ev_tru_bl, ev_andT, ev_orT, ev_notT, ev_chain, ev_chR, ev_fn, ev_of_nx, ev_of_rt, ev_of_ex, ev_outs0, ev_outs1, ev_ioE_n, ev_ioE_f, ev_ioE_o, ev_ioE_i, ev_call, ev_callK, ev_callR, ev_args_nil, ev_args_cons, ev_argC, ev_arg_d, ev_arg_i, ev_argO_f, ev_argO_o, ev_argO_i, ev_apart_nil, ev_apart_d, ev_apart_i, ev_any_nil, ev_any_cons, ev_at_d, ev_at_i, ev_ofF_ret, ev_ofF_exc, ev_back0, ev_back1, ev_b1n, ev_b1f, ev_b1o, ev_b1i, ev_bkO0, ev_bkO1, ev_bkI0, ev_bkI1, ev_look0, ev_look_d, ev_look_i, ev_join, ev_head, ev_tail, ev_call1, ev_go_o, ev_go_f, ev_of1_r, ev_of1_e, op_add_i, op_sub_i, op_iadd_i, op_mul_i, op_fdiv_i, op_mod_i, op_pow8_i, op_powL_i, op_lt_i, op_le_i, op_gt_i, op_ge_i, op_neg_i, op_eq_i, op_ne_i, op_eq_s, op_ne_s, op_is_n, op_len_l, op_len_t, op_len_s, op_abs_i, op_max_i, op_min_i, op_int_i, op_int_b, op_divmod_i, op_tup_l, op_tup_t, op_list_l, op_list_t, op_rev_l, op_rev_t, op_own_o, op_own_i, op_setix, op_setR, op_stN, op_as_o, op_as_i, op_isS, op_mut, op_mutR, op_mutS, op_asg_seq, op_asg_seql, op_asg_cons, op_asg_nil, op_asg_nm, op_asg, op_asgR, ixN_1_0, ixN_1_m1, ixN_2_0, ixN_2_1, ixN_2_m1, ixN_3_0, ixN_3_1, ixN_3_2, ixN_3_m1, ixN_4_0, ixN_4_1, ixN_4_2, ixN_4_3, ixN_4_m1, ixN_5_0, ixN_5_1, ixN_5_2, ixN_5_3, ixN_5_4, ixN_5_m1, ixN_6_0, ixN_6_1, ixN_6_2, ixN_6_3, ixN_6_4, ixN_6_5, ixN_6_m1, ixN_7_0, ixN_7_1, ixN_7_2, ixN_7_3, ixN_7_4, ixN_7_5, ixN_7_6, ixN_7_m1, ixN_8_0, ixN_8_1, ixN_8_2, ixN_8_3, ixN_8_4, ixN_8_5, ixN_8_6, ixN_8_7, ixN_8_m1, ixN_9_0, ixN_9_1, ixN_9_2, ixN_9_3, ixN_9_4, ixN_9_5, ixN_9_6, ixN_9_7, ixN_9_8, ixN_9_m1, ixN_10_0, ixN_10_1, ixN_10_2, ixN_10_3, ixN_10_4, ixN_10_5, ixN_10_6, ixN_10_7, ixN_10_8, ixN_10_9, ixN_10_m1, ixN_11_0, ixN_11_1, ixN_11_2, ixN_11_3, ixN_11_4, ixN_11_5, ixN_11_6, ixN_11_7, ixN_11_8, ixN_11_9, ixN_11_10, ixN_11_m1, ixN_12_0, ixN_12_1, ixN_12_2, ixN_12_3, ixN_12_4, ixN_12_5, ixN_12_6, ixN_12_7, ixN_12_8, ixN_12_9, ixN_12_10, ixN_12_11, ixN_12_m1, ixN_13_0, ixN_13_1, ixN_13_2, ixN_13_3, ixN_13_4, ixN_13_5, ixN_13_6, ixN_13_7, ixN_13_8, ixN_13_9, ixN_13_10, ixN_13_11, ixN_13_12, ixN_13_m1, ixN_14_0, ixN_14_1, ixN_14_2, ixN_14_3, ixN_14_4, ixN_14_5, ixN_14_6, ixN_14_7, ixN_14_8, ixN_14_9, ixN_14_10, ixN_14_11, ixN_14_12, ixN_14_13, ixN_14_m1, ixN_15_0, ixN_15_1, ixN_15_2, ixN_15_3, ixN_15_4, ixN_15_5, ixN_15_6, ixN_15_7, ixN_15_8, ixN_15_9, ixN_15_10, ixN_15_11, ixN_15_12, ixN_15_13, ixN_15_14, ixN_15_m1, ix_l0, ix_t0, ix_l1, ix_t1, ix_l2, ix_t2, ix_l3, ix_t3, ix_l4, ix_t4, ix_l5, ix_t5, ix_l6, ix_t6, ix_l7, ix_t7, ix_l8, ix_t8, ix_l9, ix_t9, ix_l10, ix_t10, ix_l11, ix_t11, ix_l12, ix_t12, ix_l13, ix_t13, ev_for, ev_iSeq, ev_mkI, ev_iter_l, ev_iter_t, ev_iter_s, ev_turn_nx, ev_turn_ct, ev_turn_bk, ev_turn_rt, ev_turn_ex, ev_loop0, ev_forR, ev_enum, ev_enumI, ev_zip, ev_wipe0, ev_wipe1, ev_un0, ev_un1, ev_unO_f, ev_unO_n, ev_comp, ev_lc0, ev_lcR0, ev_turnC, ev_tcR, ev_yes, ev_tryAs, ev_tryS_ex, ev_tryS_nx, ev_tryS_rt, ev_tryR, ev_gone_nx, ev_gone_rt, ev_nest, ev_isE, ev_sl, ev_part0, ev_part1, ev_partR, ev_sl_t, ev_sl_l, ev_cast0, ev_cast1, ev_cast2, ev_cast3, ev_cast4, ev_cast5, ev_cast6, ev_cast7, ev_cast8, ev_cast9, ev_cast10, ev_cast11, ev_cast12, ev_cast13, ev_cast14, ev_cast15, ev_cast16, ev_cast17, ev_cast18, ev_cast19, ev_cast20, ev_isi_tt, ev_isi_ti, ev_is_t, ev_isnot_t, ev_isnot_n, ev_zip_tt, ev_zip_ll, op_eqs, op_nes, ev_aug, ev_augR, ev_augS, ev_try, ev_tryT_ex, ev_tryT_nx, ev_tryT_rt, ev_tryT_bk, ev_tryT_ct, ev_tryU, ev_tryU0, ev_cold_nx, ev_cold_rt, back_eq, wipe_eq, unwipe_eq, List.getElem?_cons_zero, List.getElem?_cons_succ, List.set_cons_zero, List.set_cons_succ, Bool.and_true, Bool.true_and, Bool.or_true, Bool.true_or, Bool.or_false, Bool.false_or, Bool.and_false, Bool.false_and, Bool.not_true, Bool.not_false, List.length_cons, List.length_nil, List.map_cons, List.map_nil, List.replicate_succ, List.replicate_zero, List.cons_append, List.nil_append, if_true, if_false, Nat.reduceAdd, Nat.reduceEqDiff, beq_self_eq_true, reduceIte, Nat.zero_add, eq_self, SZ, List.contains_cons, List.contains_nil, Nat.reduceBEq, Nat.reduceLT, Nat.reduceLeDiff, Int.reduceToNat, Int.reducePow, Int.reduceAdd, Int.reduceSub, Int.reduceMul, Int.reduceNeg, Int.reduceLT, Int.reduceLE, Int.reduceEq, Int.reduceDiv, Int.reduceMod, Option.map_some, Option.map_none, cut1, rg1_eq, rb1_ok, rg2_eq, rb2_ok, bk_d0, bk_d1, bk_d2, bk_d3, bk_d4, bk_i0, bk_i1, bk_i2, bk_i3, k, e6, e7]
theorem fi_2 (f2 : Fn) (bag sd : List D) (ld : D) (x4 : Option Sl) (e2 : f2 [.fz (.lst sd)] = .ret (.fz ld) [none]) :
    (sAsg (gSeq 2 (gsCons (gNm 2) (gsCons (gNm 3) gsNil))) (mTup [(mCall f2 [(.e (mVar 1))]), (mLst [])])) [some (.io bag), some (.ow sd), none, none, none, none, none, none, none] = .nx [some (.io bag), some (.fz (.lst sd)), some (.fz ld), some (.fz (.lst [])), none, none, none, none, none] := by
  simp (maxSteps := 20000000) (disch := (first | assumption | omega | (simp only [List.length_cons, List.length_nil, List.length_append, List.length_map, SZ]; done) | (simp only [List.length_cons, List.length_nil, List.length_append, List.length_map, SZ]; omega))) only [ev_seq, ev_seq_nx, ev_seq_rt, ev_seq_ex, ev_seq_bk, ev_seq_ct, ev_nil, ev_pass, ev_break, ev_cont, ev_retN, ev_ret, ev_drop, ev_set, ev_raise, ev_if, ev_par, ev_par3, ev_toS_ok, ev_toS_ex, ev_toS_no, ev_bind_ok, ev_bind_ex, ev_bind_no, ev_it, ev_if_f, ev_C, ev_var, ev_var1, ev_var2, ev_mov, ev_mov1, ev_mov2, ev_okV_e, ev_okV_v, ev_okO, ev_run_e, ev_run_v, ev_get_d, ev_get_i, ev_getO, ev_d_fz, ev_d_ow, ev_d_io, ev_op2, ev_get2, ev_g2, ev_op1, ev_get1, ev_g1, ev_mk, ev_mk0, ev_opN, ev_all_nil, ev_all_cons, ev_runO_nil, ev_runO_cons, ev_getN, ev_gN, ev_getL_nil, ev_getL_cons, ev_gL, ev_runE_nil, ev_runE_cons, ev_tup, ev_lst, ev_mIf, ev_and, ev_or, ev_not, ev_blR, ev_toT, ev_blT, ev_okI, ev_okB, ev_tru, ev_mkT, ev_obind, ev_tru_bl, ev_andT, ev_orT, ev_notT, ev_chain, ev_chR, ev_fn, ev_of_nx, ev_of_rt, ev_of_ex, ev_outs0, ev_outs1, ev_ioE_n, ev_ioE_f, ev_ioE_o, ev_ioE_i, ev_call, ev_callK, ev_callR, ev_args_nil, ev_args_cons, ev_argC, ev_arg_d, ev_arg_i, ev_argO_f, ev_argO_o, ev_argO_i, ev_apart_nil, ev_apart_d, ev_apart_i, ev_any_nil, ev_any_cons, ev_at_d, ev_at_i, ev_ofF_ret, ev_ofF_exc, ev_back0, ev_back1, ev_b1n, ev_b1f, ev_b1o, ev_b1i, ev_bkO0, ev_bkO1, ev_bkI0, ev_bkI1, ev_look0, ev_look_d, ev_look_i, ev_join, ev_head, ev_tail, ev_call1, ev_go_o, ev_go_f, ev_of1_r, ev_of1_e, op_add_i, op_sub_i, op_iadd_i, op_mul_i, op_fdiv_i, op_mod_i, op_pow8_i, op_powL_i, op_lt_i, op_le_i, op_gt_i, op_ge_i, op_neg_i, op_eq_i, op_ne_i, op_eq_s, op_ne_s, op_is_n, op_len_l, op_len_t, op_len_s, op_abs_i, op_max_i, op_min_i, op_int_i, op_int_b, op_divmod_i, op_tup_l, op_tup_t, op_list_l, op_list_t, op_rev_l, op_rev_t, op_own_o, op_own_i, op_setix, op_setR, op_stN, op_as_o, op_as_i, op_isS, op_mut, op_mutR, op_mutS, op_asg_seq, op_asg_seql, op_asg_cons, op_asg_nil, op_asg_nm, op_asg, op_asgR, ixN_1_0, ixN_1_m1, ixN_2_0, ixN_2_1, ixN_2_m1, ixN_3_0, ixN_3_1, ixN_3_2, ixN_3_m1, ixN_4_0, ixN_4_1, ixN_4_2, ixN_4_3, ixN_4_m1, ixN_5_0, ixN_5_1, ixN_5_2, ixN_5_3, ixN_5_4, ixN_5_m1, ixN_6_0, ixN_6_1, ixN_6_2, ixN_6_3, ixN_6_4, ixN_6_5, ixN_6_m1, ixN_7_0, ixN_7_1, ixN_7_2, ixN_7_3, ixN_7_4, ixN_7_5, ixN_7_6, ixN_7_m1, ixN_8_0, ixN_8_1, ixN_8_2, ixN_8_3, ixN_8_4, ixN_8_5, ixN_8_6, ixN_8_7, ixN_8_m1, ixN_9_0, ixN_9_1, ixN_9_2, ixN_9_3, ixN_9_4, ixN_9_5, ixN_9_6, ixN_9_7, ixN_9_8, ixN_9_m1, ixN_10_0, ixN_10_1, ixN_10_2, ixN_10_3, ixN_10_4, ixN_10_5, ixN_10_6, ixN_10_7, ixN_10_8, ixN_10_9, ixN_10_m1, ixN_11_0, ixN_11_1, ixN_11_2, ixN_11_3, ixN_11_4, ixN_11_5, ixN_11_6, ixN_11_7, ixN_11_8, ixN_11_9, ixN_11_10, ixN_11_m1, ixN_12_0, ixN_12_1, ixN_12_2, ixN_12_3, ixN_12_4, ixN_12_5, ixN_12_6, ixN_12_7, ixN_12_8, ixN_12_9, ixN_12_10, ixN_12_11, ixN_12_m1, ixN_13_0, ixN_13_1, ixN_13_2, ixN_13_3, ixN_13_4, ixN_13_5, ixN_13_6, ixN_13_7, ixN_13_8, ixN_13_9, ixN_13_10, ixN_13_11, ixN_13_12, ixN_13_m1, ixN_14_0, ixN_14_1, ixN_14_2, ixN_14_3, ixN_14_4, ixN_14_5, ixN_14_6, ixN_14_7, ixN_14_8, ixN_14_9, ixN_14_10, ixN_14_11, ixN_14_12, ixN_14_13, ixN_14_m1, ixN_15_0, ixN_15_1, ixN_15_2, ixN_15_3, ixN_15_4, ixN_15_5, ixN_15_6, ixN_15_7, ixN_15_8, ixN_15_9, ixN_15_10, ixN_15_11, ixN_15_12, ixN_15_13, ixN_15_14, ixN_15_m1, ix_l0, ix_t0, ix_l1, ix_t1, ix_l2, ix_t2, ix_l3, ix_t3, ix_l4, ix_t4, ix_l5, ix_t5, ix_l6, ix_t6, ix_l7, ix_t7, ix_l8, ix_t8, ix_l9, ix_t9, ix_l10, ix_t10, ix_l11, ix_t11, ix_l12, ix_t12, ix_l13, ix_t13, ev_for, ev_iSeq, ev_mkI, ev_iter_l, ev_iter_t, ev_iter_s, ev_turn_nx, ev_turn_ct, ev_turn_bk, ev_turn_rt, ev_turn_ex, ev_loop0, ev_forR, ev_enum, ev_enumI, ev_zip, ev_wipe0, ev_wipe1, ev_un0, ev_un1, ev_unO_f, ev_unO_n, ev_comp, ev_lc0, ev_lcR0, ev_turnC, ev_tcR, ev_yes, ev_tryAs, ev_tryS_ex, ev_tryS_nx, ev_tryS_rt, ev_tryR, ev_gone_nx, ev_gone_rt, ev_nest, ev_isE, ev_sl, ev_part0, ev_part1, ev_partR, ev_sl_t, ev_sl_l, ev_cast0, ev_cast1, ev_cast2, ev_cast3, ev_cast4, ev_cast5, ev_cast6, ev_cast7, ev_cast8, ev_cast9, ev_cast10, ev_cast11, ev_cast12, ev_cast13, ev_cast14, ev_cast15, ev_cast16, ev_cast17, ev_cast18, ev_cast19, ev_cast20, ev_isi_tt, ev_isi_ti, ev_is_t, ev_isnot_t, ev_isnot_n, ev_zip_tt, ev_zip_ll, op_eqs, op_nes, ev_aug, ev_augR, ev_augS, ev_try, ev_tryT_ex, ev_tryT_nx, ev_tryT_rt, ev_tryT_bk, ev_tryT_ct, ev_tryU, ev_tryU0, ev_cold_nx, ev_cold_rt, back_eq, wipe_eq, unwipe_eq, List.getElem?_cons_zero, List.getElem?_cons_succ, List.set_cons_zero, List.set_cons_succ, Bool.and_true, Bool.true_and, Bool.or_true, Bool.true_or, Bool.or_false, Bool.false_or, Bool.and_false, Bool.false_and, Bool.not_true, Bool.not_false, List.length_cons, List.length_nil, List.map_cons, List.map_nil, List.replicate_succ, List.replicate_zero, List.cons_append, List.nil_append, if_true, if_false, Nat.reduceAdd, Nat.reduceEqDiff, beq_self_eq_true, reduceIte, Nat.zero_add, eq_self, SZ, List.contains_cons, List.contains_nil, Nat.reduceBEq, Nat.reduceLT, Nat.reduceLeDiff, Int.reduceToNat, Int.reducePow, Int.reduceAdd, Int.reduceSub, Int.reduceMul, Int.reduceNeg, Int.reduceLT, Int.reduceLE, Int.reduceEq, Int.reduceDiv, Int.reduceMod, Option.map_some, Option.map_none, cut1, rg1_eq, rb1_ok, rg2_eq, rb2_ok, bk_d0, bk_d1, bk_d2, bk_d3, bk_d4, bk_i0, bk_i1, bk_i2, bk_i3, e2]
theorem fi_3 (f3 : Sm) (d1 d2 : D) (it : D.iter (.str "LR") = some [d1, d2]) (s : Option Sl) (ρ : Mi.Env) (r : SR) (e : loopF (gNm 4) f3 [d1, d2] (s :: ρ) = r) : (sFor (iSeq (mC (.str "LR"))) (gNm 4) f3) (s :: ρ) = r := by
  simp (maxSteps := 20000000) (disch := (first | assumption | omega | (simp only [List.length_cons, List.length_nil, List.length_append, List.length_map, SZ]; done) | (simp only [List.length_cons, List.length_nil, List.length_append, List.length_map, SZ]; omega))) only [ev_seq, ev_seq_nx, ev_seq_rt, ev_seq_ex, ev_seq_bk, ev_seq_ct, ev_nil, ev_pass, ev_break, ev_cont, ev_retN, ev_ret, ev_drop, ev_set, ev_raise, ev_if, ev_par, ev_par3, ev_toS_ok, ev_toS_ex, ev_toS_no, ev_bind_ok, ev_bind_ex, ev_bind_no, ev_it, ev_if_f, ev_C, ev_var, ev_var1, ev_var2, ev_mov, ev_mov1, ev_mov2, ev_okV_e, ev_okV_v, ev_okO, ev_run_e, ev_run_v, ev_get_d, ev_get_i, ev_getO, ev_d_fz, ev_d_ow, ev_d_io, ev_op2, ev_get2, ev_g2, ev_op1, ev_get1, ev_g1, ev_mk, ev_mk0, ev_opN, ev_all_nil, ev_all_cons, ev_runO_nil, ev_runO_cons, ev_getN, ev_gN, ev_getL_nil, ev_getL_cons, ev_gL, ev_runE_nil, ev_runE_cons, ev_tup, ev_lst, ev_mIf, ev_and, ev_or, ev_not, ev_blR, ev_toT, ev_blT, ev_okI, ev_okB, ev_tru, ev_mkT, ev_obind, ev_tru_bl, ev_andT, ev_orT, ev_notT, ev_chain, ev_chR, ev_fn, ev_of_nx, ev_of_rt, ev_of_ex, ev_outs0, ev_outs1, ev_ioE_n, ev_ioE_f, ev_ioE_o, ev_ioE_i, ev_call, ev_callK, ev_callR, ev_args_nil, ev_args_cons, ev_argC, ev_arg_d, ev_arg_i, ev_argO_f, ev_argO_o, ev_argO_i, ev_apart_nil, ev_apart_d, ev_apart_i, ev_any_nil, ev_any_cons, ev_at_d, ev_at_i, ev_ofF_ret, ev_ofF_exc, ev_back0, ev_back1, ev_b1n, ev_b1f, ev_b1o, ev_b1i, ev_bkO0, ev_bkO1, ev_bkI0, ev_bkI1, ev_look0, ev_look_d, ev_look_i, ev_join, ev_head, ev_tail, ev_call1, ev_go_o, ev_go_f, ev_of1_r, ev_of1_e, op_add_i, op_sub_i, op_iadd_i, op_mul_i, op_fdiv_i, op_mod_i, op_pow8_i, op_powL_i, op_lt_i, op_le_i, op_gt_i, op_ge_i, op_neg_i, op_eq_i, op_ne_i, op_eq_s, op_ne_s, op_is_n, op_len_l, op_len_t, op_len_s, op_abs_i, op_max_i, op_min_i, op_int_i, op_int_b, op_divmod_i, op_tup_l, op_tup_t, op_list_l, op_list_t, op_rev_l, op_rev_t, op_own_o, op_own_i, op_setix, op_setR, op_stN, op_as_o, op_as_i, op_isS, op_mut, op_mutR, op_mutS, op_asg_seq, op_asg_seql, op_asg_cons, op_asg_nil, op_asg_nm, op_asg, op_asgR, ixN_1_0, ixN_1_m1, ixN_2_0, ixN_2_1, ixN_2_m1, ixN_3_0, ixN_3_1, ixN_3_2, ixN_3_m1, ixN_4_0, ixN_4_1, ixN_4_2, ixN_4_3, ixN_4_m1, ixN_5_0, ixN_5_1, ixN_5_2, ixN_5_3, ixN_5_4, ixN_5_m1, ixN_6_0, ixN_6_1, ixN_6_2, ixN_6_3, ixN_6_4, ixN_6_5, ixN_6_m1, ixN_7_0, ixN_7_1, ixN_7_2, ixN_7_3, ixN_7_4, ixN_7_5, ixN_7_6, ixN_7_m1, ixN_8_0, ixN_8_1, ixN_8_2, ixN_8_3, ixN_8_4, ixN_8_5, ixN_8_6, ixN_8_7, ixN_8_m1, ixN_9_0, ixN_9_1, ixN_9_2, ixN_9_3, ixN_9_4, ixN_9_5, ixN_9_6, ixN_9_7, ixN_9_8, ixN_9_m1, ixN_10_0, ixN_10_1, ixN_10_2, ixN_10_3, ixN_10_4, ixN_10_5, ixN_10_6, ixN_10_7, ixN_10_8, ixN_10_9, ixN_10_m1, ixN_11_0, ixN_11_1, ixN_11_2, ixN_11_3, ixN_11_4, ixN_11_5, ixN_11_6, ixN_11_7, ixN_11_8, ixN_11_9, ixN_11_10, ixN_11_m1, ixN_12_0, ixN_12_1, ixN_12_2, ixN_12_3, ixN_12_4, ixN_12_5, ixN_12_6, ixN_12_7, ixN_12_8, ixN_12_9, ixN_12_10, ixN_12_11, ixN_12_m1, ixN_13_0, ixN_13_1, ixN_13_2, ixN_13_3, ixN_13_4, ixN_13_5, ixN_13_6, ixN_13_7, ixN_13_8, ixN_13_9, ixN_13_10, ixN_13_11, ixN_13_12, ixN_13_m1, ixN_14_0, ixN_14_1, ixN_14_2, ixN_14_3, ixN_14_4, ixN_14_5, ixN_14_6, ixN_14_7, ixN_14_8, ixN_14_9, ixN_14_10, ixN_14_11, ixN_14_12, ixN_14_13, ixN_14_m1, ixN_15_0, ixN_15_1, ixN_15_2, ixN_15_3, ixN_15_4, ixN_15_5, ixN_15_6, ixN_15_7, ixN_15_8, ixN_15_9, ixN_15_10, ixN_15_11, ixN_15_12, ixN_15_13, ixN_15_14, ixN_15_m1, ix_l0, ix_t0, ix_l1, ix_t1, ix_l2, ix_t2, ix_l3, ix_t3, ix_l4, ix_t4, ix_l5, ix_t5, ix_l6, ix_t6, ix_l7, ix_t7, ix_l8, ix_t8, ix_l9, ix_t9, ix_l10, ix_t10, ix_l11, ix_t11, ix_l12, ix_t12, ix_l13, ix_t13, ev_for, ev_iSeq, ev_mkI, ev_iter_l, ev_iter_t, ev_iter_s, ev_turn_nx, ev_turn_ct, ev_turn_bk, ev_turn_rt, ev_turn_ex, ev_loop0, ev_forR, ev_enum, ev_enumI, ev_zip, ev_wipe0, ev_wipe1, ev_un0, ev_un1, ev_unO_f, ev_unO_n, ev_comp, ev_lc0, ev_lcR0, ev_turnC, ev_tcR, ev_yes, ev_tryAs, ev_tryS_ex, ev_tryS_nx, ev_tryS_rt, ev_tryR, ev_gone_nx, ev_gone_rt, ev_nest, ev_isE, ev_sl, ev_part0, ev_part1, ev_partR, ev_sl_t, ev_sl_l, ev_cast0, ev_cast1, ev_cast2, ev_cast3, ev_cast4, ev_cast5, ev_cast6, ev_cast7, ev_cast8, ev_cast9, ev_cast10, ev_cast11, ev_cast12, ev_cast13, ev_cast14, ev_cast15, ev_cast16, ev_cast17, ev_cast18, ev_cast19, ev_cast20, ev_isi_tt, ev_isi_ti, ev_is_t, ev_isnot_t, ev_isnot_n, ev_zip_tt, ev_zip_ll, op_eqs, op_nes, ev_aug, ev_augR, ev_augS, ev_try, ev_tryT_ex, ev_tryT_nx, ev_tryT_rt, ev_tryT_bk, ev_tryT_ct, ev_tryU, ev_tryU0, ev_cold_nx, ev_cold_rt, back_eq, wipe_eq, unwipe_eq, List.getElem?_cons_zero, List.getElem?_cons_succ, List.set_cons_zero, List.set_cons_succ, Bool.and_true, Bool.true_and, Bool.or_true, Bool.true_or, Bool.or_false, Bool.false_or, Bool.and_false, Bool.false_and, Bool.not_true, Bool.not_false, List.length_cons, List.length_nil, List.map_cons, List.map_nil, List.replicate_succ, List.replicate_zero, List.cons_append, List.nil_append, if_true, if_false, Nat.reduceAdd, Nat.reduceEqDiff, beq_self_eq_true, reduceIte, Nat.zero_add, eq_self, SZ, List.contains_cons, List.contains_nil, Nat.reduceBEq, Nat.reduceLT, Nat.reduceLeDiff, Int.reduceToNat, Int.reducePow, Int.reduceAdd, Int.reduceSub, Int.reduceMul, Int.reduceNeg, Int.reduceLT, Int.reduceLE, Int.reduceEq, Int.reduceDiv, Int.reduceMod, Option.map_some, Option.map_none, cut1, rg1_eq, rb1_ok, rg2_eq, rb2_ok, bk_d0, bk_d1, bk_d2, bk_d3, bk_d4, bk_i0, bk_i1, bk_i2, bk_i3, it, e]
theorem lr_e (sd : List D) (n : Nat) (hn : n ≤ 1000) (l1 : sd.length = n) (x0 x2 x3 x4 x5 x6 x7 x8 : Option Sl) : mLR (mC (.int 1)) (mOp2 addD (.e (mOpN lenD [(.v 1)])) (.e (mC (.int 1)))) [x0, some (.fz (.lst sd)), x2, x3, x4, x5, x6, x7, x8] = .ok (.ow (rangeL 1 n)) [x0, some (.fz (.lst sd)), x2, x3, x4, x5, x6, x7, x8] := by
  have e1 : runE [mC (.int 1), mOp2 addD (.e (mOpN lenD [(.v 1)])) (.e (mC (.int 1)))] [x0, some (.fz (.lst sd)), x2, x3, x4, x5, x6, x7, x8] = .ok [.int 1, .int ((n : Int) + 1)] [x0, some (.fz (.lst sd)), x2, x3, x4, x5, x6, x7, x8] := by
    simp (maxSteps := 20000000) (disch := (first | assumption | omega | (simp only [List.length_cons, List.length_nil, List.length_append, List.length_map, SZ]; done) | (simp only [List.length_cons, List.length_nil, List.length_append, List.length_map, SZ]; omega))) only [ev_seq, ev_seq_nx, ev_seq_rt, ev_seq_ex, ev_seq_bk, ev_seq_ct, ev_nil, ev_pass, ev_break, ev_cont, ev_retN, ev_ret, ev_drop, ev_set, ev_raise, ev_if, ev_par, ev_par3, ev_toS_ok, ev_toS_ex, ev_toS_no, ev_bind_ok, ev_bind_ex, ev_bind_no, ev_it, ev_if_f, ev_C, ev_var, ev_var1, ev_var2, ev_mov, ev_mov1, ev_mov2, ev_okV_e, ev_okV_v, ev_okO, ev_run_e, ev_run_v, ev_get_d, ev_get_i, ev_getO, ev_d_fz, ev_d_ow, ev_d_io, ev_op2, ev_get2, ev_g2, ev_op1, ev_get1, ev_g1, ev_mk, ev_mk0, ev_opN, ev_all_nil, ev_all_cons, ev_runO_nil, ev_runO_cons, ev_getN, ev_gN, ev_getL_nil, ev_getL_cons, ev_gL, ev_runE_nil, ev_runE_cons, ev_tup, ev_lst, ev_mIf, ev_and, ev_or, ev_not, ev_blR, ev_toT, ev_blT, ev_okI, ev_okB, ev_tru, ev_mkT, ev_obind, ev_tru_bl, ev_andT, ev_orT, ev_notT, ev_chain, ev_chR, ev_fn, ev_of_nx, ev_of_rt, ev_of_ex, ev_outs0, ev_outs1, ev_ioE_n, ev_ioE_f, ev_ioE_o, ev_ioE_i, ev_call, ev_callK, ev_callR, ev_args_nil, ev_args_cons, ev_argC, ev_arg_d, ev_arg_i, ev_argO_f, ev_argO_o, ev_argO_i, ev_apart_nil, ev_apart_d, ev_apart_i, ev_any_nil, ev_any_cons, ev_at_d, ev_at_i, ev_ofF_ret, ev_ofF_exc, ev_back0, ev_back1, ev_b1n, ev_b1f, ev_b1o, ev_b1i, ev_bkO0, ev_bkO1, ev_bkI0, ev_bkI1, ev_look0, ev_look_d, ev_look_i, ev_join, ev_head, ev_tail, ev_call1, ev_go_o, ev_go_f, ev_of1_r, ev_of1_e, op_add_i, op_sub_i, op_iadd_i, op_mul_i, op_fdiv_i, op_mod_i, op_pow8_i, op_powL_i, op_lt_i, op_le_i, op_gt_i, op_ge_i, op_neg_i, op_eq_i, op_ne_i, op_eq_s, op_ne_s, op_is_n, op_len_l, op_len_t, op_len_s, op_abs_i, op_max_i, op_min_i, op_int_i, op_int_b, op_divmod_i, op_tup_l, op_tup_t, op_list_l, op_list_t, op_rev_l, op_rev_t, op_own_o, op_own_i, op_setix, op_setR, op_stN, op_as_o, op_as_i, op_isS, op_mut, op_mutR, op_mutS, op_asg_seq, op_asg_seql, op_asg_cons, op_asg_nil, op_asg_nm, op_asg, op_asgR, ixN_1_0, ixN_1_m1, ixN_2_0, ixN_2_1, ixN_2_m1, ixN_3_0, ixN_3_1, ixN_3_2, ixN_3_m1, ixN_4_0, ixN_4_1, ixN_4_2, ixN_4_3, ixN_4_m1, ixN_5_0, ixN_5_1, ixN_5_2, ixN_5_3, ixN_5_4, ixN_5_m1, ixN_6_0, ixN_6_1, ixN_6_2, ixN_6_3, ixN_6_4, ixN_6_5, ixN_6_m1, ixN_7_0, ixN_7_1, ixN_7_2, ixN_7_3, ixN_7_4, ixN_7_5, ixN_7_6, ixN_7_m1, ixN_8_0, ixN_8_1, ixN_8_2, ixN_8_3, ixN_8_4, ixN_8_5, ixN_8_6, ixN_8_7, ixN_8_m1, ixN_9_0, ixN_9_1, ixN_9_2, ixN_9_3, ixN_9_4, ixN_9_5, ixN_9_6, ixN_9_7, ixN_9_8, ixN_9_m1, ixN_10_0, ixN_10_1, ixN_10_2, ixN_10_3, ixN_10_4, ixN_10_5, ixN_10_6, ixN_10_7, ixN_10_8, ixN_10_9, ixN_10_m1, ixN_11_0, ixN_11_1, ixN_11_2, ixN_11_3, ixN_11_4, ixN_11_5, ixN_11_6, ixN_11_7, ixN_11_8, ixN_11_9, ixN_11_10, ixN_11_m1, ixN_12_0, ixN_12_1, ixN_12_2, ixN_12_3, ixN_12_4, ixN_12_5, ixN_12_6, ixN_12_7, ixN_12_8, ixN_12_9, ixN_12_10, ixN_12_11, ixN_12_m1, ixN_13_0, ixN_13_1, ixN_13_2, ixN_13_3, ixN_13_4, ixN_13_5, ixN_13_6, ixN_13_7, ixN_13_8, ixN_13_9, ixN_13_10, ixN_13_11, ixN_13_12, ixN_13_m1, ixN_14_0, ixN_14_1, ixN_14_2, ixN_14_3, ixN_14_4, ixN_14_5, ixN_14_6, ixN_14_7, ixN_14_8, ixN_14_9, ixN_14_10, ixN_14_11, ixN_14_12, ixN_14_13, ixN_14_m1, ixN_15_0, ixN_15_1, ixN_15_2, ixN_15_3, ixN_15_4, ixN_15_5, ixN_15_6, ixN_15_7, ixN_15_8, ixN_15_9, ixN_15_10, ixN_15_11, ixN_15_12, ixN_15_13, ixN_15_14, ixN_15_m1, ix_l0, ix_t0, ix_l1, ix_t1, ix_l2, ix_t2, ix_l3, ix_t3, ix_l4, ix_t4, ix_l5, ix_t5, ix_l6, ix_t6, ix_l7, ix_t7, ix_l8, ix_t8, ix_l9, ix_t9, ix_l10, ix_t10, ix_l11, ix_t11, ix_l12, ix_t12, ix_l13, ix_t13, ev_for, ev_iSeq, ev_mkI, ev_iter_l, ev_iter_t, ev_iter_s, ev_turn_nx, ev_turn_ct, ev_turn_bk, ev_turn_rt, ev_turn_ex, ev_loop0, ev_forR, ev_enum, ev_enumI, ev_zip, ev_wipe0, ev_wipe1, ev_un0, ev_un1, ev_unO_f, ev_unO_n, ev_comp, ev_lc0, ev_lcR0, ev_turnC, ev_tcR, ev_yes, ev_tryAs, ev_tryS_ex, ev_tryS_nx, ev_tryS_rt, ev_tryR, ev_gone_nx, ev_gone_rt, ev_nest, ev_isE, ev_sl, ev_part0, ev_part1, ev_partR, ev_sl_t, ev_sl_l, ev_cast0, ev_cast1, ev_cast2, ev_cast3, ev_cast4, ev_cast5, ev_cast6, ev_cast7, ev_cast8, ev_cast9, ev_cast10, ev_cast11, ev_cast12, ev_cast13, ev_cast14, ev_cast15, ev_cast16, ev_cast17, ev_cast18, ev_cast19, ev_cast20, ev_isi_tt, ev_isi_ti, ev_is_t, ev_isnot_t, ev_isnot_n, ev_zip_tt, ev_zip_ll, op_eqs, op_nes, ev_aug, ev_augR, ev_augS, ev_try, ev_tryT_ex, ev_tryT_nx, ev_tryT_rt, ev_tryT_bk, ev_tryT_ct, ev_tryU, ev_tryU0, ev_cold_nx, ev_cold_rt, back_eq, wipe_eq, unwipe_eq, List.getElem?_cons_zero, List.getElem?_cons_succ, List.set_cons_zero, List.set_cons_succ, Bool.and_true, Bool.true_and, Bool.or_true, Bool.true_or, Bool.or_false, Bool.false_or, Bool.and_false, Bool.false_and, Bool.not_true, Bool.not_false, List.length_cons, List.length_nil, List.map_cons, List.map_nil, List.replicate_succ, List.replicate_zero, List.cons_append, List.nil_append, if_true, if_false, Nat.reduceAdd, Nat.reduceEqDiff, beq_self_eq_true, reduceIte, Nat.zero_add, eq_self, SZ, List.contains_cons, List.contains_nil, Nat.reduceBEq, Nat.reduceLT, Nat.reduceLeDiff, Int.reduceToNat, Int.reducePow, Int.reduceAdd, Int.reduceSub, Int.reduceMul, Int.reduceNeg, Int.reduceLT, Int.reduceLE, Int.reduceEq, Int.reduceDiv, Int.reduceMod, Option.map_some, Option.map_none, cut1, rg1_eq, rb1_ok, rg2_eq, rb2_ok, bk_d0, bk_d1, bk_d2, bk_d3, bk_d4, bk_i0, bk_i1, bk_i2, bk_i3, l1]
  have e2 : ((n : Int) + 1 - 1).toNat = n := by omega
  rw [ev_lr, e1, lr_ok (by omega) (by omega) (by omega) (by omega) (by omega), e2]
theorem g1 (eq : Op2) (so : OpN) (lr : Ex) (pd rd : List D) (x0 x1 x2 x4 x5 x6 x7 x8 : Option Sl) (k : lr [x0, x1, x2, some (.ow pd), x4, x5, x6, x7, x8] = .ok (.ow rd) [x0, x1, x2, some (.ow pd), x4, x5, x6, x7, x8]) (e6 : so [.lst pd] = some (.ow rd)) (e7 : eq (.lst rd) (.lst rd) = some (.fz (.bl true))) :
    (sSeq (sRet (mOp2 eq (.e (mOpN so [(.v 3)])) (.e lr))) sNil) [x0, x1, x2, some (.ow pd), x4, x5, x6, x7, x8] = .rt (.fz (.bl true)) [x0, x1, x2, some (.ow pd), x4, x5, x6, x7, x8] := by
  simp (maxSteps := 20000000) (disch := (first | assumption | omega | (simp only [List.length_cons, List.length_nil, List.length_append, List.length_map, SZ]; done) | (simp only [List.length_cons, List.length_nil, List.length_append, List.length_map, SZ]; omega))) only [ev_seq, ev_seq_nx, ev_seq_rt, ev_seq_ex, ev_seq_bk, ev_seq_ct, ev_nil, ev_pass, ev_break, ev_cont, ev_retN, ev_ret, ev_drop, ev_set, ev_raise, ev_if, ev_par, ev_par3, ev_toS_ok, ev_toS_ex, ev_toS_no, ev_bind_ok, ev_bind_ex, ev_bind_no, ev_it, ev_if_f, ev_C, ev_var, ev_var1, ev_var2, ev_mov, ev_mov1, ev_mov2, ev_okV_e, ev_okV_v, ev_okO, ev_run_e, ev_run_v, ev_get_d, ev_get_i, ev_getO, ev_d_fz, ev_d_ow, ev_d_io, ev_op2, ev_get2, ev_g2, ev_op1, ev_get1, ev_g1, ev_mk, ev_mk0, ev_opN, ev_all_nil, ev_all_cons, ev_runO_nil, ev_runO_cons, ev_getN, ev_gN, ev_getL_nil, ev_getL_cons, ev_gL, ev_runE_nil, ev_runE_cons, ev_tup, ev_lst, ev_mIf, ev_and, ev_or, ev_not, ev_blR, ev_toT, ev_blT, ev_okI, ev_okB, ev_tru, ev_mkT, ev_obind, ev_tru_bl, ev_andT, ev_orT, ev_notT, ev_chain, ev_chR, ev_fn, ev_of_nx, ev_of_rt, ev_of_ex, ev_outs0, ev_outs1, ev_ioE_n, ev_ioE_f, ev_ioE_o, ev_ioE_i, ev_call, ev_callK, ev_callR, ev_args_nil, ev_args_cons, ev_argC, ev_arg_d, ev_arg_i, ev_argO_f, ev_argO_o, ev_argO_i, ev_apart_nil, ev_apart_d, ev_apart_i, ev_any_nil, ev_any_cons, ev_at_d, ev_at_i, ev_ofF_ret, ev_ofF_exc, ev_back0, ev_back1, ev_b1n, ev_b1f, ev_b1o, ev_b1i, ev_bkO0, ev_bkO1, ev_bkI0, ev_bkI1, ev_look0, ev_look_d, ev_look_i, ev_join, ev_head, ev_tail, ev_call1, ev_go_o, ev_go_f, ev_of1_r, ev_of1_e, op_add_i, op_sub_i, op_iadd_i, op_mul_i, op_fdiv_i, op_mod_i, op_pow8_i, op_powL_i, op_lt_i, op_le_i, op_gt_i, op_ge_i, op_neg_i, op_eq_i, op_ne_i, op_eq_s, op_ne_s, op_is_n, op_len_l, op_len_t, op_len_s, op_abs_i, op_max_i, op_min_i, op_int_i, op_int_b, op_divmod_i, op_tup_l, op_tup_t, op_list_l, op_list_t, op_rev_l, op_rev_t, op_own_o, op_own_i, op_setix, op_setR, op_stN, op_as_o, op_as_i, op_isS, op_mut, op_mutR, op_mutS, op_asg_seq, op_asg_seql, op_asg_cons, op_asg_nil, op_asg_nm, op_asg, op_asgR, ixN_1_0, ixN_1_m1, ixN_2_0, ixN_2_1, ixN_2_m1, ixN_3_0, ixN_3_1, ixN_3_2, ixN_3_m1, ixN_4_0, ixN_4_1, ixN_4_2, ixN_4_3, ixN_4_m1, ixN_5_0, ixN_5_1, ixN_5_2, ixN_5_3, ixN_5_4, ixN_5_m1, ixN_6_0, ixN_6_1, ixN_6_2, ixN_6_3, ixN_6_4, ixN_6_5, ixN_6_m1, ixN_7_0, ixN_7_1, ixN_7_2, ixN_7_3, ixN_7_4, ixN_7_5, ixN_7_6, ixN_7_m1, ixN_8_0, ixN_8_1, ixN_8_2, ixN_8_3, ixN_8_4, ixN_8_5, ixN_8_6, ixN_8_7, ixN_8_m1, ixN_9_0, ixN_9_1, ixN_9_2, ixN_9_3, ixN_9_4, ixN_9_5, ixN_9_6, ixN_9_7, ixN_9_8, ixN_9_m1, ixN_10_0, ixN_10_1, ixN_10_2, ixN_10_3, ixN_10_4, ixN_10_5, ixN_10_6, ixN_10_7, ixN_10_8, ixN_10_9, ixN_10_m1, ixN_11_0, ixN_11_1, ixN_11_2, ixN_11_3, ixN_11_4, ixN_11_5, ixN_11_6, ixN_11_7, ixN_11_8, ixN_11_9, ixN_11_10, ixN_11_m1, ixN_12_0, ixN_12_1, ixN_12_2, ixN_12_3, ixN_12_4, ixN_12_5, ixN_12_6, ixN_12_7, ixN_12_8, ixN_12_9, ixN_12_10, ixN_12_11, ixN_12_m1, ixN_13_0, ixN_13_1, ixN_13_2, ixN_13_3, ixN_13_4, ixN_13_5, ixN_13_6, ixN_13_7, ixN_13_8, ixN_13_9, ixN_13_10, ixN_13_11, ixN_13_12, ixN_13_m1, ixN_14_0, ixN_14_1, ixN_14_2, ixN_14_3, ixN_14_4, ixN_14_5, ixN_14_6, ixN_14_7, ixN_14_8, ixN_14_9, ixN_14_10, ixN_14_11, ixN_14_12, ixN_14_13, ixN_14_m1, ixN_15_0, ixN_15_1, ixN_15_2, ixN_15_3, ixN_15_4, ixN_15_5, ixN_15_6, ixN_15_7, ixN_15_8, ixN_15_9, ixN_15_10, ixN_15_11, ixN_15_12, ixN_15_13, ixN_15_14, ixN_15_m1, ix_l0, ix_t0, ix_l1, ix_t1, ix_l2, ix_t2, ix_l3, ix_t3, ix_l4, ix_t4, ix_l5, ix_t5, ix_l6, ix_t6, ix_l7, ix_t7, ix_l8, ix_t8, ix_l9, ix_t9, ix_l10, ix_t10, ix_l11, ix_t11, ix_l12, ix_t12, ix_l13, ix_t13, ev_for, ev_iSeq, ev_mkI, ev_iter_l, ev_iter_t, ev_iter_s, ev_turn_nx, ev_turn_ct, ev_turn_bk, ev_turn_rt, ev_turn_ex, ev_loop0, ev_forR, ev_enum, ev_enumI, ev_zip, ev_wipe0, ev_wipe1, ev_un0, ev_un1, ev_unO_f, ev_unO_n, ev_comp, ev_lc0, ev_lcR0, ev_turnC, ev_tcR, ev_yes, ev_tryAs, ev_tryS_ex, ev_tryS_nx, ev_tryS_rt, ev_tryR, ev_gone_nx, ev_gone_rt, ev_nest, ev_isE, ev_sl, ev_part0, ev_part1, ev_partR, ev_sl_t, ev_sl_l, ev_cast0, ev_cast1, ev_cast2, ev_cast3, ev_cast4, ev_cast5, ev_cast6, ev_cast7, ev_cast8, ev_cast9, ev_cast10, ev_cast11, ev_cast12, ev_cast13, ev_cast14, ev_cast15, ev_cast16, ev_cast17, ev_cast18, ev_cast19, ev_cast20, ev_isi_tt, ev_isi_ti, ev_is_t, ev_isnot_t, ev_isnot_n, ev_zip_tt, ev_zip_ll, op_eqs, op_nes, ev_aug, ev_augR, ev_augS, ev_try, ev_tryT_ex, ev_tryT_nx, ev_tryT_rt, ev_tryT_bk, ev_tryT_ct, ev_tryU, ev_tryU0, ev_cold_nx, ev_cold_rt, back_eq, wipe_eq, unwipe_eq, List.getElem?_cons_zero, List.getElem?_cons_succ, List.set_cons_zero, List.set_cons_succ, Bool.and_true, Bool.true_and, Bool.or_true, Bool.true_or, Bool.or_false, Bool.false_or, Bool.and_false, Bool.false_and, Bool.not_true, Bool.not_false, List.length_cons, List.length_nil, List.map_cons, List.map_nil, List.replicate_succ, List.replicate_zero, List.cons_append, List.nil_append, if_true, if_false, Nat.reduceAdd, Nat.reduceEqDiff, beq_self_eq_true, reduceIte, Nat.zero_add, eq_self, SZ, List.contains_cons, List.contains_nil, Nat.reduceBEq, Nat.reduceLT, Nat.reduceLeDiff, Int.reduceToNat, Int.reducePow, Int.reduceAdd, Int.reduceSub, Int.reduceMul, Int.reduceNeg, Int.reduceLT, Int.reduceLE, Int.reduceEq, Int.reduceDiv, Int.reduceMod, Option.map_some, Option.map_none, cut1, rg1_eq, rb1_ok, rg2_eq, rb2_ok, bk_d0, bk_d1, bk_d2, bk_d3, bk_d4, bk_i0, bk_i1, bk_i2, bk_i3, k, e6, e7]
theorem fi_4 (sd pd rd : List D) (n : Nat) (hn : n ≤ 1000) (l1 : sd.length = n) (h : rangeL 1 n = rd) (x0 x2 x4 x5 x6 : Option Sl) (e6 : sortD [.lst pd] = some (.ow rd)) (e7 : eqD (.lst rd) (.lst rd) = some (.fz (.bl true))) :
    (sSeq (sRet (mOp2 eqD (.e (mOpN sortD [(.v 3)])) (.e (mLR (mC (.int 1)) (mOp2 addD (.e (mOpN lenD [(.v 1)])) (.e (mC (.int 1)))))))) sNil) [x0, some (.fz (.lst sd)), x2, some (.ow pd), x4, x5, x6, none, none] = .rt (.fz (.bl true)) [x0, some (.fz (.lst sd)), x2, some (.ow pd), x4, x5, x6, none, none] := by
  subst h
  exact g1 eqD sortD _ pd _ _ _ _ _ _ _ _ _ (lr_e sd n hn l1 x0 x2 (some (.ow pd)) x4 x5 x6 none none) e6 e7
theorem small_side (s : List Bool) (hs : s ≠ []) (hs2 : s.length ≤ 14) (q : Bool) (kk : Mi.Env → SR) (x0 x4 x5 x6 : Option Sl) (fd : List Int) (hf : fd.length ≤ 100) (s3 : Sl) (h3 : s3 = .ow (fd.map .int) ∨ s3 = .fz (.lst (fd.map .int))) :
    ∃ z5 z6, forR L_law_small_right_2 kk (gNm 4 (.str (sideS q)) [x0, some (.fz (.lst (s.map sdD))), some (.fz (.tup ((pk s).map runD))), some s3, x4, x5, x6, none, none]) = kk [x0, some (.fz (.lst (s.map sdD))), some (.fz (.tup ((pk s).map runD))), some (.ow ((fd ++ spQ q 0 s).map .int)), some (.fz (.str (sideS q))), z5, z6, none, none] := by
  have hL := spQ_len q s 0
  have hc : s.count q ≤ s.length := List.count_le_length
  have e1 := cnt_sds s q
  have e2 := pl_loop s hs (by omega) q x0 (some (.fz (.lst (s.map sdD)))) (some s3) (some (.fz (.int (s.count q : Nat)))) x6 none (s.count q + 2) 0 [] (by simp; omega)
  rw [List.nil_append, ← hL, all_D, hL, show ((0 : Nat) : Int) = 0 from rfl] at e2
  have e3 := spq_loop s q x0 (some (.fz (.tup ((pk s).map runD)))) (some s3) (some (.fz (.int (s.count q : Nat)))) (some (.ow ((spQ q 0 s).map D.int ++ [.non, .non]))) none s 0 [] rfl (by simp; omega)
  rw [List.nil_append, show ((0 : Nat) : Int) = 0 from rfl] at e3
  have e4 : addD (.lst ((spQ q 0 s).map D.int)) (.lst [.non, .non]) = some (.ow ((spQ q 0 s).map D.int ++ [.non, .non])) := op_add_l (by rw [List.length_map, hL]; simp only [List.length_cons, List.length_nil, SZ]; omega)
  have e5 : neD (.lst ((spQ q 0 s).map D.int ++ [.non, .non])) (.lst ((spQ q 0 s).map D.int ++ [.non, .non])) = some (.fz (.bl false)) := by
    have h := ne_opts ((spQ q 0 s).map some ++ [none, none])
    rw [List.map_append, List.map_map] at h
    exact h
  have e6 : cutG ((spQ q 0 s).map D.int ++ [.non, .non]) none (some ((s.count q : Nat) : Int)) = (spQ q 0 s).map D.int := by
    have h := cut_front ((spQ q 0 s).map D.int) [.non, .non]
    rw [List.length_map, hL] at h
    exact h
  have e7 : addD (.lst (fd.map .int)) (.lst ((spQ q 0 s).map D.int)) = some (.ow ((fd ++ spQ q 0 s).map .int)) := by
    rw [List.map_append]
    exact op_add_l (by rw [List.length_map, List.length_map, hL]; unfold SZ; omega)
  have l1 : (s.map sdD).length = s.length := List.length_map _
  have l2 : ((s.count q : Nat) : Int) + 2 = ((s.count q + 2 : Nat) : Int) := by omega
  refine ⟨some (.fz (.int (s.count q : Nat))), some (.ow ((spQ q 0 s).map D.int ++ [.non, .non])), ?_⟩
  exact ch_for L_law_small_right_2 kk _ _ _ _ _ _ _ _ _ _ _ (ch_seq _ _ _ _ _ _ (ss_1 _ _ _ _ _ _ _ _ e1) (ch_seq _ _ _ _ _ _ (ss_2 E_law_small_right_0 _ (by omega) _ _ rfl _ _ _ _ _ _ e2)
    (ch_seq _ _ _ _ _ _ (ss_3 E_law_small_right_1 _ _ _ _ (by rw [List.length_map]; omega) (by rw [List.length_map]) _ _ _ _ _ e3 e4 e5) (ch_end _ _ _ _ _ (ss_4 _ _ _ _ _ s3 h3 _ _ _ _ e6 e7)))))
theorem small_ok (a b c n : Int) (s : Src a b c n) (hn : n < 100000) :
    ∃ a' c' : Int, F_law_small_right [.io [.int a, .int b, .int c]] = .ret (.fz (.bl true)) [some (.io [.int a', .int b, .int c'])] ∧ Src a' b c' (n + 100) := by
  obtain ⟨a1, c1, ss, e1, h1, h2, s1⟩ := sides_ok a b c n s hn
  have hne : ss ≠ [] := by
    intro z
    rw [z] at h1
    simp at h1
  have e2 := packed_ok ss (by omega)
  have hL := spQ_len true ss 0
  have hc : ss.count true ≤ ss.length := List.count_le_length
  obtain ⟨y5, y6, e3⟩ := small_side ss hne h2 true (loopF (gNm 4) L_law_small_right_2 [.str (sideS false)]) (some (.io [.int a1, .int b, .int c1])) none none none [] (by simp) (.fz (.lst [])) (.inr rfl)
  obtain ⟨w5, w6, e4⟩ := small_side ss hne h2 false (loopF (gNm 4) L_law_small_right_2 []) (some (.io [.int a1, .int b, .int c1])) (some (.fz (.str (sideS true)))) y5 y6 (spQ true 0 ss) (by omega) _ (.inl rfl)
  have e5 : loopF (gNm 4) L_law_small_right_2 [.str (sideS true), .str (sideS false)] [some (.io [.int a1, .int b, .int c1]), some (.fz (.lst (ss.map sdD))), some (.fz (.tup ((pk ss).map runD))), some (.fz (.lst [])), none, none, none, none, none] = .nx [some (.io [.int a1, .int b, .int c1]), some (.fz (.lst (ss.map sdD))), some (.fz (.tup ((pk ss).map runD))), some (.ow ((spQ true 0 ss ++ spQ false 0 ss).map .int)), some (.fz (.str (sideS false))), w5, w6, none, none] := by
    rw [loop_cons, e3, List.nil_append, loop_cons, e4]
    rfl
  have e6 := sort_ints (spQ true 0 ss ++ spQ false 0 ss)
  rw [sort_sp] at e6
  have e7 := eqD_ints (rngI 1 ss.length)
  have e8 := rngI_L ss.length 1
  have l1 : (ss.map sdD).length = ss.length := List.length_map _
  have l2 : ((ss.length : Int) + 1 - 1).toNat = ss.length := by omega
  have it := it_LR
  refine ⟨a1, c1, ?_, s1⟩
  have k1 : (sSet 1 (mCall F_law_sides [(.v 0), (.e (mC (.int 14)))])) [some (.io [.int a, .int b, .int c]), none, none, none, none, none, none, none, none] = .nx [some (.io [.int a1, .int b, .int c1]), some (.ow (ss.map sdD)), none, none, none, none, none, none, none] := by
    revert e1
    generalize F_law_sides = f1
    generalize ss.map sdD = sd
    intro e1
    simp (maxSteps := 20000000) (disch := (first | assumption | omega | (simp only [List.length_cons, List.length_nil, List.length_append, List.length_map, SZ]; done) | (simp only [List.length_cons, List.length_nil, List.length_append, List.length_map, SZ]; omega))) only [ev_seq, ev_seq_nx, ev_seq_rt, ev_seq_ex, ev_seq_bk, ev_seq_ct, ev_nil, ev_pass, ev_break, ev_cont, ev_retN, ev_ret, ev_drop, ev_set, ev_raise, ev_if, ev_par, ev_par3, ev_toS_ok, ev_toS_ex, ev_toS_no, ev_bind_ok, ev_bind_ex, ev_bind_no, ev_it, ev_if_f, ev_C, ev_var, ev_var1, ev_var2, ev_mov, ev_mov1, ev_mov2, ev_okV_e, ev_okV_v, ev_okO, ev_run_e, ev_run_v, ev_get_d, ev_get_i, ev_getO, ev_d_fz, ev_d_ow, ev_d_io, ev_op2, ev_get2, ev_g2, ev_op1, ev_get1, ev_g1, ev_mk, ev_mk0, ev_opN, ev_all_nil, ev_all_cons, ev_runO_nil, ev_runO_cons, ev_getN, ev_gN, ev_getL_nil, ev_getL_cons, ev_gL, ev_runE_nil, ev_runE_cons, ev_tup, ev_lst, ev_mIf, ev_and, ev_or, ev_not, ev_blR, ev_toT, ev_blT, ev_okI, ev_okB, ev_tru, ev_mkT, ev_obind, ev_tru_bl, ev_andT, ev_orT, ev_notT, ev_chain, ev_chR, ev_fn, ev_of_nx, ev_of_rt, ev_of_ex, ev_outs0, ev_outs1, ev_ioE_n, ev_ioE_f, ev_ioE_o, ev_ioE_i, ev_call, ev_callK, ev_callR, ev_args_nil, ev_args_cons, ev_argC, ev_arg_d, ev_arg_i, ev_argO_f, ev_argO_o, ev_argO_i, ev_apart_nil, ev_apart_d, ev_apart_i, ev_any_nil, ev_any_cons, ev_at_d, ev_at_i, ev_ofF_ret, ev_ofF_exc, ev_back0, ev_back1, ev_b1n, ev_b1f, ev_b1o, ev_b1i, ev_bkO0, ev_bkO1, ev_bkI0, ev_bkI1, ev_look0, ev_look_d, ev_look_i, ev_join, ev_head, ev_tail, ev_call1, ev_go_o, ev_go_f, ev_of1_r, ev_of1_e, op_add_i, op_sub_i, op_iadd_i, op_mul_i, op_fdiv_i, op_mod_i, op_pow8_i, op_powL_i, op_lt_i, op_le_i, op_gt_i, op_ge_i, op_neg_i, op_eq_i, op_ne_i, op_eq_s, op_ne_s, op_is_n, op_len_l, op_len_t, op_len_s, op_abs_i, op_max_i, op_min_i, op_int_i, op_int_b, op_divmod_i, op_tup_l, op_tup_t, op_list_l, op_list_t, op_rev_l, op_rev_t, op_own_o, op_own_i, op_setix, op_setR, op_stN, op_as_o, op_as_i, op_isS, op_mut, op_mutR, op_mutS, op_asg_seq, op_asg_seql, op_asg_cons, op_asg_nil, op_asg_nm, op_asg, op_asgR, ixN_1_0, ixN_1_m1, ixN_2_0, ixN_2_1, ixN_2_m1, ixN_3_0, ixN_3_1, ixN_3_2, ixN_3_m1, ixN_4_0, ixN_4_1, ixN_4_2, ixN_4_3, ixN_4_m1, ixN_5_0, ixN_5_1, ixN_5_2, ixN_5_3, ixN_5_4, ixN_5_m1, ixN_6_0, ixN_6_1, ixN_6_2, ixN_6_3, ixN_6_4, ixN_6_5, ixN_6_m1, ixN_7_0, ixN_7_1, ixN_7_2, ixN_7_3, ixN_7_4, ixN_7_5, ixN_7_6, ixN_7_m1, ixN_8_0, ixN_8_1, ixN_8_2, ixN_8_3, ixN_8_4, ixN_8_5, ixN_8_6, ixN_8_7, ixN_8_m1, ixN_9_0, ixN_9_1, ixN_9_2, ixN_9_3, ixN_9_4, ixN_9_5, ixN_9_6, ixN_9_7, ixN_9_8, ixN_9_m1, ixN_10_0, ixN_10_1, ixN_10_2, ixN_10_3, ixN_10_4, ixN_10_5, ixN_10_6, ixN_10_7, ixN_10_8, ixN_10_9, ixN_10_m1, ixN_11_0, ixN_11_1, ixN_11_2, ixN_11_3, ixN_11_4, ixN_11_5, ixN_11_6, ixN_11_7, ixN_11_8, ixN_11_9, ixN_11_10, ixN_11_m1, ixN_12_0, ixN_12_1, ixN_12_2, ixN_12_3, ixN_12_4, ixN_12_5, ixN_12_6, ixN_12_7, ixN_12_8, ixN_12_9, ixN_12_10, ixN_12_11, ixN_12_m1, ixN_13_0, ixN_13_1, ixN_13_2, ixN_13_3, ixN_13_4, ixN_13_5, ixN_13_6, ixN_13_7, ixN_13_8, ixN_13_9, ixN_13_10, ixN_13_11, ixN_13_12, ixN_13_m1, ixN_14_0, ixN_14_1, ixN_14_2, ixN_14_3, ixN_14_4, ixN_14_5, ixN_14_6, ixN_14_7, ixN_14_8, ixN_14_9, ixN_14_10, ixN_14_11, ixN_14_12, ixN_14_13, ixN_14_m1, ixN_15_0, ixN_15_1, ixN_15_2, ixN_15_3, ixN_15_4, ixN_15_5, ixN_15_6, ixN_15_7, ixN_15_8, ixN_15_9, ixN_15_10, ixN_15_11, ixN_15_12, ixN_15_13, ixN_15_14, ixN_15_m1, ix_l0, ix_t0, ix_l1, ix_t1, ix_l2, ix_t2, ix_l3, ix_t3, ix_l4, ix_t4, ix_l5, ix_t5, ix_l6, ix_t6, ix_l7, ix_t7, ix_l8, ix_t8, ix_l9, ix_t9, ix_l10, ix_t10, ix_l11, ix_t11, ix_l12, ix_t12, ix_l13, ix_t13, ev_for, ev_iSeq, ev_mkI, ev_iter_l, ev_iter_t, ev_iter_s, ev_turn_nx, ev_turn_ct, ev_turn_bk, ev_turn_rt, ev_turn_ex, ev_loop0, ev_forR, ev_enum, ev_enumI, ev_zip, ev_wipe0, ev_wipe1, ev_un0, ev_un1, ev_unO_f, ev_unO_n, ev_comp, ev_lc0, ev_lcR0, ev_turnC, ev_tcR, ev_yes, ev_tryAs, ev_tryS_ex, ev_tryS_nx, ev_tryS_rt, ev_tryR, ev_gone_nx, ev_gone_rt, ev_nest, ev_isE, ev_sl, ev_part0, ev_part1, ev_partR, ev_sl_t, ev_sl_l, ev_cast0, ev_cast1, ev_cast2, ev_cast3, ev_cast4, ev_cast5, ev_cast6, ev_cast7, ev_cast8, ev_cast9, ev_cast10, ev_cast11, ev_cast12, ev_cast13, ev_cast14, ev_cast15, ev_cast16, ev_cast17, ev_cast18, ev_cast19, ev_cast20, ev_isi_tt, ev_isi_ti, ev_is_t, ev_isnot_t, ev_isnot_n, ev_zip_tt, ev_zip_ll, op_eqs, op_nes, ev_aug, ev_augR, ev_augS, ev_try, ev_tryT_ex, ev_tryT_nx, ev_tryT_rt, ev_tryT_bk, ev_tryT_ct, ev_tryU, ev_tryU0, ev_cold_nx, ev_cold_rt, back_eq, wipe_eq, unwipe_eq, List.getElem?_cons_zero, List.getElem?_cons_succ, List.set_cons_zero, List.set_cons_succ, Bool.and_true, Bool.true_and, Bool.or_true, Bool.true_or, Bool.or_false, Bool.false_or, Bool.and_false, Bool.false_and, Bool.not_true, Bool.not_false, List.length_cons, List.length_nil, List.map_cons, List.map_nil, List.replicate_succ, List.replicate_zero, List.cons_append, List.nil_append, if_true, if_false, Nat.reduceAdd, Nat.reduceEqDiff, beq_self_eq_true, reduceIte, Nat.zero_add, eq_self, SZ, List.contains_cons, List.contains_nil, Nat.reduceBEq, Nat.reduceLT, Nat.reduceLeDiff, Int.reduceToNat, Int.reducePow, Int.reduceAdd, Int.reduceSub, Int.reduceMul, Int.reduceNeg, Int.reduceLT, Int.reduceLE, Int.reduceEq, Int.reduceDiv, Int.reduceMod, Option.map_some, Option.map_none, cut1, rg1_eq, rb1_ok, rg2_eq, rb2_ok, bk_d0, bk_d1, bk_d2, bk_d3, bk_d4, bk_i0, bk_i1, bk_i2, bk_i3, e1]
  have k2 : B_law_small_right [some (.io [.int a, .int b, .int c]), none, none, none, none, none, none, none, none] = .rt (.fz (.bl true)) [some (.io [.int a1, .int b, .int c1]), some (.fz (.lst (ss.map sdD))), some (.fz (.tup ((pk ss).map runD))), some (.ow ((spQ true 0 ss ++ spQ false 0 ss).map .int)), some (.fz (.str (sideS false))), w5, w6, none, none] :=
    ch_seq _ _ _ _ _ _ k1 (ch_seq _ _ _ _ _ _ (fi_2 F_law_packed _ _ _ none e2) (ch_seq _ _ _ _ _ _ (fi_3 L_law_small_right_2 _ _ it _ _ _ e5) (fi_4 _ _ _ _ (by omega) l1 e8 _ _ _ _ _ e6 e7)))
  unfold F_law_small_right
  revert k2
  generalize B_law_small_right = bb
  generalize ss.map sdD = sd
  generalize (spQ true 0 ss ++ spQ false 0 ss).map D.int = pd
  intro k2
  simp (maxSteps := 20000000) (disch := (first | assumption | omega | (simp only [List.length_cons, List.length_nil, List.length_append, List.length_map, SZ]; done) | (simp only [List.length_cons, List.length_nil, List.length_append, List.length_map, SZ]; omega))) only [ev_seq, ev_seq_nx, ev_seq_rt, ev_seq_ex, ev_seq_bk, ev_seq_ct, ev_nil, ev_pass, ev_break, ev_cont, ev_retN, ev_ret, ev_drop, ev_set, ev_raise, ev_if, ev_par, ev_par3, ev_toS_ok, ev_toS_ex, ev_toS_no, ev_bind_ok, ev_bind_ex, ev_bind_no, ev_it, ev_if_f, ev_C, ev_var, ev_var1, ev_var2, ev_mov, ev_mov1, ev_mov2, ev_okV_e, ev_okV_v, ev_okO, ev_run_e, ev_run_v, ev_get_d, ev_get_i, ev_getO, ev_d_fz, ev_d_ow, ev_d_io, ev_op2, ev_get2, ev_g2, ev_op1, ev_get1, ev_g1, ev_mk, ev_mk0, ev_opN, ev_all_nil, ev_all_cons, ev_runO_nil, ev_runO_cons, ev_getN, ev_gN, ev_getL_nil, ev_getL_cons, ev_gL, ev_runE_nil, ev_runE_cons, ev_tup, ev_lst, ev_mIf, ev_and, ev_or, ev_not, ev_blR, ev_toT, ev_blT, ev_okI, ev_okB, ev_tru, ev_mkT, ev_obind, ev_tru_bl, ev_andT, ev_orT, ev_notT, ev_chain, ev_chR, ev_fn, ev_of_nx, ev_of_rt, ev_of_ex, ev_outs0, ev_outs1, ev_ioE_n, ev_ioE_f, ev_ioE_o, ev_ioE_i, ev_call, ev_callK, ev_callR, ev_args_nil, ev_args_cons, ev_argC, ev_arg_d, ev_arg_i, ev_argO_f, ev_argO_o, ev_argO_i, ev_apart_nil, ev_apart_d, ev_apart_i, ev_any_nil, ev_any_cons, ev_at_d, ev_at_i, ev_ofF_ret, ev_ofF_exc, ev_back0, ev_back1, ev_b1n, ev_b1f, ev_b1o, ev_b1i, ev_bkO0, ev_bkO1, ev_bkI0, ev_bkI1, ev_look0, ev_look_d, ev_look_i, ev_join, ev_head, ev_tail, ev_call1, ev_go_o, ev_go_f, ev_of1_r, ev_of1_e, op_add_i, op_sub_i, op_iadd_i, op_mul_i, op_fdiv_i, op_mod_i, op_pow8_i, op_powL_i, op_lt_i, op_le_i, op_gt_i, op_ge_i, op_neg_i, op_eq_i, op_ne_i, op_eq_s, op_ne_s, op_is_n, op_len_l, op_len_t, op_len_s, op_abs_i, op_max_i, op_min_i, op_int_i, op_int_b, op_divmod_i, op_tup_l, op_tup_t, op_list_l, op_list_t, op_rev_l, op_rev_t, op_own_o, op_own_i, op_setix, op_setR, op_stN, op_as_o, op_as_i, op_isS, op_mut, op_mutR, op_mutS, op_asg_seq, op_asg_seql, op_asg_cons, op_asg_nil, op_asg_nm, op_asg, op_asgR, ixN_1_0, ixN_1_m1, ixN_2_0, ixN_2_1, ixN_2_m1, ixN_3_0, ixN_3_1, ixN_3_2, ixN_3_m1, ixN_4_0, ixN_4_1, ixN_4_2, ixN_4_3, ixN_4_m1, ixN_5_0, ixN_5_1, ixN_5_2, ixN_5_3, ixN_5_4, ixN_5_m1, ixN_6_0, ixN_6_1, ixN_6_2, ixN_6_3, ixN_6_4, ixN_6_5, ixN_6_m1, ixN_7_0, ixN_7_1, ixN_7_2, ixN_7_3, ixN_7_4, ixN_7_5, ixN_7_6, ixN_7_m1, ixN_8_0, ixN_8_1, ixN_8_2, ixN_8_3, ixN_8_4, ixN_8_5, ixN_8_6, ixN_8_7, ixN_8_m1, ixN_9_0, ixN_9_1, ixN_9_2, ixN_9_3, ixN_9_4, ixN_9_5, ixN_9_6, ixN_9_7, ixN_9_8, ixN_9_m1, ixN_10_0, ixN_10_1, ixN_10_2, ixN_10_3, ixN_10_4, ixN_10_5, ixN_10_6, ixN_10_7, ixN_10_8, ixN_10_9, ixN_10_m1, ixN_11_0, ixN_11_1, ixN_11_2, ixN_11_3, ixN_11_4, ixN_11_5, ixN_11_6, ixN_11_7, ixN_11_8, ixN_11_9, ixN_11_10, ixN_11_m1, ixN_12_0, ixN_12_1, ixN_12_2, ixN_12_3, ixN_12_4, ixN_12_5, ixN_12_6, ixN_12_7, ixN_12_8, ixN_12_9, ixN_12_10, ixN_12_11, ixN_12_m1, ixN_13_0, ixN_13_1, ixN_13_2, ixN_13_3, ixN_13_4, ixN_13_5, ixN_13_6, ixN_13_7, ixN_13_8, ixN_13_9, ixN_13_10, ixN_13_11, ixN_13_12, ixN_13_m1, ixN_14_0, ixN_14_1, ixN_14_2, ixN_14_3, ixN_14_4, ixN_14_5, ixN_14_6, ixN_14_7, ixN_14_8, ixN_14_9, ixN_14_10, ixN_14_11, ixN_14_12, ixN_14_13, ixN_14_m1, ixN_15_0, ixN_15_1, ixN_15_2, ixN_15_3, ixN_15_4, ixN_15_5, ixN_15_6, ixN_15_7, ixN_15_8, ixN_15_9, ixN_15_10, ixN_15_11, ixN_15_12, ixN_15_13, ixN_15_14, ixN_15_m1, ix_l0, ix_t0, ix_l1, ix_t1, ix_l2, ix_t2, ix_l3, ix_t3, ix_l4, ix_t4, ix_l5, ix_t5, ix_l6, ix_t6, ix_l7, ix_t7, ix_l8, ix_t8, ix_l9, ix_t9, ix_l10, ix_t10, ix_l11, ix_t11, ix_l12, ix_t12, ix_l13, ix_t13, ev_for, ev_iSeq, ev_mkI, ev_iter_l, ev_iter_t, ev_iter_s, ev_turn_nx, ev_turn_ct, ev_turn_bk, ev_turn_rt, ev_turn_ex, ev_loop0, ev_forR, ev_enum, ev_enumI, ev_zip, ev_wipe0, ev_wipe1, ev_un0, ev_un1, ev_unO_f, ev_unO_n, ev_comp, ev_lc0, ev_lcR0, ev_turnC, ev_tcR, ev_yes, ev_tryAs, ev_tryS_ex, ev_tryS_nx, ev_tryS_rt, ev_tryR, ev_gone_nx, ev_gone_rt, ev_nest, ev_isE, ev_sl, ev_part0, ev_part1, ev_partR, ev_sl_t, ev_sl_l, ev_cast0, ev_cast1, ev_cast2, ev_cast3, ev_cast4, ev_cast5, ev_cast6, ev_cast7, ev_cast8, ev_cast9, ev_cast10, ev_cast11, ev_cast12, ev_cast13, ev_cast14, ev_cast15, ev_cast16, ev_cast17, ev_cast18, ev_cast19, ev_cast20, ev_isi_tt, ev_isi_ti, ev_is_t, ev_isnot_t, ev_isnot_n, ev_zip_tt, ev_zip_ll, op_eqs, op_nes, ev_aug, ev_augR, ev_augS, ev_try, ev_tryT_ex, ev_tryT_nx, ev_tryT_rt, ev_tryT_bk, ev_tryT_ct, ev_tryU, ev_tryU0, ev_cold_nx, ev_cold_rt, back_eq, wipe_eq, unwipe_eq, List.getElem?_cons_zero, List.getElem?_cons_succ, List.set_cons_zero, List.set_cons_succ, Bool.and_true, Bool.true_and, Bool.or_true, Bool.true_or, Bool.or_false, Bool.false_or, Bool.and_false, Bool.false_and, Bool.not_true, Bool.not_false, List.length_cons, List.length_nil, List.map_cons, List.map_nil, List.replicate_succ, List.replicate_zero, List.cons_append, List.nil_append, if_true, if_false, Nat.reduceAdd, Nat.reduceEqDiff, beq_self_eq_true, reduceIte, Nat.zero_add, eq_self, SZ, List.contains_cons, List.contains_nil, Nat.reduceBEq, Nat.reduceLT, Nat.reduceLeDiff, Int.reduceToNat, Int.reducePow, Int.reduceAdd, Int.reduceSub, Int.reduceMul, Int.reduceNeg, Int.reduceLT, Int.reduceLE, Int.reduceEq, Int.reduceDiv, Int.reduceMod, Option.map_some, Option.map_none, cut1, rg1_eq, rb1_ok, rg2_eq, rb2_ok, bk_d0, bk_d1, bk_d2, bk_d3, bk_d4, bk_i0, bk_i1, bk_i2, bk_i3, k2]
/-! ### the law -/
theorem source_ok (ns : List Int) (k : Nat) (hk : k ≤ 100) : ∃ a b : Int, F_law_source [.fz (.scr (ns.map .int)), .fz (.int (k : Nat))] = .ret (.ow [.int a, .int b, .int 0]) [none, none] ∧ Src a b 0 0 := by
  have key : ∀ z : Int, ∃ a b : Int, (if z < 0 then -z else z) - 1000000000000000000 = a ∧ z % 10000000000000000000000000000000000000121 + 6700417 * (k : Nat) = b ∧ Src (if a > 0 then a else 0) b 0 0 := fun z => by
    have h1 := Int.emod_nonneg z (show (10000000000000000000000000000000000000121 : Int) ≠ 0 by decide)
    have h2 := Int.emod_lt_of_pos z (show (0 : Int) < 10000000000000000000000000000000000000121 by decide)
    exact ⟨_, _, rfl, rfl, by split <;> omega, by omega, by omega, by omega, by omega⟩
  unfold F_law_source B_law_source
  by_cases hk : k < ns.length
  · have e1 : decide ((k : Int) < (ns.map D.int).length) = true := decide_eq_true (by rw [List.length_map]; omega)
    have e2 : ixD (.scr (ns.map .int)) (.int k) = some (.fz (.int ns[k])) := by
      rw [ix_s_nn (by omega) (by rw [List.length_map]; omega), Int.toNat_natCast, List.getElem?_map, List.getElem?_eq_getElem hk]
      rfl
    obtain ⟨a, b, k1, k2, k3⟩ := key ns[k]
    refine ⟨_, b, ?_, k3⟩
    simp (maxSteps := 20000000) (disch := (first | assumption | omega | (simp only [List.length_cons, List.length_nil, List.length_append, List.length_map, SZ]; done) | (simp only [List.length_cons, List.length_nil, List.length_append, List.length_map, SZ]; omega))) only [ev_seq, ev_seq_nx, ev_seq_rt, ev_seq_ex, ev_seq_bk, ev_seq_ct, ev_nil, ev_pass, ev_break, ev_cont, ev_retN, ev_ret, ev_drop, ev_set, ev_raise, ev_if, ev_par, ev_par3, ev_toS_ok, ev_toS_ex, ev_toS_no, ev_bind_ok, ev_bind_ex, ev_bind_no, ev_it, ev_if_f, ev_C, ev_var, ev_var1, ev_var2, ev_mov, ev_mov1, ev_mov2, ev_okV_e, ev_okV_v, ev_okO, ev_run_e, ev_run_v, ev_get_d, ev_get_i, ev_getO, ev_d_fz, ev_d_ow, ev_d_io, ev_op2, ev_get2, ev_g2, ev_op1, ev_get1, ev_g1, ev_mk, ev_mk0, ev_opN, ev_all_nil, ev_all_cons, ev_runO_nil, ev_runO_cons, ev_getN, ev_gN, ev_getL_nil, ev_getL_cons, ev_gL, ev_runE_nil, ev_runE_cons, ev_tup, ev_lst, ev_mIf, ev_and, ev_or, ev_not, ev_blR, ev_toT, ev_blT, ev_okI, ev_okB, ev_tru, ev_mkT, ev_obind, ev_tru_bl, ev_andT, ev_orT, ev_notT, ev_chain, ev_chR, ev_fn, ev_of_nx, ev_of_rt, ev_of_ex, ev_outs0, ev_outs1, ev_ioE_n, ev_ioE_f, ev_ioE_o, ev_ioE_i, ev_call, ev_callK, ev_callR, ev_args_nil, ev_args_cons, ev_argC, ev_arg_d, ev_arg_i, ev_argO_f, ev_argO_o, ev_argO_i, ev_apart_nil, ev_apart_d, ev_apart_i, ev_any_nil, ev_any_cons, ev_at_d, ev_at_i, ev_ofF_ret, ev_ofF_exc, ev_back0, ev_back1, ev_b1n, ev_b1f, ev_b1o, ev_b1i, ev_bkO0, ev_bkO1, ev_bkI0, ev_bkI1, ev_look0, ev_look_d, ev_look_i, ev_join, ev_head, ev_tail, ev_call1, ev_go_o, ev_go_f, ev_of1_r, ev_of1_e, op_add_i, op_sub_i, op_iadd_i, op_mul_i, op_fdiv_i, op_mod_i, op_pow8_i, op_powL_i, op_lt_i, op_le_i, op_gt_i, op_ge_i, op_neg_i, op_eq_i, op_ne_i, op_eq_s, op_ne_s, op_is_n, op_len_l, op_len_t, op_len_s, op_abs_i, op_max_i, op_min_i, op_int_i, op_int_b, op_divmod_i, op_tup_l, op_tup_t, op_list_l, op_list_t, op_rev_l, op_rev_t, op_own_o, op_own_i, op_setix, op_setR, op_stN, op_as_o, op_as_i, op_isS, op_mut, op_mutR, op_mutS, op_asg_seq, op_asg_seql, op_asg_cons, op_asg_nil, op_asg_nm, op_asg, op_asgR, ixN_1_0, ixN_1_m1, ixN_2_0, ixN_2_1, ixN_2_m1, ixN_3_0, ixN_3_1, ixN_3_2, ixN_3_m1, ixN_4_0, ixN_4_1, ixN_4_2, ixN_4_3, ixN_4_m1, ixN_5_0, ixN_5_1, ixN_5_2, ixN_5_3, ixN_5_4, ixN_5_m1, ixN_6_0, ixN_6_1, ixN_6_2, ixN_6_3, ixN_6_4, ixN_6_5, ixN_6_m1, ixN_7_0, ixN_7_1, ixN_7_2, ixN_7_3, ixN_7_4, ixN_7_5, ixN_7_6, ixN_7_m1, ixN_8_0, ixN_8_1, ixN_8_2, ixN_8_3, ixN_8_4, ixN_8_5, ixN_8_6, ixN_8_7, ixN_8_m1, ixN_9_0, ixN_9_1, ixN_9_2, ixN_9_3, ixN_9_4, ixN_9_5, ixN_9_6, ixN_9_7, ixN_9_8, ixN_9_m1, ixN_10_0, ixN_10_1, ixN_10_2, ixN_10_3, ixN_10_4, ixN_10_5, ixN_10_6, ixN_10_7, ixN_10_8, ixN_10_9, ixN_10_m1, ixN_11_0, ixN_11_1, ixN_11_2, ixN_11_3, ixN_11_4, ixN_11_5, ixN_11_6, ixN_11_7, ixN_11_8, ixN_11_9, ixN_11_10, ixN_11_m1, ixN_12_0, ixN_12_1, ixN_12_2, ixN_12_3, ixN_12_4, ixN_12_5, ixN_12_6, ixN_12_7, ixN_12_8, ixN_12_9, ixN_12_10, ixN_12_11, ixN_12_m1, ixN_13_0, ixN_13_1, ixN_13_2, ixN_13_3, ixN_13_4, ixN_13_5, ixN_13_6, ixN_13_7, ixN_13_8, ixN_13_9, ixN_13_10, ixN_13_11, ixN_13_12, ixN_13_m1, ixN_14_0, ixN_14_1, ixN_14_2, ixN_14_3, ixN_14_4, ixN_14_5, ixN_14_6, ixN_14_7, ixN_14_8, ixN_14_9, ixN_14_10, ixN_14_11, ixN_14_12, ixN_14_13, ixN_14_m1, ixN_15_0, ixN_15_1, ixN_15_2, ixN_15_3, ixN_15_4, ixN_15_5, ixN_15_6, ixN_15_7, ixN_15_8, ixN_15_9, ixN_15_10, ixN_15_11, ixN_15_12, ixN_15_13, ixN_15_14, ixN_15_m1, ix_l0, ix_t0, ix_l1, ix_t1, ix_l2, ix_t2, ix_l3, ix_t3, ix_l4, ix_t4, ix_l5, ix_t5, ix_l6, ix_t6, ix_l7, ix_t7, ix_l8, ix_t8, ix_l9, ix_t9, ix_l10, ix_t10, ix_l11, ix_t11, ix_l12, ix_t12, ix_l13, ix_t13, ev_for, ev_iSeq, ev_mkI, ev_iter_l, ev_iter_t, ev_iter_s, ev_turn_nx, ev_turn_ct, ev_turn_bk, ev_turn_rt, ev_turn_ex, ev_loop0, ev_forR, ev_enum, ev_enumI, ev_zip, ev_wipe0, ev_wipe1, ev_un0, ev_un1, ev_unO_f, ev_unO_n, ev_comp, ev_lc0, ev_lcR0, ev_turnC, ev_tcR, ev_yes, ev_tryAs, ev_tryS_ex, ev_tryS_nx, ev_tryS_rt, ev_tryR, ev_gone_nx, ev_gone_rt, ev_nest, ev_isE, ev_sl, ev_part0, ev_part1, ev_partR, ev_sl_t, ev_sl_l, ev_cast0, ev_cast1, ev_cast2, ev_cast3, ev_cast4, ev_cast5, ev_cast6, ev_cast7, ev_cast8, ev_cast9, ev_cast10, ev_cast11, ev_cast12, ev_cast13, ev_cast14, ev_cast15, ev_cast16, ev_cast17, ev_cast18, ev_cast19, ev_cast20, ev_isi_tt, ev_isi_ti, ev_is_t, ev_isnot_t, ev_isnot_n, ev_zip_tt, ev_zip_ll, op_eqs, op_nes, ev_aug, ev_augR, ev_augS, ev_try, ev_tryT_ex, ev_tryT_nx, ev_tryT_rt, ev_tryT_bk, ev_tryT_ct, ev_tryU, ev_tryU0, ev_cold_nx, ev_cold_rt, back_eq, wipe_eq, unwipe_eq, List.getElem?_cons_zero, List.getElem?_cons_succ, List.set_cons_zero, List.set_cons_succ, Bool.and_true, Bool.true_and, Bool.or_true, Bool.true_or, Bool.or_false, Bool.false_or, Bool.and_false, Bool.false_and, Bool.not_true, Bool.not_false, List.length_cons, List.length_nil, List.map_cons, List.map_nil, List.replicate_succ, List.replicate_zero, List.cons_append, List.nil_append, if_true, if_false, Nat.reduceAdd, Nat.reduceEqDiff, beq_self_eq_true, reduceIte, Nat.zero_add, eq_self, SZ, List.contains_cons, List.contains_nil, Nat.reduceBEq, Nat.reduceLT, Nat.reduceLeDiff, Int.reduceToNat, Int.reducePow, Int.reduceAdd, Int.reduceSub, Int.reduceMul, Int.reduceNeg, Int.reduceLT, Int.reduceLE, Int.reduceEq, Int.reduceDiv, Int.reduceMod, Option.map_some, Option.map_none, cut1, rg1_eq, rb1_ok, rg2_eq, rb2_ok, bk_d0, bk_d1, bk_d2, bk_d3, bk_d4, bk_i0, bk_i1, bk_i2, bk_i3, e1, e2, k1, k2]
  · have e1 : decide ((k : Int) < (ns.map D.int).length) = false := decide_eq_false (by rw [List.length_map]; omega)
    obtain ⟨a, b, k1, k2, k3⟩ := key 0
    have k4 : (if (0 : Int) < 0 then -0 else 0) = 0 := rfl
    rw [k4] at k1
    refine ⟨_, b, ?_, k3⟩
    simp (maxSteps := 20000000) (disch := (first | assumption | omega | (simp only [List.length_cons, List.length_nil, List.length_append, List.length_map, SZ]; done) | (simp only [List.length_cons, List.length_nil, List.length_append, List.length_map, SZ]; omega))) only [ev_seq, ev_seq_nx, ev_seq_rt, ev_seq_ex, ev_seq_bk, ev_seq_ct, ev_nil, ev_pass, ev_break, ev_cont, ev_retN, ev_ret, ev_drop, ev_set, ev_raise, ev_if, ev_par, ev_par3, ev_toS_ok, ev_toS_ex, ev_toS_no, ev_bind_ok, ev_bind_ex, ev_bind_no, ev_it, ev_if_f, ev_C, ev_var, ev_var1, ev_var2, ev_mov, ev_mov1, ev_mov2, ev_okV_e, ev_okV_v, ev_okO, ev_run_e, ev_run_v, ev_get_d, ev_get_i, ev_getO, ev_d_fz, ev_d_ow, ev_d_io, ev_op2, ev_get2, ev_g2, ev_op1, ev_get1, ev_g1, ev_mk, ev_mk0, ev_opN, ev_all_nil, ev_all_cons, ev_runO_nil, ev_runO_cons, ev_getN, ev_gN, ev_getL_nil, ev_getL_cons, ev_gL, ev_runE_nil, ev_runE_cons, ev_tup, ev_lst, ev_mIf, ev_and, ev_or, ev_not, ev_blR, ev_toT, ev_blT, ev_okI, ev_okB, ev_tru, ev_mkT, ev_obind, ev_tru_bl, ev_andT, ev_orT, ev_notT, ev_chain, ev_chR, ev_fn, ev_of_nx, ev_of_rt, ev_of_ex, ev_outs0, ev_outs1, ev_ioE_n, ev_ioE_f, ev_ioE_o, ev_ioE_i, ev_call, ev_callK, ev_callR, ev_args_nil, ev_args_cons, ev_argC, ev_arg_d, ev_arg_i, ev_argO_f, ev_argO_o, ev_argO_i, ev_apart_nil, ev_apart_d, ev_apart_i, ev_any_nil, ev_any_cons, ev_at_d, ev_at_i, ev_ofF_ret, ev_ofF_exc, ev_back0, ev_back1, ev_b1n, ev_b1f, ev_b1o, ev_b1i, ev_bkO0, ev_bkO1, ev_bkI0, ev_bkI1, ev_look0, ev_look_d, ev_look_i, ev_join, ev_head, ev_tail, ev_call1, ev_go_o, ev_go_f, ev_of1_r, ev_of1_e, op_add_i, op_sub_i, op_iadd_i, op_mul_i, op_fdiv_i, op_mod_i, op_pow8_i, op_powL_i, op_lt_i, op_le_i, op_gt_i, op_ge_i, op_neg_i, op_eq_i, op_ne_i, op_eq_s, op_ne_s, op_is_n, op_len_l, op_len_t, op_len_s, op_abs_i, op_max_i, op_min_i, op_int_i, op_int_b, op_divmod_i, op_tup_l, op_tup_t, op_list_l, op_list_t, op_rev_l, op_rev_t, op_own_o, op_own_i, op_setix, op_setR, op_stN, op_as_o, op_as_i, op_isS, op_mut, op_mutR, op_mutS, op_asg_seq, op_asg_seql, op_asg_cons, op_asg_nil, op_asg_nm, op_asg, op_asgR, ixN_1_0, ixN_1_m1, ixN_2_0, ixN_2_1, ixN_2_m1, ixN_3_0, ixN_3_1, ixN_3_2, ixN_3_m1, ixN_4_0, ixN_4_1, ixN_4_2, ixN_4_3, ixN_4_m1, ixN_5_0, ixN_5_1, ixN_5_2, ixN_5_3, ixN_5_4, ixN_5_m1, ixN_6_0, ixN_6_1, ixN_6_2, ixN_6_3, ixN_6_4, ixN_6_5, ixN_6_m1, ixN_7_0, ixN_7_1, ixN_7_2, ixN_7_3, ixN_7_4, ixN_7_5, ixN_7_6, ixN_7_m1, ixN_8_0, ixN_8_1, ixN_8_2, ixN_8_3, ixN_8_4, ixN_8_5, ixN_8_6, ixN_8_7, ixN_8_m1, ixN_9_0, ixN_9_1, ixN_9_2, ixN_9_3, ixN_9_4, ixN_9_5, ixN_9_6, ixN_9_7, ixN_9_8, ixN_9_m1, ixN_10_0, ixN_10_1, ixN_10_2, ixN_10_3, ixN_10_4, ixN_10_5, ixN_10_6, ixN_10_7, ixN_10_8, ixN_10_9, ixN_10_m1, ixN_11_0, ixN_11_1, ixN_11_2, ixN_11_3, ixN_11_4, ixN_11_5, ixN_11_6, ixN_11_7, ixN_11_8, ixN_11_9, ixN_11_10, ixN_11_m1, ixN_12_0, ixN_12_1, ixN_12_2, ixN_12_3, ixN_12_4, ixN_12_5, ixN_12_6, ixN_12_7, ixN_12_8, ixN_12_9, ixN_12_10, ixN_12_11, ixN_12_m1, ixN_13_0, ixN_13_1, ixN_13_2, ixN_13_3, ixN_13_4, ixN_13_5, ixN_13_6, ixN_13_7, ixN_13_8, ixN_13_9, ixN_13_10, ixN_13_11, ixN_13_12, ixN_13_m1, ixN_14_0, ixN_14_1, ixN_14_2, ixN_14_3, ixN_14_4, ixN_14_5, ixN_14_6, ixN_14_7, ixN_14_8, ixN_14_9, ixN_14_10, ixN_14_11, ixN_14_12, ixN_14_13, ixN_14_m1, ixN_15_0, ixN_15_1, ixN_15_2, ixN_15_3, ixN_15_4, ixN_15_5, ixN_15_6, ixN_15_7, ixN_15_8, ixN_15_9, ixN_15_10, ixN_15_11, ixN_15_12, ixN_15_13, ixN_15_14, ixN_15_m1, ix_l0, ix_t0, ix_l1, ix_t1, ix_l2, ix_t2, ix_l3, ix_t3, ix_l4, ix_t4, ix_l5, ix_t5, ix_l6, ix_t6, ix_l7, ix_t7, ix_l8, ix_t8, ix_l9, ix_t9, ix_l10, ix_t10, ix_l11, ix_t11, ix_l12, ix_t12, ix_l13, ix_t13, ev_for, ev_iSeq, ev_mkI, ev_iter_l, ev_iter_t, ev_iter_s, ev_turn_nx, ev_turn_ct, ev_turn_bk, ev_turn_rt, ev_turn_ex, ev_loop0, ev_forR, ev_enum, ev_enumI, ev_zip, ev_wipe0, ev_wipe1, ev_un0, ev_un1, ev_unO_f, ev_unO_n, ev_comp, ev_lc0, ev_lcR0, ev_turnC, ev_tcR, ev_yes, ev_tryAs, ev_tryS_ex, ev_tryS_nx, ev_tryS_rt, ev_tryR, ev_gone_nx, ev_gone_rt, ev_nest, ev_isE, ev_sl, ev_part0, ev_part1, ev_partR, ev_sl_t, ev_sl_l, ev_cast0, ev_cast1, ev_cast2, ev_cast3, ev_cast4, ev_cast5, ev_cast6, ev_cast7, ev_cast8, ev_cast9, ev_cast10, ev_cast11, ev_cast12, ev_cast13, ev_cast14, ev_cast15, ev_cast16, ev_cast17, ev_cast18, ev_cast19, ev_cast20, ev_isi_tt, ev_isi_ti, ev_is_t, ev_isnot_t, ev_isnot_n, ev_zip_tt, ev_zip_ll, op_eqs, op_nes, ev_aug, ev_augR, ev_augS, ev_try, ev_tryT_ex, ev_tryT_nx, ev_tryT_rt, ev_tryT_bk, ev_tryT_ct, ev_tryU, ev_tryU0, ev_cold_nx, ev_cold_rt, back_eq, wipe_eq, unwipe_eq, List.getElem?_cons_zero, List.getElem?_cons_succ, List.set_cons_zero, List.set_cons_succ, Bool.and_true, Bool.true_and, Bool.or_true, Bool.true_or, Bool.or_false, Bool.false_or, Bool.and_false, Bool.false_and, Bool.not_true, Bool.not_false, List.length_cons, List.length_nil, List.map_cons, List.map_nil, List.replicate_succ, List.replicate_zero, List.cons_append, List.nil_append, if_true, if_false, Nat.reduceAdd, Nat.reduceEqDiff, beq_self_eq_true, reduceIte, Nat.zero_add, eq_self, SZ, List.contains_cons, List.contains_nil, Nat.reduceBEq, Nat.reduceLT, Nat.reduceLeDiff, Int.reduceToNat, Int.reducePow, Int.reduceAdd, Int.reduceSub, Int.reduceMul, Int.reduceNeg, Int.reduceLT, Int.reduceLE, Int.reduceEq, Int.reduceDiv, Int.reduceMod, Option.map_some, Option.map_none, cut1, rg1_eq, rb1_ok, rg2_eq, rb2_ok, bk_d0, bk_d1, bk_d2, bk_d3, bk_d4, bk_i0, bk_i1, bk_i2, bk_i3, e1]
    rw [← k1, ← k2]
    rfl
theorem turn_step (kk : Mi.Env → SR) (x0 x1 x3 x4 x5 : Option Sl) (d a b c n : Int) (s : Src a b c n) (hn : n < 5000) :
    ∃ a' c' : Int, ∃ z4 z5, forR Llaw_0 kk (gNm 3 (.int d) [x0, x1, some (.ow [.int a, .int b, .int c]), x3, x4, x5]) = kk [x0, x1, some (.ow [.int a', .int b, .int c']), some (.fz (.int d)), z4, z5] ∧ Src a' b c' (n + 500) := by
  obtain ⟨r1, a1, c1, e1, g1, l1, s1⟩ := draw_src (k := 2) s (by omega) (by omega) (by omega)
  obtain ⟨most, em, hm⟩ := pick2i 3 20 r1 g1 l1
  obtain ⟨r2, a2, c2, e2, g2, l2, s2⟩ := draw_src (k := 2) s1 (by omega) (by omega) (by omega)
  obtain ⟨w, ew, hw⟩ := pick2i 4 1000000000000000000000000000000 r2 g2 l2
  obtain ⟨a3, c3, l, e3, hl, s3⟩ := line_ok a2 b c2 (n + 1 + 1) most w s2 (by omega) (by omega) (by omega) (by omega) (by omega)
  obtain ⟨a4, c4, e4, s4⟩ := right_law hl a3 b c3 (n + 1 + 1 + 100) s3 (by omega)
  obtain ⟨a5, c5, e5, s5⟩ := small_ok a4 b c4 (n + 1 + 1 + 100 + 60) s4 (by omega)
  refine ⟨a5, c5, some (.fz (.int most)), some (.fz (.tup (l.map runD))), ?_, s5.up (by omega)⟩
  unfold Llaw_0
  revert e1 em e2 ew e3 e4 e5
  generalize F_law_draw = f1
  generalize F_law_line = f2
  generalize F_law_right = f3
  generalize F_law_small_right = f4
  generalize D.tup (l.map runD) = ld
  intro e1 em e2 ew e3 e4 e5
  simp (maxSteps := 20000000) (disch := (first | assumption | omega | (simp only [List.length_cons, List.length_nil, List.length_append, List.length_map, SZ]; done) | (simp only [List.length_cons, List.length_nil, List.length_append, List.length_map, SZ]; omega))) only [ev_seq, ev_seq_nx, ev_seq_rt, ev_seq_ex, ev_seq_bk, ev_seq_ct, ev_nil, ev_pass, ev_break, ev_cont, ev_retN, ev_ret, ev_drop, ev_set, ev_raise, ev_if, ev_par, ev_par3, ev_toS_ok, ev_toS_ex, ev_toS_no, ev_bind_ok, ev_bind_ex, ev_bind_no, ev_it, ev_if_f, ev_C, ev_var, ev_var1, ev_var2, ev_mov, ev_mov1, ev_mov2, ev_okV_e, ev_okV_v, ev_okO, ev_run_e, ev_run_v, ev_get_d, ev_get_i, ev_getO, ev_d_fz, ev_d_ow, ev_d_io, ev_op2, ev_get2, ev_g2, ev_op1, ev_get1, ev_g1, ev_mk, ev_mk0, ev_opN, ev_all_nil, ev_all_cons, ev_runO_nil, ev_runO_cons, ev_getN, ev_gN, ev_getL_nil, ev_getL_cons, ev_gL, ev_runE_nil, ev_runE_cons, ev_tup, ev_lst, ev_mIf, ev_and, ev_or, ev_not, ev_blR, ev_toT, ev_blT, ev_okI, ev_okB, ev_tru, ev_mkT, ev_obind, ev_tru_bl, ev_andT, ev_orT, ev_notT, ev_chain, ev_chR, ev_fn, ev_of_nx, ev_of_rt, ev_of_ex, ev_outs0, ev_outs1, ev_ioE_n, ev_ioE_f, ev_ioE_o, ev_ioE_i, ev_call, ev_callK, ev_callR, ev_args_nil, ev_args_cons, ev_argC, ev_arg_d, ev_arg_i, ev_argO_f, ev_argO_o, ev_argO_i, ev_apart_nil, ev_apart_d, ev_apart_i, ev_any_nil, ev_any_cons, ev_at_d, ev_at_i, ev_ofF_ret, ev_ofF_exc, ev_back0, ev_back1, ev_b1n, ev_b1f, ev_b1o, ev_b1i, ev_bkO0, ev_bkO1, ev_bkI0, ev_bkI1, ev_look0, ev_look_d, ev_look_i, ev_join, ev_head, ev_tail, ev_call1, ev_go_o, ev_go_f, ev_of1_r, ev_of1_e, op_add_i, op_sub_i, op_iadd_i, op_mul_i, op_fdiv_i, op_mod_i, op_pow8_i, op_powL_i, op_lt_i, op_le_i, op_gt_i, op_ge_i, op_neg_i, op_eq_i, op_ne_i, op_eq_s, op_ne_s, op_is_n, op_len_l, op_len_t, op_len_s, op_abs_i, op_max_i, op_min_i, op_int_i, op_int_b, op_divmod_i, op_tup_l, op_tup_t, op_list_l, op_list_t, op_rev_l, op_rev_t, op_own_o, op_own_i, op_setix, op_setR, op_stN, op_as_o, op_as_i, op_isS, op_mut, op_mutR, op_mutS, op_asg_seq, op_asg_seql, op_asg_cons, op_asg_nil, op_asg_nm, op_asg, op_asgR, ixN_1_0, ixN_1_m1, ixN_2_0, ixN_2_1, ixN_2_m1, ixN_3_0, ixN_3_1, ixN_3_2, ixN_3_m1, ixN_4_0, ixN_4_1, ixN_4_2, ixN_4_3, ixN_4_m1, ixN_5_0, ixN_5_1, ixN_5_2, ixN_5_3, ixN_5_4, ixN_5_m1, ixN_6_0, ixN_6_1, ixN_6_2, ixN_6_3, ixN_6_4, ixN_6_5, ixN_6_m1, ixN_7_0, ixN_7_1, ixN_7_2, ixN_7_3, ixN_7_4, ixN_7_5, ixN_7_6, ixN_7_m1, ixN_8_0, ixN_8_1, ixN_8_2, ixN_8_3, ixN_8_4, ixN_8_5, ixN_8_6, ixN_8_7, ixN_8_m1, ixN_9_0, ixN_9_1, ixN_9_2, ixN_9_3, ixN_9_4, ixN_9_5, ixN_9_6, ixN_9_7, ixN_9_8, ixN_9_m1, ixN_10_0, ixN_10_1, ixN_10_2, ixN_10_3, ixN_10_4, ixN_10_5, ixN_10_6, ixN_10_7, ixN_10_8, ixN_10_9, ixN_10_m1, ixN_11_0, ixN_11_1, ixN_11_2, ixN_11_3, ixN_11_4, ixN_11_5, ixN_11_6, ixN_11_7, ixN_11_8, ixN_11_9, ixN_11_10, ixN_11_m1, ixN_12_0, ixN_12_1, ixN_12_2, ixN_12_3, ixN_12_4, ixN_12_5, ixN_12_6, ixN_12_7, ixN_12_8, ixN_12_9, ixN_12_10, ixN_12_11, ixN_12_m1, ixN_13_0, ixN_13_1, ixN_13_2, ixN_13_3, ixN_13_4, ixN_13_5, ixN_13_6, ixN_13_7, ixN_13_8, ixN_13_9, ixN_13_10, ixN_13_11, ixN_13_12, ixN_13_m1, ixN_14_0, ixN_14_1, ixN_14_2, ixN_14_3, ixN_14_4, ixN_14_5, ixN_14_6, ixN_14_7, ixN_14_8, ixN_14_9, ixN_14_10, ixN_14_11, ixN_14_12, ixN_14_13, ixN_14_m1, ixN_15_0, ixN_15_1, ixN_15_2, ixN_15_3, ixN_15_4, ixN_15_5, ixN_15_6, ixN_15_7, ixN_15_8, ixN_15_9, ixN_15_10, ixN_15_11, ixN_15_12, ixN_15_13, ixN_15_14, ixN_15_m1, ix_l0, ix_t0, ix_l1, ix_t1, ix_l2, ix_t2, ix_l3, ix_t3, ix_l4, ix_t4, ix_l5, ix_t5, ix_l6, ix_t6, ix_l7, ix_t7, ix_l8, ix_t8, ix_l9, ix_t9, ix_l10, ix_t10, ix_l11, ix_t11, ix_l12, ix_t12, ix_l13, ix_t13, ev_for, ev_iSeq, ev_mkI, ev_iter_l, ev_iter_t, ev_iter_s, ev_turn_nx, ev_turn_ct, ev_turn_bk, ev_turn_rt, ev_turn_ex, ev_loop0, ev_forR, ev_enum, ev_enumI, ev_zip, ev_wipe0, ev_wipe1, ev_un0, ev_un1, ev_unO_f, ev_unO_n, ev_comp, ev_lc0, ev_lcR0, ev_turnC, ev_tcR, ev_yes, ev_tryAs, ev_tryS_ex, ev_tryS_nx, ev_tryS_rt, ev_tryR, ev_gone_nx, ev_gone_rt, ev_nest, ev_isE, ev_sl, ev_part0, ev_part1, ev_partR, ev_sl_t, ev_sl_l, ev_cast0, ev_cast1, ev_cast2, ev_cast3, ev_cast4, ev_cast5, ev_cast6, ev_cast7, ev_cast8, ev_cast9, ev_cast10, ev_cast11, ev_cast12, ev_cast13, ev_cast14, ev_cast15, ev_cast16, ev_cast17, ev_cast18, ev_cast19, ev_cast20, ev_isi_tt, ev_isi_ti, ev_is_t, ev_isnot_t, ev_isnot_n, ev_zip_tt, ev_zip_ll, op_eqs, op_nes, ev_aug, ev_augR, ev_augS, ev_try, ev_tryT_ex, ev_tryT_nx, ev_tryT_rt, ev_tryT_bk, ev_tryT_ct, ev_tryU, ev_tryU0, ev_cold_nx, ev_cold_rt, back_eq, wipe_eq, unwipe_eq, List.getElem?_cons_zero, List.getElem?_cons_succ, List.set_cons_zero, List.set_cons_succ, Bool.and_true, Bool.true_and, Bool.or_true, Bool.true_or, Bool.or_false, Bool.false_or, Bool.and_false, Bool.false_and, Bool.not_true, Bool.not_false, List.length_cons, List.length_nil, List.map_cons, List.map_nil, List.replicate_succ, List.replicate_zero, List.cons_append, List.nil_append, if_true, if_false, Nat.reduceAdd, Nat.reduceEqDiff, beq_self_eq_true, reduceIte, Nat.zero_add, eq_self, SZ, List.contains_cons, List.contains_nil, Nat.reduceBEq, Nat.reduceLT, Nat.reduceLeDiff, Int.reduceToNat, Int.reducePow, Int.reduceAdd, Int.reduceSub, Int.reduceMul, Int.reduceNeg, Int.reduceLT, Int.reduceLE, Int.reduceEq, Int.reduceDiv, Int.reduceMod, Option.map_some, Option.map_none, cut1, rg1_eq, rb1_ok, rg2_eq, rb2_ok, bk_d0, bk_d1, bk_d2, bk_d3, bk_d4, bk_i0, bk_i1, bk_i2, bk_i3, e1, em, e2, ew, e3, e4, e5]
theorem cell_step (ns : List Int) (kk : Mi.Env → SR) (k : Nat) (hk : k ≤ 100) (x1 x2 x3 x4 x5 : Option Sl) :
    ∃ z2 z3 z4 z5, forR Llaw_1 kk (gNm 1 (.int (k : Nat)) [some (.fz (.scr (ns.map .int))), x1, x2, x3, x4, x5]) = kk [some (.fz (.scr (ns.map .int))), some (.fz (.int (k : Nat))), z2, z3, z4, z5] := by
  obtain ⟨a, b, e1, s⟩ := source_ok ns k hk
  obtain ⟨a1, c1, z4, z5, e2, s1⟩ := turn_step (loopF (gNm 3) Llaw_0 (rangeL (0 + 1) 1)) (some (.fz (.scr (ns.map .int)))) (some (.fz (.int (k : Nat)))) x3 x4 x5 0 a b 0 0 s (by omega)
  obtain ⟨a2, c2, w4, w5, e3, s2⟩ := turn_step (loopF (gNm 3) Llaw_0 (rangeL (0 + 1 + 1) 0)) (some (.fz (.scr (ns.map .int)))) (some (.fz (.int (k : Nat)))) (some (.fz (.int 0))) z4 z5 (0 + 1) a1 b c1 (0 + 500) s1 (by omega)
  have e4 : loopF (gNm 3) Llaw_0 (rangeL 0 2) [some (.fz (.scr (ns.map .int))), some (.fz (.int (k : Nat))), some (.ow [.int a, .int b, .int 0]), x3, x4, x5] = .nx [some (.fz (.scr (ns.map .int))), some (.fz (.int (k : Nat))), some (.ow [.int a2, .int b, .int c2]), some (.fz (.int (0 + 1))), w4, w5] := by
    rw [rangeL_succ, loop_cons, e2, rangeL_succ, loop_cons, e3]
    rfl
  refine ⟨some (.ow [.int a2, .int b, .int c2]), some (.fz (.int (0 + 1))), w4, w5, ?_⟩
  unfold Llaw_1
  revert e1 e4
  generalize F_law_source = f1
  generalize Llaw_0 = f2
  generalize D.scr (ns.map .int) = sc
  have e5 : (0 : Int) + 1 = 1 := rfl
  rw [e5]
  intro e1 e4
  simp (maxSteps := 20000000) (disch := (first | assumption | omega | (simp only [List.length_cons, List.length_nil, List.length_append, List.length_map, SZ]; done) | (simp only [List.length_cons, List.length_nil, List.length_append, List.length_map, SZ]; omega))) only [ev_seq, ev_seq_nx, ev_seq_rt, ev_seq_ex, ev_seq_bk, ev_seq_ct, ev_nil, ev_pass, ev_break, ev_cont, ev_retN, ev_ret, ev_drop, ev_set, ev_raise, ev_if, ev_par, ev_par3, ev_toS_ok, ev_toS_ex, ev_toS_no, ev_bind_ok, ev_bind_ex, ev_bind_no, ev_it, ev_if_f, ev_C, ev_var, ev_var1, ev_var2, ev_mov, ev_mov1, ev_mov2, ev_okV_e, ev_okV_v, ev_okO, ev_run_e, ev_run_v, ev_get_d, ev_get_i, ev_getO, ev_d_fz, ev_d_ow, ev_d_io, ev_op2, ev_get2, ev_g2, ev_op1, ev_get1, ev_g1, ev_mk, ev_mk0, ev_opN, ev_all_nil, ev_all_cons, ev_runO_nil, ev_runO_cons, ev_getN, ev_gN, ev_getL_nil, ev_getL_cons, ev_gL, ev_runE_nil, ev_runE_cons, ev_tup, ev_lst, ev_mIf, ev_and, ev_or, ev_not, ev_blR, ev_toT, ev_blT, ev_okI, ev_okB, ev_tru, ev_mkT, ev_obind, ev_tru_bl, ev_andT, ev_orT, ev_notT, ev_chain, ev_chR, ev_fn, ev_of_nx, ev_of_rt, ev_of_ex, ev_outs0, ev_outs1, ev_ioE_n, ev_ioE_f, ev_ioE_o, ev_ioE_i, ev_call, ev_callK, ev_callR, ev_args_nil, ev_args_cons, ev_argC, ev_arg_d, ev_arg_i, ev_argO_f, ev_argO_o, ev_argO_i, ev_apart_nil, ev_apart_d, ev_apart_i, ev_any_nil, ev_any_cons, ev_at_d, ev_at_i, ev_ofF_ret, ev_ofF_exc, ev_back0, ev_back1, ev_b1n, ev_b1f, ev_b1o, ev_b1i, ev_bkO0, ev_bkO1, ev_bkI0, ev_bkI1, ev_look0, ev_look_d, ev_look_i, ev_join, ev_head, ev_tail, ev_call1, ev_go_o, ev_go_f, ev_of1_r, ev_of1_e, op_add_i, op_sub_i, op_iadd_i, op_mul_i, op_fdiv_i, op_mod_i, op_pow8_i, op_powL_i, op_lt_i, op_le_i, op_gt_i, op_ge_i, op_neg_i, op_eq_i, op_ne_i, op_eq_s, op_ne_s, op_is_n, op_len_l, op_len_t, op_len_s, op_abs_i, op_max_i, op_min_i, op_int_i, op_int_b, op_divmod_i, op_tup_l, op_tup_t, op_list_l, op_list_t, op_rev_l, op_rev_t, op_own_o, op_own_i, op_setix, op_setR, op_stN, op_as_o, op_as_i, op_isS, op_mut, op_mutR, op_mutS, op_asg_seq, op_asg_seql, op_asg_cons, op_asg_nil, op_asg_nm, op_asg, op_asgR, ixN_1_0, ixN_1_m1, ixN_2_0, ixN_2_1, ixN_2_m1, ixN_3_0, ixN_3_1, ixN_3_2, ixN_3_m1, ixN_4_0, ixN_4_1, ixN_4_2, ixN_4_3, ixN_4_m1, ixN_5_0, ixN_5_1, ixN_5_2, ixN_5_3, ixN_5_4, ixN_5_m1, ixN_6_0, ixN_6_1, ixN_6_2, ixN_6_3, ixN_6_4, ixN_6_5, ixN_6_m1, ixN_7_0, ixN_7_1, ixN_7_2, ixN_7_3, ixN_7_4, ixN_7_5, ixN_7_6, ixN_7_m1, ixN_8_0, ixN_8_1, ixN_8_2, ixN_8_3, ixN_8_4, ixN_8_5, ixN_8_6, ixN_8_7, ixN_8_m1, ixN_9_0, ixN_9_1, ixN_9_2, ixN_9_3, ixN_9_4, ixN_9_5, ixN_9_6, ixN_9_7, ixN_9_8, ixN_9_m1, ixN_10_0, ixN_10_1, ixN_10_2, ixN_10_3, ixN_10_4, ixN_10_5, ixN_10_6, ixN_10_7, ixN_10_8, ixN_10_9, ixN_10_m1, ixN_11_0, ixN_11_1, ixN_11_2, ixN_11_3, ixN_11_4, ixN_11_5, ixN_11_6, ixN_11_7, ixN_11_8, ixN_11_9, ixN_11_10, ixN_11_m1, ixN_12_0, ixN_12_1, ixN_12_2, ixN_12_3, ixN_12_4, ixN_12_5, ixN_12_6, ixN_12_7, ixN_12_8, ixN_12_9, ixN_12_10, ixN_12_11, ixN_12_m1, ixN_13_0, ixN_13_1, ixN_13_2, ixN_13_3, ixN_13_4, ixN_13_5, ixN_13_6, ixN_13_7, ixN_13_8, ixN_13_9, ixN_13_10, ixN_13_11, ixN_13_12, ixN_13_m1, ixN_14_0, ixN_14_1, ixN_14_2, ixN_14_3, ixN_14_4, ixN_14_5, ixN_14_6, ixN_14_7, ixN_14_8, ixN_14_9, ixN_14_10, ixN_14_11, ixN_14_12, ixN_14_13, ixN_14_m1, ixN_15_0, ixN_15_1, ixN_15_2, ixN_15_3, ixN_15_4, ixN_15_5, ixN_15_6, ixN_15_7, ixN_15_8, ixN_15_9, ixN_15_10, ixN_15_11, ixN_15_12, ixN_15_13, ixN_15_14, ixN_15_m1, ix_l0, ix_t0, ix_l1, ix_t1, ix_l2, ix_t2, ix_l3, ix_t3, ix_l4, ix_t4, ix_l5, ix_t5, ix_l6, ix_t6, ix_l7, ix_t7, ix_l8, ix_t8, ix_l9, ix_t9, ix_l10, ix_t10, ix_l11, ix_t11, ix_l12, ix_t12, ix_l13, ix_t13, ev_for, ev_iSeq, ev_mkI, ev_iter_l, ev_iter_t, ev_iter_s, ev_turn_nx, ev_turn_ct, ev_turn_bk, ev_turn_rt, ev_turn_ex, ev_loop0, ev_forR, ev_enum, ev_enumI, ev_zip, ev_wipe0, ev_wipe1, ev_un0, ev_un1, ev_unO_f, ev_unO_n, ev_comp, ev_lc0, ev_lcR0, ev_turnC, ev_tcR, ev_yes, ev_tryAs, ev_tryS_ex, ev_tryS_nx, ev_tryS_rt, ev_tryR, ev_gone_nx, ev_gone_rt, ev_nest, ev_isE, ev_sl, ev_part0, ev_part1, ev_partR, ev_sl_t, ev_sl_l, ev_cast0, ev_cast1, ev_cast2, ev_cast3, ev_cast4, ev_cast5, ev_cast6, ev_cast7, ev_cast8, ev_cast9, ev_cast10, ev_cast11, ev_cast12, ev_cast13, ev_cast14, ev_cast15, ev_cast16, ev_cast17, ev_cast18, ev_cast19, ev_cast20, ev_isi_tt, ev_isi_ti, ev_is_t, ev_isnot_t, ev_isnot_n, ev_zip_tt, ev_zip_ll, op_eqs, op_nes, ev_aug, ev_augR, ev_augS, ev_try, ev_tryT_ex, ev_tryT_nx, ev_tryT_rt, ev_tryT_bk, ev_tryT_ct, ev_tryU, ev_tryU0, ev_cold_nx, ev_cold_rt, back_eq, wipe_eq, unwipe_eq, List.getElem?_cons_zero, List.getElem?_cons_succ, List.set_cons_zero, List.set_cons_succ, Bool.and_true, Bool.true_and, Bool.or_true, Bool.true_or, Bool.or_false, Bool.false_or, Bool.and_false, Bool.false_and, Bool.not_true, Bool.not_false, List.length_cons, List.length_nil, List.map_cons, List.map_nil, List.replicate_succ, List.replicate_zero, List.cons_append, List.nil_append, if_true, if_false, Nat.reduceAdd, Nat.reduceEqDiff, beq_self_eq_true, reduceIte, Nat.zero_add, eq_self, SZ, List.contains_cons, List.contains_nil, Nat.reduceBEq, Nat.reduceLT, Nat.reduceLeDiff, Int.reduceToNat, Int.reducePow, Int.reduceAdd, Int.reduceSub, Int.reduceMul, Int.reduceNeg, Int.reduceLT, Int.reduceLE, Int.reduceEq, Int.reduceDiv, Int.reduceMod, Option.map_some, Option.map_none, cut1, rg1_eq, rb1_ok, rg2_eq, rb2_ok, bk_d0, bk_d1, bk_d2, bk_d3, bk_d4, bk_i0, bk_i1, bk_i2, bk_i3, e1, e4]
theorem law_loop (ns : List Int) : ∀ (n lo : Nat), lo + n ≤ 100 → ∀ (x1 x2 x3 x4 x5 : Option Sl),
    ∃ z1 z2 z3 z4 z5, loopF (gNm 1) Llaw_1 (rangeL (lo : Nat) n) [some (.fz (.scr (ns.map .int))), x1, x2, x3, x4, x5] = .nx [some (.fz (.scr (ns.map .int))), z1, z2, z3, z4, z5]
  | 0, lo, _, x1, x2, x3, x4, x5 => ⟨x1, x2, x3, x4, x5, rfl⟩
  | n + 1, lo, h, x1, x2, x3, x4, x5 => by
    obtain ⟨z2, z3, z4, z5, e1⟩ := cell_step ns (loopF (gNm 1) Llaw_1 (rangeL ((lo + 1 : Nat) : Int) n)) lo (by omega) x1 x2 x3 x4 x5
    obtain ⟨w1, w2, w3, w4, w5, e2⟩ := law_loop ns n (lo + 1) (by omega) (some (.fz (.int lo))) z2 z3 z4 z5
    refine ⟨w1, w2, w3, w4, w5, ?_⟩
    rw [rangeL_succ, loop_cons]
    have : ((lo : Int) + 1) = ((lo + 1 : Nat) : Int) := by omega
    rw [this, e1, e2]
theorem one_good {q : Bool} {c : Int} (h : 1 ≤ c) : Good [(q, c)] := ⟨⟨h, trivial⟩, trivial⟩
theorem law_true (ns : List Int) (hl : ns.length ≤ 63) (h : ∀ z ∈ ns, Builtin.Int.intBits z ≤ 1048576) : ∃ o, Flaw [.fz (.scr (ns.map .int))] = .ret (.fz (.bl true)) o := by
  obtain ⟨m, hm, hm2⟩ : ∃ m : Int, (if (if ((ns.map D.int).length : Int) < 6 then ((ns.map D.int).length : Int) else 6) > 1 then (if ((ns.map D.int).length : Int) < 6 then ((ns.map D.int).length : Int) else 6) else 1) = m ∧ (0 ≤ m ∧ m ≤ 20) := ⟨_, rfl, by split <;> split <;> omega⟩
  obtain ⟨w1, w2, w3, w4, w5, e⟩ := law_loop ns m.toNat 0 (by omega) none none none none none
  rw [show ((0 : Nat) : Int) = 0 from rfl] at e
  have p1 : posQ true 0 9999999999999999999999999999998 [(true, 9999999999999999999999999999999)] = some 9999999999999999999999999999999 := by decide +kernel
  have p2 : posQ true 0 10000000000000000000000000000000000000000000000000000000000000000000000000000000 [(true, 9)] = none := by decide +kernel
  have p3 : posQ false 0 0 [(true, 2)] = none := by decide +kernel
  have p4 : posQ false 0 1 [(false, 2)] = some 2 := by decide +kernel
  have t1 := place_of_ok (l := [(true, 9999999999999999999999999999999)]) (one_good (by omega)) (by simp) (by simp) true (i := 9999999999999999999999999999998) (by omega)
  have t2 := place_of_ok (l := [(true, 9)]) (one_good (by omega)) (by simp) (by simp) true (i := 10000000000000000000000000000000000000000000000000000000000000000000000000000000) (by omega)
  have t3 := place_of_ok (l := [(true, 2)]) (one_good (by omega)) (by simp) (by simp) false (i := 0) (by omega)
  have t4 := place_of_ok (l := [(false, 2)]) (one_good (by omega)) (by simp) (by simp) false (i := 1) (by omega)
  rw [p1] at t1
  rw [p2] at t2
  rw [p3] at t3
  rw [p4] at t4
  have t1 : Fplace_of [.fz (.tup [.tup [.str "L", .int 9999999999999999999999999999999]]), .fz (.str "L"), .fz (.int 9999999999999999999999999999998)] = .ret (.fz (.int 9999999999999999999999999999999)) [none, none, none] := t1
  have t2 : Fplace_of [.fz (.tup [.tup [.str "L", .int 9]]), .fz (.str "L"), .fz (.int 10000000000000000000000000000000000000000000000000000000000000000000000000000000)] = .ret (.fz .non) [none, none, none] := t2
  have t3 : Fplace_of [.fz (.tup [.tup [.str "L", .int 2]]), .fz (.str "R"), .fz (.int 0)] = .ret (.fz .non) [none, none, none] := t3
  have t4 : Fplace_of [.fz (.tup [.tup [.str "R", .int 2]]), .fz (.str "R"), .fz (.int 1)] = .ret (.fz (.int 2)) [none, none, none] := t4
  have n1 : neD (.int 9999999999999999999999999999999) (.int 9999999999999999999999999999999) = some (.fz (.bl false)) := by
    rw [op_ne_i, decide_eq_true rfl]
    rfl
  unfold Flaw Blaw
  revert e t1 t2 t3 t4
  generalize Llaw_1 = f1
  generalize Fplace_of = f2
  intro e t1 t2 t3 t4
  simp (maxSteps := 20000000) (disch := (first | assumption | omega | (simp only [List.length_cons, List.length_nil, List.length_append, List.length_map, SZ]; done) | (simp only [List.length_cons, List.length_nil, List.length_append, List.length_map, SZ]; omega))) only [ev_seq, ev_seq_nx, ev_seq_rt, ev_seq_ex, ev_seq_bk, ev_seq_ct, ev_nil, ev_pass, ev_break, ev_cont, ev_retN, ev_ret, ev_drop, ev_set, ev_raise, ev_if, ev_par, ev_par3, ev_toS_ok, ev_toS_ex, ev_toS_no, ev_bind_ok, ev_bind_ex, ev_bind_no, ev_it, ev_if_f, ev_C, ev_var, ev_var1, ev_var2, ev_mov, ev_mov1, ev_mov2, ev_okV_e, ev_okV_v, ev_okO, ev_run_e, ev_run_v, ev_get_d, ev_get_i, ev_getO, ev_d_fz, ev_d_ow, ev_d_io, ev_op2, ev_get2, ev_g2, ev_op1, ev_get1, ev_g1, ev_mk, ev_mk0, ev_opN, ev_all_nil, ev_all_cons, ev_runO_nil, ev_runO_cons, ev_getN, ev_gN, ev_getL_nil, ev_getL_cons, ev_gL, ev_runE_nil, ev_runE_cons, ev_tup, ev_lst, ev_mIf, ev_and, ev_or, ev_not, ev_blR, ev_toT, ev_blT, ev_okI, ev_okB, ev_tru, ev_mkT, ev_obind, ev_tru_bl, ev_andT, ev_orT, ev_notT, ev_chain, ev_chR, ev_fn, ev_of_nx, ev_of_rt, ev_of_ex, ev_outs0, ev_outs1, ev_ioE_n, ev_ioE_f, ev_ioE_o, ev_ioE_i, ev_call, ev_callK, ev_callR, ev_args_nil, ev_args_cons, ev_argC, ev_arg_d, ev_arg_i, ev_argO_f, ev_argO_o, ev_argO_i, ev_apart_nil, ev_apart_d, ev_apart_i, ev_any_nil, ev_any_cons, ev_at_d, ev_at_i, ev_ofF_ret, ev_ofF_exc, ev_back0, ev_back1, ev_b1n, ev_b1f, ev_b1o, ev_b1i, ev_bkO0, ev_bkO1, ev_bkI0, ev_bkI1, ev_look0, ev_look_d, ev_look_i, ev_join, ev_head, ev_tail, ev_call1, ev_go_o, ev_go_f, ev_of1_r, ev_of1_e, op_add_i, op_sub_i, op_iadd_i, op_mul_i, op_fdiv_i, op_mod_i, op_pow8_i, op_powL_i, op_lt_i, op_le_i, op_gt_i, op_ge_i, op_neg_i, op_eq_i, op_ne_i, op_eq_s, op_ne_s, op_is_n, op_len_l, op_len_t, op_len_s, op_abs_i, op_max_i, op_min_i, op_int_i, op_int_b, op_divmod_i, op_tup_l, op_tup_t, op_list_l, op_list_t, op_rev_l, op_rev_t, op_own_o, op_own_i, op_setix, op_setR, op_stN, op_as_o, op_as_i, op_isS, op_mut, op_mutR, op_mutS, op_asg_seq, op_asg_seql, op_asg_cons, op_asg_nil, op_asg_nm, op_asg, op_asgR, ixN_1_0, ixN_1_m1, ixN_2_0, ixN_2_1, ixN_2_m1, ixN_3_0, ixN_3_1, ixN_3_2, ixN_3_m1, ixN_4_0, ixN_4_1, ixN_4_2, ixN_4_3, ixN_4_m1, ixN_5_0, ixN_5_1, ixN_5_2, ixN_5_3, ixN_5_4, ixN_5_m1, ixN_6_0, ixN_6_1, ixN_6_2, ixN_6_3, ixN_6_4, ixN_6_5, ixN_6_m1, ixN_7_0, ixN_7_1, ixN_7_2, ixN_7_3, ixN_7_4, ixN_7_5, ixN_7_6, ixN_7_m1, ixN_8_0, ixN_8_1, ixN_8_2, ixN_8_3, ixN_8_4, ixN_8_5, ixN_8_6, ixN_8_7, ixN_8_m1, ixN_9_0, ixN_9_1, ixN_9_2, ixN_9_3, ixN_9_4, ixN_9_5, ixN_9_6, ixN_9_7, ixN_9_8, ixN_9_m1, ixN_10_0, ixN_10_1, ixN_10_2, ixN_10_3, ixN_10_4, ixN_10_5, ixN_10_6, ixN_10_7, ixN_10_8, ixN_10_9, ixN_10_m1, ixN_11_0, ixN_11_1, ixN_11_2, ixN_11_3, ixN_11_4, ixN_11_5, ixN_11_6, ixN_11_7, ixN_11_8, ixN_11_9, ixN_11_10, ixN_11_m1, ixN_12_0, ixN_12_1, ixN_12_2, ixN_12_3, ixN_12_4, ixN_12_5, ixN_12_6, ixN_12_7, ixN_12_8, ixN_12_9, ixN_12_10, ixN_12_11, ixN_12_m1, ixN_13_0, ixN_13_1, ixN_13_2, ixN_13_3, ixN_13_4, ixN_13_5, ixN_13_6, ixN_13_7, ixN_13_8, ixN_13_9, ixN_13_10, ixN_13_11, ixN_13_12, ixN_13_m1, ixN_14_0, ixN_14_1, ixN_14_2, ixN_14_3, ixN_14_4, ixN_14_5, ixN_14_6, ixN_14_7, ixN_14_8, ixN_14_9, ixN_14_10, ixN_14_11, ixN_14_12, ixN_14_13, ixN_14_m1, ixN_15_0, ixN_15_1, ixN_15_2, ixN_15_3, ixN_15_4, ixN_15_5, ixN_15_6, ixN_15_7, ixN_15_8, ixN_15_9, ixN_15_10, ixN_15_11, ixN_15_12, ixN_15_13, ixN_15_14, ixN_15_m1, ix_l0, ix_t0, ix_l1, ix_t1, ix_l2, ix_t2, ix_l3, ix_t3, ix_l4, ix_t4, ix_l5, ix_t5, ix_l6, ix_t6, ix_l7, ix_t7, ix_l8, ix_t8, ix_l9, ix_t9, ix_l10, ix_t10, ix_l11, ix_t11, ix_l12, ix_t12, ix_l13, ix_t13, ev_for, ev_iSeq, ev_mkI, ev_iter_l, ev_iter_t, ev_iter_s, ev_turn_nx, ev_turn_ct, ev_turn_bk, ev_turn_rt, ev_turn_ex, ev_loop0, ev_forR, ev_enum, ev_enumI, ev_zip, ev_wipe0, ev_wipe1, ev_un0, ev_un1, ev_unO_f, ev_unO_n, ev_comp, ev_lc0, ev_lcR0, ev_turnC, ev_tcR, ev_yes, ev_tryAs, ev_tryS_ex, ev_tryS_nx, ev_tryS_rt, ev_tryR, ev_gone_nx, ev_gone_rt, ev_nest, ev_isE, ev_sl, ev_part0, ev_part1, ev_partR, ev_sl_t, ev_sl_l, ev_cast0, ev_cast1, ev_cast2, ev_cast3, ev_cast4, ev_cast5, ev_cast6, ev_cast7, ev_cast8, ev_cast9, ev_cast10, ev_cast11, ev_cast12, ev_cast13, ev_cast14, ev_cast15, ev_cast16, ev_cast17, ev_cast18, ev_cast19, ev_cast20, ev_isi_tt, ev_isi_ti, ev_is_t, ev_isnot_t, ev_isnot_n, ev_zip_tt, ev_zip_ll, op_eqs, op_nes, ev_aug, ev_augR, ev_augS, ev_try, ev_tryT_ex, ev_tryT_nx, ev_tryT_rt, ev_tryT_bk, ev_tryT_ct, ev_tryU, ev_tryU0, ev_cold_nx, ev_cold_rt, back_eq, wipe_eq, unwipe_eq, List.getElem?_cons_zero, List.getElem?_cons_succ, List.set_cons_zero, List.set_cons_succ, Bool.and_true, Bool.true_and, Bool.or_true, Bool.true_or, Bool.or_false, Bool.false_or, Bool.and_false, Bool.false_and, Bool.not_true, Bool.not_false, List.length_cons, List.length_nil, List.map_cons, List.map_nil, List.replicate_succ, List.replicate_zero, List.cons_append, List.nil_append, if_true, if_false, Nat.reduceAdd, Nat.reduceEqDiff, beq_self_eq_true, reduceIte, Nat.zero_add, eq_self, SZ, List.contains_cons, List.contains_nil, Nat.reduceBEq, Nat.reduceLT, Nat.reduceLeDiff, Int.reduceToNat, Int.reducePow, Int.reduceAdd, Int.reduceSub, Int.reduceMul, Int.reduceNeg, Int.reduceLT, Int.reduceLE, Int.reduceEq, Int.reduceDiv, Int.reduceMod, Option.map_some, Option.map_none, cut1, rg1_eq, rb1_ok, rg2_eq, rb2_ok, bk_d0, bk_d1, bk_d2, bk_d3, bk_d4, bk_i0, bk_i1, bk_i2, bk_i3, hm, e, t1, t2, t3, t4, n1, decide_true]
  exact ⟨_, rfl⟩
end G

open PySem PySem.W PySem.Calls PyProof.Rows in
theorem PySem.Challenge.cw_swingposts_k03_places_by_side_holds : PySem.Challenge.rw_swingposts_k03_places_by_side.Holds := by
  w_on; o_law
  refine HandSHeadRun.head_any (r := OpenLaw.row PySem.Challenge.rw_swingposts_k03_places_by_side) (q := view (OpenLaw.row PySem.Challenge.rw_swingposts_k03_places_by_side).prog [30]) (H := G.hk) (ob := G.ob) (M := 40000) (loose := ((.cons "PostError" (.cons "InvalidPosts" (.cons "InvalidPlace" (.cons "InvalidSide" (.cons "InvalidNumber" (.cons "LEFT" (.cons "RIGHT" (.cons "is_integer" (.cons "is_side" (.cons "is_run" (.cons "is_posts" (.cons "check_posts" (.cons "count_posts" (.cons "is_place" (.cons "check_place" (.cons "place_of_side" (.cons "side_at" (.cons "place_of" (.cons "_law_source" (.cons "_law_draw" (.cons "_law_line" (.cons "_law_sides" (.cons "_law_packed" (.cons "_law_stepped" (.cons "_law_rows" (.cons "_law_right" (.cons "_law_small_right" .nil))))))))))))))))))))))))))) : List PySem.Str)) (d := HandSHeadRun.topDef (OpenLaw.row PySem.Challenge.rw_swingposts_k03_places_by_side).prog 30) (kwd := []) G.ob_eq
    (by kernel_rfl) (fun s => by kernel_rfl) G.run (by kernel_rfl) (by kernel_rfl) (by kernel_rfl) (by rfl) (by first | assumption | decide +kernel) (by decide +kernel) ⟨rfl, rfl, rfl, rfl, rfl, by decide +kernel⟩ ?hw ?hc
  case hw => w_witness2
  case hc =>
    refine Mi.walk_ofQ (l := PySem.Challenge.rw_swingposts_k03_places_by_side) (n := 63) (k := 7) (x := "script") rfl (by decide) (by kernel_rfl) ⟨rfl, by decide, by decide⟩ (f := G.Flaw) ?F G.law_true
    intro w mg fa h Y G0 hmg0
    obtain ⟨K, KX, c, e⟩ := Y
    have C := G.fc_of KX G0 c e
    have hmg : mg ("law" : PySem.Str) = some (.ref fa) := by
      have e : (HandSHeadRun.topDef (OpenLaw.row PySem.Challenge.rw_swingposts_k03_places_by_side).prog 30).name = ("law" : PySem.Str) := by kernel_rfl
      rw [← e]
      exact hmg0
    have ef : fa = He.ga K "law" := by
      have z := hmg.symm.trans C.g_law
      cases z
      rfl
    subst ef
    exact ⟨K, Mi.walk_end (P := PySem.Challenge.rw_swingposts_k03_places_by_side.prog) (w := w) KX C.d_law (fun fd F s v => L2.FunD.bindsA (ps := ["script"]) F (fun _ _ _ _ _ _ us hl => match us, hl with | [_], _ => rfl) s [v] rfl) fun base => G.ok_law (base := base) C⟩
